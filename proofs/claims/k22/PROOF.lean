import PyProof.Rows.All
import Wide.All
import OpenK.AllK
import Wide.FinOn
import HandS.ForMost
import HandS.ForExc
import HandS.Evl
import HandS.Style
import HandS.Deep
import HandS.IsInst
import HandS.WideBits
import HandS.Conv
import HandS.SortInts
import HandS.Sort
import KE.KExcSuper
import HandS.ExcInit
import HandS.WordsExc
import HandS.ExcField
import HandS.OwnEq
import PySem.Challenge.RW_orderforms_k22_whole_lattices_and_their
set_option Elab.async false
set_option linter.all false
set_option maxRecDepth 100000
set_option maxHeartbeats 4000000
/-! G1: plain data, its standing in a heap, the judgements over plain data -/
namespace G
open PySem L2 Evl

/-- plain data; cell a: the object at a that may still change -/
inductive Dt where
  | non | bl (b : Bool) | int (i : Int) | str (x : Str)
  | tup (xs : List Dt) | lst (xs : List Dt)
  | ins (C : Addr) (ns : List Str) (ws : List Dt)
  | cell (a : Addr) | scr (ns : List Int)

mutual
def Rp (K : PySem.W.Frag) (F : Hp) : Dt → V → Prop
  | .non, v => v = .non
  | .bl b, v => v = .bl b
  | .int i, v => v = .int i
  | .str x, v => v = .str x
  | .tup ds, v => ∃ a xs, v = .ref a ∧ F a = some (.tup xs) ∧ RpL K F ds xs
  | .lst ds, v => ∃ a xs, v = .ref a ∧ F a = some (.lst xs) ∧ RpL K F ds xs
  | .ins C ns ds, v => ∃ a dx xs, v = .ref a ∧ F a = some (.ins C dx (ns.zip xs)) ∧ RpL K F ds xs
  | .cell a, v => v = .ref a
  | .scr ns, v => ∃ a, v = .ref a ∧ SqL K F a (ns.map V.int)
def RpL (K : PySem.W.Frag) (F : Hp) : List Dt → List V → Prop
  | [], xs => xs = []
  | d :: ds, xs => ∃ x ys, xs = x :: ys ∧ Rp K F d x ∧ RpL K F ds ys
end

section
variable {K : PySem.W.Frag} {F F' : Hp}
mutual
theorem Rp.mono (e : Ex F F') : ∀ {d : Dt} {v : V}, Rp K F d v → Rp K F' d v
  | .non, _, h => h
  | .bl _, _, h => h
  | .int _, _, h => h
  | .str _, _, h => h
  | .tup _, _, ⟨a, xs, h1, h2, h3⟩ => ⟨a, xs, h1, e _ _ h2, RpL.mono e h3⟩
  | .lst _, _, ⟨a, xs, h1, h2, h3⟩ => ⟨a, xs, h1, e _ _ h2, RpL.mono e h3⟩
  | .ins _ _ _, _, ⟨a, dx, xs, h1, h2, h3⟩ => ⟨a, dx, xs, h1, e _ _ h2, RpL.mono e h3⟩
  | .cell _, _, h => h
  | .scr _, _, ⟨a, h1, h2⟩ => ⟨a, h1, ex_l e h2⟩
theorem RpL.mono (e : Ex F F') : ∀ {ds : List Dt} {xs : List V}, RpL K F ds xs → RpL K F' ds xs
  | [], _, h => h
  | _ :: _, _, ⟨x, ys, h1, h2, h3⟩ => ⟨x, ys, h1, Rp.mono e h2, RpL.mono e h3⟩
end
theorem RpL.length : ∀ {ds : List Dt} {xs : List V}, RpL K F ds xs → xs.length = ds.length
  | [], _, h => by
    have h1 : _ = [] := h
    subst h1
    exact rfl
  | _ :: _, _, ⟨x, ys, h1, h2, h3⟩ => by rw [h1, List.length_cons, List.length_cons, RpL.length h3]
theorem RpL.get : ∀ {ds : List Dt} {xs : List V} {i : Nat} {d : Dt}, RpL K F ds xs → ds[i]? = some d → ∃ x, xs[i]? = some x ∧ Rp K F d x
  | [], _, _, _, _, e => by simp at e
  | _ :: _, _, 0, d, ⟨x, ys, h1, h2, h3⟩, e => by
    subst h1
    have e' := Option.some.inj e
    subst e'
    exact ⟨x, rfl, h2⟩
  | _ :: _, _, i + 1, d, ⟨x, ys, h1, h2, h3⟩, e => by
    subst h1
    obtain ⟨y, q1, q2⟩ := RpL.get (i := i) (d := d) h3 (by simpa using e)
    exact ⟨y, by simpa using q1, q2⟩
theorem RpL.get' : ∀ {ds : List Dt} {xs : List V} {i : Nat} {x : V}, RpL K F ds xs → xs[i]? = some x → ∃ d, ds[i]? = some d ∧ Rp K F d x := fun {ds xs i x} h e => by
  have hl := h.length
  have hi := (List.getElem?_eq_some_iff.mp e).1
  have hd : ds[i]? = some (ds[i]'(by omega)) := List.getElem?_eq_getElem (by omega)
  obtain ⟨y, q1, q2⟩ := h.get hd
  rw [e] at q1
  cases q1
  exact ⟨_, hd, q2⟩
theorem RpL.append : ∀ {ds es : List Dt} {xs ys : List V}, RpL K F ds xs → RpL K F es ys → RpL K F (ds ++ es) (xs ++ ys)
  | [], _, _, _, h, h' => by
    have h1 : _ = [] := h
    subst h1
    exact h'
  | _ :: _, _, _, _, ⟨x, zs, h1, h2, h3⟩, h' => by
    subst h1
    exact ⟨x, _, rfl, h2, RpL.append h3 h'⟩
theorem RpL.set : ∀ {ds : List Dt} {xs : List V} {j : Nat} {d : Dt} {x : V}, RpL K F ds xs → Rp K F d x → RpL K F (ds.set j d) (xs.set j x)
  | [], _, _, _, _, h, _ => by
    have h1 : _ = [] := h
    subst h1
    exact rfl
  | _ :: _, _, 0, _, _, ⟨y, zs, h1, h2, h3⟩, h' => by
    subst h1
    exact ⟨_, _, rfl, h', h3⟩
  | _ :: _, _, j + 1, _, _, ⟨y, zs, h1, h2, h3⟩, h' => by
    subst h1
    exact ⟨y, _, rfl, h2, RpL.set h3 h'⟩
theorem RpL.eraseIdx : ∀ {ds : List Dt} {xs : List V} {j : Nat}, RpL K F ds xs → RpL K F (ds.eraseIdx j) (xs.eraseIdx j)
  | [], _, _, h => by
    have h1 : _ = [] := h
    subst h1
    exact rfl
  | _ :: _, _, 0, ⟨y, zs, h1, h2, h3⟩ => by
    subst h1
    exact h3
  | _ :: _, _, j + 1, ⟨y, zs, h1, h2, h3⟩ => by
    subst h1
    exact ⟨y, _, rfl, h2, RpL.eraseIdx h3⟩
theorem RpL.ints : ∀ {ns : List Int}, RpL K F (ns.map Dt.int) (ns.map V.int)
  | [] => rfl
  | _ :: _ => ⟨_, _, rfl, rfl, RpL.ints⟩
theorem RpL.of_ints : ∀ {ns : List Int} {xs : List V}, RpL K F (ns.map Dt.int) xs → xs = ns.map V.int
  | [], _, h => h
  | n :: ns, _, ⟨x, ys, h1, h2, h3⟩ => by
    have h2 : x = V.int n := h2
    rw [h1, h2, RpL.of_ints h3] <;> rfl
theorem RpL.bools : ∀ {ns : List Bool}, RpL K F (ns.map Dt.bl) (ns.map V.bl)
  | [] => rfl
  | _ :: _ => ⟨_, _, rfl, rfl, RpL.bools⟩
theorem RpL.one {d : Dt} {x : V} (h : Rp K F d x) : RpL K F [d] [x] := ⟨x, [], rfl, h, rfl⟩
theorem RpL.of_one {d : Dt} {xs : List V} (h : RpL K F [d] xs) : ∃ x, xs = [x] ∧ Rp K F d x := by
  obtain ⟨x, ys, h1, h2, h3⟩ := h
  have h3 : ys = [] := h3
  subst h3
  exact ⟨x, h1, h2⟩
theorem RpL.of_two {d e : Dt} {xs : List V} (h : RpL K F [d, e] xs) : ∃ x y, xs = [x, y] ∧ Rp K F d x ∧ Rp K F e y := by
  obtain ⟨x, ys, h1, h2, h3⟩ := h
  obtain ⟨y, q1, q2⟩ := h3.of_one
  subst q1
  exact ⟨x, y, h1, h2, q2⟩
end

/-- what a cell holds -/
inductive Ct where
  | l (ds : List Dt)
  | o (C : Addr) (ns : List Str) (ws : List Dt)
  | k (kvs : List (Key × V))
abbrev Cs := List (Addr × Ct)
def CtOk (K : PySem.W.Frag) (F : Hp) : Ct → HO → Prop
  | .l ds, o => ∃ vs, o = .lst vs ∧ RpL K F ds vs
  | .o C ns ws, o => ns.length = ws.length ∧ ∃ dx vs, o = .ins C dx (ns.zip vs) ∧ RpL K F ws vs
  | .k kvs, o => o = .dK kvs
theorem CtOk.mono {K : PySem.W.Frag} {F F' : Hp} (e : Ex F F') : ∀ {c : Ct} {o : HO}, CtOk K F c o → CtOk K F' c o
  | .l _, _, ⟨vs, h1, h2⟩ => ⟨vs, h1, h2.mono e⟩
  | .o _ _ _, _, ⟨h0, dx, vs, h1, h2⟩ => ⟨h0, dx, vs, h1, h2.mono e⟩
  | .k _, _, h => h

/-- the entry: what stands there for good, the heap, the addresses that may change -/
structure Ent where
  F0 : Hp
  H0 : Hp
  mu : List Addr
structure Hs (K : PySem.W.Frag) (T : Ent) (F H : Hp) (cs : Cs) : Prop where
  exF : Ex T.F0 F
  exH : Ex F H
  new : ∀ b o, F b = some o → T.F0 b = some o ∨ T.H0 b = none
  keep : ∀ b o, T.H0 b = some o → b ∉ T.mu → H b = some o
  cell : ∀ c ∈ cs, F c.1 = none ∧ (c.1 ∈ T.mu ∨ T.H0 c.1 = none) ∧ ∃ o, H c.1 = some o ∧ CtOk K F c.2 o
  nd : (cs.map (·.1)).Nodup
  mus : ∀ b ∈ T.mu, b ∈ cs.map (·.1)

abbrev Rho := List (Option Dt)
def EnvOk (K : PySem.W.Frag) (F : Hp) (ρ : Rho) (σ : L2.St) : Prop := ρ.length = σ.length ∧ ∀ (i : Nat) (d : Dt), ρ[i]? = some (some d) → ∃ v, σ[i]? = some (some v) ∧ Rp K F d v

section
variable {K : PySem.W.Frag} {T : Ent} {F F' H H' : Hp} {cs : Cs} {ρ : Rho} {σ : L2.St}
theorem EnvOk.mono (h : EnvOk K F ρ σ) (e : Ex F F') : EnvOk K F' ρ σ := ⟨h.1, fun i d q => let ⟨v, h1, h2⟩ := h.2 i d q; ⟨v, h1, h2.mono e⟩⟩
theorem EnvOk.set {i : Nat} {d : Dt} {v : V} (h : EnvOk K F ρ σ) (r : Rp K F d v) : EnvOk K F (ρ.set i (some d)) (σ.set i (some v)) := by
  refine ⟨by rw [List.length_set, List.length_set]; exact h.1, fun j e q => ?_⟩
  by_cases hj : i = j
  · subst hj
    by_cases hi : i < ρ.length
    · rw [List.getElem?_set_self hi] at q
      cases q
      exact ⟨v, List.getElem?_set_self (by rw [← h.1]; exact hi), r⟩
    · rw [List.getElem?_eq_none (by simpa using hi)] at q
      cases q
  · rw [List.getElem?_set_ne hj] at q
    rw [List.getElem?_set_ne hj]
    exact h.2 j e q
/-- weaker: some slots forgotten -/
theorem EnvOk.weak {ρ' : Rho} (h : EnvOk K F ρ σ) (hl : ρ'.length = ρ.length) (w : ∀ (i : Nat) d, ρ'[i]? = some (some d) → ρ[i]? = some (some d)) : EnvOk K F ρ' σ :=
  ⟨hl.trans h.1, fun i d q => h.2 i d (w i d q)⟩
def wipeR (ρ : Rho) : List Nat → Rho
  | [] => ρ
  | v :: vs => (wipeR ρ vs).set v none
theorem EnvOk.wipe : ∀ {vs : List Nat}, EnvOk K F ρ σ → EnvOk K F (wipeR ρ vs) (L2.wipe σ vs)
  | [], h => h
  | v :: vs, h => by
    have ih := EnvOk.wipe (vs := vs) h
    refine ⟨?_, fun j e q => ?_⟩
    · show ((wipeR ρ vs).set v none).length = ((L2.wipe σ vs).set v none).length
      rw [List.length_set, List.length_set]
      exact ih.1
    · have q : ((wipeR ρ vs).set v none)[j]? = some (some e) := q
      show ∃ x, ((L2.wipe σ vs).set v none)[j]? = some (some x) ∧ _
      by_cases hj : v = j
      · subst hj
        by_cases hi : v < (wipeR ρ vs).length
        · rw [List.getElem?_set_self hi] at q
          cases q
        · rw [List.getElem?_eq_none (by simpa using hi)] at q
          cases q
      · rw [List.getElem?_set_ne hj] at q
        rw [List.getElem?_set_ne hj]
        exact ih.2 j e q

theorem Hs.lift (h : Hs K T F H cs) (e : Ex H H') : Hs K T F H' cs :=
  ⟨h.exF, h.exH.trans e, h.new, fun b o q m => e b o (h.keep b o q m), fun c hc => let ⟨a, b, o, x, y⟩ := h.cell c hc; ⟨a, b, o, e _ _ x, y⟩, h.nd, h.mus⟩
/-- what is new above H is new above the entry -/
theorem Hs.fresh (h : Hs K T F H cs) {p : Addr} (hp : H p = none) : F p = none ∧ T.H0 p = none ∧ p ∉ cs.map (·.1) := by
  have h1 : p ∉ cs.map (·.1) := fun hm => by
    obtain ⟨c, hc, e⟩ := List.mem_map.mp hm
    obtain ⟨_, _, o, x, _⟩ := h.cell c hc
    rw [e, hp] at x
    cases x
  refine ⟨fresh_back h.exH hp, ?_, h1⟩
  cases q : T.H0 p with
  | none => rfl
  | some o =>
    by_cases hm : p ∈ T.mu
    · exact absurd (h.mus p hm) h1
    · rw [h.keep p o q hm] at hp
      cases hp
/-- a new object for good -/
theorem Hs.laid (h : Hs K T F H cs) {p : Addr} (hp : H p = none) (o : HO) : Ex F (upd F p o) ∧ Hs K T (upd F p o) (upd H p o) cs := by
  obtain ⟨f1, f2, f3⟩ := h.fresh hp
  have e1 : Ex F (upd F p o) := Ex.new f1
  refine ⟨e1, h.exF.trans e1, fun b u q => ?_, fun b u q => ?_, fun b u q m => Ex.new hp b u (h.keep b u q m), fun c hc => ?_, h.nd, h.mus⟩
  · by_cases hb : b = p
    · subst hb
      rw [upd_same] at q ⊢
      exact q
    · rw [upd_ne hb] at q ⊢
      exact h.exH b u q
  · by_cases hb : b = p
    · subst hb
      exact .inr f2
    · rw [upd_ne hb] at q
      exact h.new b u q
  · obtain ⟨a, b, u, x, y⟩ := h.cell c hc
    have hne : c.1 ≠ p := fun e => f3 (by rw [← e]; exact List.mem_map_of_mem hc)
    exact ⟨by rw [upd_ne hne]; exact a, b, u, by rw [upd_ne hne]; exact x, y.mono e1⟩
/-- a new object as a cell -/
theorem Hs.laidC (h : Hs K T F H cs) {p : Addr} (hp : H p = none) {o : HO} {c : Ct} (hc : CtOk K F c o) : Hs K T F (upd H p o) ((p, c) :: cs) := by
  obtain ⟨f1, f2, f3⟩ := h.fresh hp
  have e1 : Ex H (upd H p o) := Ex.new hp
  refine ⟨h.exF, h.exH.trans e1, h.new, fun b u q m => e1 b u (h.keep b u q m), fun d hd => ?_, ?_, fun b hb => ?_⟩
  · rcases List.mem_cons.mp hd with rfl | hd
    · exact ⟨f1, .inr f2, o, upd_same, hc⟩
    · obtain ⟨a, b, u, x, y⟩ := h.cell d hd
      exact ⟨a, b, u, e1 _ _ x, y⟩
  · rw [List.map_cons]
    exact List.nodup_cons.mpr ⟨f3, h.nd⟩
  · rw [List.map_cons]
    exact List.mem_cons_of_mem _ (h.mus b hb)
/-- a cell is written -/
theorem Hs.write (h : Hs K T F H cs) {k : Nat} {a : Addr} {c c' : Ct} (hk : cs[k]? = some (a, c)) {o : HO} (hc : CtOk K F c' o) : Hs K T F (upd H a o) (cs.set k (a, c')) := by
  have ha : (a, c) ∈ cs := List.mem_of_getElem? hk
  obtain ⟨f1, f2, u, x, y⟩ := h.cell _ ha
  have hm : (cs.set k (a, c')).map (·.1) = cs.map (·.1) := by
    rw [List.map_set]
    refine List.ext_getElem? fun j => ?_
    by_cases hj : k = j
    · subst hj
      have hl := (List.getElem?_eq_some_iff.mp hk).1
      rw [List.getElem?_set_self (by simpa using hl), List.getElem?_map, hk] <;> rfl
    · rw [List.getElem?_set_ne hj]
  have hne : ∀ j d, cs[j]? = some d → k ≠ j → d.1 ≠ a := fun j d q hj e => by
    have q1 : (cs.map (·.1))[k]? = some a := by rw [List.getElem?_map, hk] <;> rfl
    have q2 : (cs.map (·.1))[j]? = some a := by rw [List.getElem?_map, q, ← e] <;> rfl
    exact hj (nd_ix h.nd q1 q2)
  refine ⟨h.exF, fun b u' q => ?_, h.new, fun b u' q m => ?_, fun d hd => ?_, by rw [hm]; exact h.nd, fun b hb => by rw [hm]; exact h.mus b hb⟩
  · have hb : b ≠ a := fun e => by
      rw [e, f1] at q
      cases q
    rw [upd_ne hb]
    exact h.exH b u' q
  · have hb : b ≠ a := fun e => by
      subst e
      rcases f2 with f2 | f2
      · exact m f2
      · rw [f2] at q
        cases q
    rw [upd_ne hb]
    exact h.keep b u' q m
  · obtain ⟨j, hj, ej⟩ := List.mem_iff_getElem.mp hd
    have qj : (cs.set k (a, c'))[j]? = some d := by rw [← ej]; exact List.getElem?_eq_getElem hj
    by_cases hkj : k = j
    · subst hkj
      rw [List.getElem?_set_self (by simpa using hj)] at qj
      cases qj
      exact ⟨f1, f2, o, upd_same, hc⟩
    · rw [List.getElem?_set_ne hkj] at qj
      have hda := hne j d qj hkj
      obtain ⟨a1, b1, u1, x1, y1⟩ := h.cell d (List.mem_of_getElem? qj)
      exact ⟨a1, b1, u1, by rw [upd_ne hda]; exact x1, y1⟩
/-- the cells that may change stand last -/
def Pre (T : Ent) (cs : Cs) (k : Nat) : Prop := ∃ j, k < j ∧ (cs.map (·.1)).drop j = T.mu
theorem nd_drop {α : Type} {l : List α} (h : l.Nodup) {k j : Nat} {a : α} (hk : l[k]? = some a) (hj : k < j) : a ∉ l.drop j := fun hm => by
  obtain ⟨i, hi, e⟩ := List.mem_iff_getElem.mp hm
  have q : l[j + i]? = some a := by
    rw [← e, ← List.getElem?_eq_getElem hi, List.getElem?_drop]
  exact absurd (nd_ix h hk q) (by omega)
theorem map_erase {α β : Type} (f : α → β) : ∀ (l : List α) (k : Nat), (l.eraseIdx k).map f = (l.map f).eraseIdx k
  | [], _ => rfl
  | _ :: _, 0 => rfl
  | a :: l, k + 1 => by
    show f a :: (l.eraseIdx k).map f = f a :: (l.map f).eraseIdx k
    rw [map_erase f l k]
/-- a cell is let be: from now on it stands for good -/
theorem Hs.freezeM (h : Hs K T F H cs) {k : Nat} {a : Addr} {c : Ct} (hk : cs[k]? = some (a, c)) (nmu : a ∉ T.mu) : ∃ o, H a = some o ∧ CtOk K F c o ∧ Ex F (upd F a o) ∧ Hs K T (upd F a o) H (cs.eraseIdx k) := by
  have ha : (a, c) ∈ cs := List.mem_of_getElem? hk
  obtain ⟨f1, f2, o, x, y⟩ := h.cell _ ha
  have e1 : Ex F (upd F a o) := Ex.new f1
  have qk : (cs.map (·.1))[k]? = some a := by rw [List.getElem?_map, hk] <;> rfl
  have hfr : T.H0 a = none := by
    rcases f2 with f2 | f2
    · exact absurd f2 nmu
    · exact f2
  have hmap : (cs.eraseIdx k).map (·.1) = (cs.map (·.1)).eraseIdx k := by
    exact map_erase _ _ _
  have hsub : ∀ d ∈ cs.eraseIdx k, d ∈ cs ∧ d.1 ≠ a := fun d hd => by
    obtain ⟨j, hj, ej⟩ := List.mem_eraseIdx_iff_getElem?.mp hd
    refine ⟨List.mem_of_getElem? ej, fun e => ?_⟩
    have q2 : (cs.map (·.1))[j]? = some a := by rw [List.getElem?_map, ej, ← e] <;> rfl
    exact hj (nd_ix h.nd qk q2).symm
  refine ⟨o, x, y, e1, h.exF.trans e1, fun b u q => ?_, fun b u q => ?_, h.keep, fun d hd => ?_, ?_, fun b hb => ?_⟩
  · by_cases hb : b = a
    · subst hb
      rw [upd_same] at q
      cases q
      exact x
    · rw [upd_ne hb] at q
      exact h.exH b u q
  · by_cases hb : b = a
    · subst hb
      exact .inr hfr
    · rw [upd_ne hb] at q
      exact h.new b u q
  · obtain ⟨hd1, hd2⟩ := hsub d hd
    obtain ⟨a1, b1, u1, x1, y1⟩ := h.cell d hd1
    exact ⟨by rw [upd_ne hd2]; exact a1, b1, u1, x1, y1.mono e1⟩
  · rw [hmap]
    exact h.nd.eraseIdx k
  · rw [hmap]
    have hb' := h.mus b hb
    obtain ⟨j, hj, ej⟩ := List.mem_iff_getElem.mp hb'
    refine List.mem_eraseIdx_iff_getElem?.mpr ⟨j, fun e => ?_, by rw [← ej]; exact List.getElem?_eq_getElem hj⟩
    subst e
    have : (cs.map (·.1))[j]? = some b := by rw [← ej]; exact List.getElem?_eq_getElem hj
    rw [qk] at this
    cases this
    exact nmu hb
theorem Hs.freeze (h : Hs K T F H cs) {k : Nat} {a : Addr} {c : Ct} (hk : cs[k]? = some (a, c)) (hp : Pre T cs k) : ∃ o, H a = some o ∧ CtOk K F c o ∧ Ex F (upd F a o) ∧ Hs K T (upd F a o) H (cs.eraseIdx k) := by
  refine h.freezeM hk ?_
  obtain ⟨j, hj, e⟩ := hp
  rw [← e]
  exact nd_drop h.nd (by rw [List.getElem?_map, hk] <;> rfl) hj
/-- the cells in another order -/
theorem Hs.perm {cs' : Cs} (h : Hs K T F H cs) (p : cs.Perm cs') : Hs K T F H cs' :=
  ⟨h.exF, h.exH, h.new, h.keep, fun c hc => h.cell c (p.mem_iff.mpr hc), (p.map _).nodup_iff.mp h.nd, fun b hb => (p.map _).mem_iff.mp (h.mus b hb)⟩
end
end G
/-! G2: the judgements, statements, loops, comprehensions, calls -/
namespace G
open PySem L2 Evl

section
variable {X : Cx}
/-! ### what a piece of text does, as a reading of its own -/
def wE (X : Cx) (e : Expr) : TE := fun σ H Q => ∀ pins s, Inv X pins σ H s → wpAny (model X.prog X.w) X.A (eval e X.env) (EP X pins σ Q) X.xe s
def wT (X : Cx) (e : Expr) : TT := fun σ H Q => ∀ pins s, Inv X pins σ H s → wpAny (model X.prog X.w) X.A (isTrue e X.env (eval e X.env)) (TP X pins σ Q) X.xe s
def wA (X : Cx) (es : List Expr) : TA := fun σ H Q => ∀ (pos : Pos) pins s, Inv X pins σ H s → wpAny (model X.prog X.w) X.A (spliced (backTo pos (starEach es X.env))) (AP X pins σ Q) X.xe s
def wS (X : Cx) (st : Stmt) : TS := fun D σ H => ∀ pins s, Inv X pins σ H s → wpAny (model X.prog X.w) X.A (exec st X.env) (SP X pins D) X.xe s
def wSs (X : Cx) (st : List Stmt) : TS := fun D σ H => ∀ pins s, Inv X pins σ H s → wpAny (model X.prog X.w) X.A (execs st X.env) (SP X pins D) X.xe s
def wG (X : Cx) (tg : Expr) : TG := fun v σ H Q => ∀ pins s u, Inv X pins σ H s → RelV v u → wpAny (model X.prog X.w) X.A (assign tg X.env u) (fun _ s' => ∃ σ' H', Inv X pins σ' H' s' ∧ Q σ' H') X.xe s
def wI (X : Cx) (tg iter : Expr) : TI := fun σ H R => ∀ pins s, Inv X pins σ H s → wpAny (model X.prog X.w) X.A (eval iter X.env) (fun v s1 => wpAny (model X.prog X.w) X.A (pyIter v) (PIE X pins σ tg R) X.xe s1) X.xe s
def wTs (X : Cx) (ifs : List Expr) : TT := fun σ H Q => ∀ pins s, Inv X pins σ H s →
  wpAny (model X.prog X.w) X.A (forIn ifs true fun c r => if r = true then do let ok ← isTrue c X.env (eval c X.env); pure (ForInStep.yield ok) else pure (ForInStep.yield r)) (TP X pins σ Q) X.xe s
theorem pe_w {e : Expr} : PE X e (wE X e) := ⟨fun pins s σ H Q I h => h pins s I⟩
theorem pt_w {e : Expr} : PT X e (wT X e) := ⟨fun pins s σ H Q I h => h pins s I⟩
theorem pa_w {es : List Expr} : PA X es (wA X es) := ⟨fun pos pins s σ H Q I h => h pos pins s I⟩
theorem ps_w {st : Stmt} : PS X st (wS X st) := ⟨fun pins s σ H D I h => h pins s I⟩
theorem pss_w {st : List Stmt} : PSs X st (wSs X st) := ⟨fun pins s σ H D I h => h pins s I⟩
theorem pg_w {tg : Expr} : PG X tg (wG X tg) := ⟨fun pins s σ H v u Q I r h => h pins s u I r⟩
theorem pi_w {tg iter : Expr} : PI X tg iter (wI X tg iter) := ⟨fun pins s σ H R I h => h pins s I⟩
theorem wE_of {e : Expr} {te : TE} {σ : L2.St} {H : Hp} {Q : VK} (p : PE X e te) (h : te σ H Q) : wE X e σ H Q := fun pins s I => p.run pins s σ H Q I h
theorem wT_of {e : Expr} {te : TT} {σ : L2.St} {H : Hp} {Q : Bool → Hp → Prop} (p : PT X e te) (h : te σ H Q) : wT X e σ H Q := fun pins s I => p.run pins s σ H Q I h
theorem wA_of {es : List Expr} {te : TA} {σ : L2.St} {H : Hp} {Q : List V → Hp → Prop} (p : PA X es te) (h : te σ H Q) : wA X es σ H Q := fun pos pins s I => p.run pos pins s σ H Q I h
theorem wS_of {e : Stmt} {te : TS} {σ : L2.St} {H : Hp} {D : Ends} (p : PS X e te) (h : te D σ H) : wS X e D σ H := fun pins s I => p.run pins s σ H D I h
theorem wSs_of {e : List Stmt} {te : TS} {σ : L2.St} {H : Hp} {D : Ends} (p : PSs X e te) (h : te D σ H) : wSs X e D σ H := fun pins s I => p.run pins s σ H D I h
theorem wG_of {e : Expr} {te : TG} {σ : L2.St} {H : Hp} {v : V} {Q : L2.St → Hp → Prop} (p : PG X e te) (h : te v σ H Q) : wG X e v σ H Q := fun pins s u I r => p.run pins s σ H v u Q I r h
theorem wI_of {tg iter : Expr} {te : TI} {σ : L2.St} {H : Hp} {R : It → Hp → Prop} (p : PI X tg iter te) (h : te σ H R) : wI X tg iter σ H R := fun pins s I => p.run pins s σ H R I h
theorem wTs_of {ifs : List Expr} {te : TT} {σ : L2.St} {H : Hp} {Q : Bool → Hp → Prop} (p : PTs X ifs te) (h : te σ H Q) : wTs X ifs σ H Q := fun pins s I => p.run pins s σ H Q I h
theorem wE_mono {e : Expr} {σ : L2.St} {H : Hp} {Q Q' : VK} (h : wE X e σ H Q) (k : ∀ v H', Q v H' → Q' v H') : wE X e σ H Q' := fun pins s I =>
  thn (h pins s I) fun u s' ⟨v, H', I', r, q⟩ => ⟨v, H', I', r, k _ _ q⟩
theorem wT_mono {e : Expr} {σ : L2.St} {H : Hp} {Q Q' : Bool → Hp → Prop} (h : wT X e σ H Q) (k : ∀ v H', Q v H' → Q' v H') : wT X e σ H Q' := fun pins s I =>
  thn (h pins s I) fun u s' ⟨H', I', q⟩ => ⟨H', I', k _ _ q⟩
theorem wTs_mono {e : List Expr} {σ : L2.St} {H : Hp} {Q Q' : Bool → Hp → Prop} (h : wTs X e σ H Q) (k : ∀ v H', Q v H' → Q' v H') : wTs X e σ H Q' := fun pins s I =>
  thn (h pins s I) fun u s' ⟨H', I', q⟩ => ⟨H', I', k _ _ q⟩
theorem wA_mono {es : List Expr} {σ : L2.St} {H : Hp} {Q Q' : List V → Hp → Prop} (h : wA X es σ H Q) (k : ∀ v H', Q v H' → Q' v H') : wA X es σ H Q' := fun pos pins s I =>
  thn (h pos pins s I) fun u s' ⟨v, H', I', r, q⟩ => ⟨v, H', I', r, k _ _ q⟩
theorem wG_mono {e : Expr} {σ : L2.St} {H : Hp} {v : V} {Q Q' : L2.St → Hp → Prop} (h : wG X e v σ H Q) (k : ∀ σ' H', Q σ' H' → Q' σ' H') : wG X e v σ H Q' := fun pins s u I r =>
  thn (h pins s u I r) fun _ s' ⟨v, H', I', q⟩ => ⟨v, H', I', k _ _ q⟩
theorem wI_mono {tg iter : Expr} {σ : L2.St} {H : Hp} {Q Q' : It → Hp → Prop} (h : wI X tg iter σ H Q) (k : ∀ σ' H', Q σ' H' → Q' σ' H') : wI X tg iter σ H Q' := fun pins s I =>
  thn (h pins s I) fun v s1 h1 => thn h1 fun u s2 ⟨it, fp, tn, J, H', e, I', T, a, b, c⟩ => ⟨it, fp, tn, J, H', e, I', T, a, b, k _ _ c⟩
structure EndsLe (D D' : Ends) : Prop where
  nx : ∀ σ H, D.nx σ H → D'.nx σ H
  rt : ∀ v H, D.rt v H → D'.rt v H
  bk : ∀ σ H, D.bk σ H → D'.bk σ H
  ct : ∀ σ H, D.ct σ H → D'.ct σ H
theorem sp_mono {pins : List (Addr × Obj)} {D D' : Ends} (k : EndsLe D D') {f : Flow} {s' : Shared} (h : SP X pins D f s') : SP X pins D' f s' := by
  cases f with
  | next => obtain ⟨σ', H', I, q⟩ := h; exact ⟨σ', H', I, k.nx _ _ q⟩
  | brk => obtain ⟨σ', H', I, q⟩ := h; exact ⟨σ', H', I, k.bk _ _ q⟩
  | cont => obtain ⟨σ', H', I, q⟩ := h; exact ⟨σ', H', I, k.ct _ _ q⟩
  | ret u => obtain ⟨v, σ', H', I, r, q⟩ := h; exact ⟨v, σ', H', I, r, k.rt _ _ q⟩
theorem wS_mono {e : Stmt} {σ : L2.St} {H : Hp} {D D' : Ends} (h : wS X e D σ H) (k : EndsLe D D') : wS X e D' σ H := fun pins s I => thn (h pins s I) fun u s' q => sp_mono k q
theorem wSs_mono {e : List Stmt} {σ : L2.St} {H : Hp} {D D' : Ends} (h : wSs X e D σ H) (k : EndsLe D D') : wSs X e D' σ H := fun pins s I => thn (h pins s I) fun u s' q => sp_mono k q
end

/-! ### the judgements over plain data -/
def RQ (K : PySem.W.Frag) (T : Ent) (F : Hp) (P : Dt → Cs → Prop) : VK := fun v H' => ∃ F' d cs', Ex F F' ∧ Hs K T F' H' cs' ∧ Rp K F' d v ∧ P d cs'
def RB (K : PySem.W.Frag) (T : Ent) (F : Hp) (P : Bool → Cs → Prop) : Bool → Hp → Prop := fun b H' => ∃ F' cs', Ex F F' ∧ Hs K T F' H' cs' ∧ P b cs'
def RA (K : PySem.W.Frag) (T : Ent) (F : Hp) (P : List Dt → Cs → Prop) : List V → Hp → Prop := fun vs H' => ∃ F' ds cs', Ex F F' ∧ Hs K T F' H' cs' ∧ RpL K F' ds vs ∧ P ds cs'
def RN (K : PySem.W.Frag) (T : Ent) (F : Hp) (P : Rho → Cs → Prop) : L2.St → Hp → Prop := fun σ' H' => ∃ F' ρ' cs', Ex F F' ∧ EnvOk K F' ρ' σ' ∧ Hs K T F' H' cs' ∧ P ρ' cs'
structure AE where
  nx : Rho → Cs → Prop
  rt : Dt → Cs → Prop
  bk : Rho → Cs → Prop := fun _ _ => False
  ct : Rho → Cs → Prop := fun _ _ => False
def rE (K : PySem.W.Frag) (T : Ent) (F : Hp) (E : AE) : Ends := { nx := RN K T F E.nx, rt := RQ K T F E.rt, bk := RN K T F E.bk, ct := RN K T F E.ct }

section
variable {K : PySem.W.Frag} {T : Ent} {F F' H : Hp}
theorem RQ.up {P P' : Dt → Cs → Prop} (e : Ex F F') (k : ∀ d cs, P d cs → P' d cs) {v : V} (h : RQ K T F' P v H) : RQ K T F P' v H := let ⟨G, d, cs, a, b, c, q⟩ := h; ⟨G, d, cs, e.trans a, b, c, k _ _ q⟩
theorem RB.up {P P' : Bool → Cs → Prop} (e : Ex F F') (k : ∀ d cs, P d cs → P' d cs) {v : Bool} (h : RB K T F' P v H) : RB K T F P' v H := let ⟨G, cs, a, b, q⟩ := h; ⟨G, cs, e.trans a, b, k _ _ q⟩
theorem RA.up {P P' : List Dt → Cs → Prop} (e : Ex F F') (k : ∀ d cs, P d cs → P' d cs) {v : List V} (h : RA K T F' P v H) : RA K T F P' v H := let ⟨G, d, cs, a, b, c, q⟩ := h; ⟨G, d, cs, e.trans a, b, c, k _ _ q⟩
theorem RN.up {P P' : Rho → Cs → Prop} (e : Ex F F') (k : ∀ d cs, P d cs → P' d cs) {σ : L2.St} (h : RN K T F' P σ H) : RN K T F P' σ H := let ⟨G, d, cs, a, b, c, q⟩ := h; ⟨G, d, cs, e.trans a, b, c, k _ _ q⟩
theorem rE_le (e : Ex F F') {E : AE} : EndsLe (rE K T F' E) (rE K T F E) :=
  ⟨fun _ _ => RN.up e fun _ _ q => q, fun _ _ => RQ.up e fun _ _ q => q, fun _ _ => RN.up e fun _ _ q => q, fun _ _ => RN.up e fun _ _ q => q⟩
end

def Ax (X : Cx) (T : Ent) (e : Expr) (ρ : Rho) (cs : Cs) (P : Dt → Cs → Prop) : Prop := ∀ σ F H, EnvOk X.K F ρ σ → Hs X.K T F H cs → wE X e σ H (RQ X.K T F P)
def At (X : Cx) (T : Ent) (e : Expr) (ρ : Rho) (cs : Cs) (P : Bool → Cs → Prop) : Prop := ∀ σ F H, EnvOk X.K F ρ σ → Hs X.K T F H cs → wT X e σ H (RB X.K T F P)
def Ats (X : Cx) (T : Ent) (e : List Expr) (ρ : Rho) (cs : Cs) (P : Bool → Cs → Prop) : Prop := ∀ σ F H, EnvOk X.K F ρ σ → Hs X.K T F H cs → wTs X e σ H (RB X.K T F P)
def Aa (X : Cx) (T : Ent) (es : List Expr) (ρ : Rho) (cs : Cs) (P : List Dt → Cs → Prop) : Prop := ∀ σ F H, EnvOk X.K F ρ σ → Hs X.K T F H cs → wA X es σ H (RA X.K T F P)
def A1 (X : Cx) (T : Ent) (st : Stmt) (ρ : Rho) (cs : Cs) (E : AE) : Prop := ∀ σ F H, EnvOk X.K F ρ σ → Hs X.K T F H cs → wS X st (rE X.K T F E) σ H
def As (X : Cx) (T : Ent) (st : List Stmt) (ρ : Rho) (cs : Cs) (E : AE) : Prop := ∀ σ F H, EnvOk X.K F ρ σ → Hs X.K T F H cs → wSs X st (rE X.K T F E) σ H
def Ag (X : Cx) (T : Ent) (tg : Expr) (d : Dt) (ρ : Rho) (cs : Cs) (P : Rho → Cs → Prop) : Prop := ∀ σ F H v, EnvOk X.K F ρ σ → Hs X.K T F H cs → Rp X.K F d v → wG X tg v σ H (RN X.K T F P)

section
variable {X : Cx} {T : Ent} {ρ : Rho} {cs : Cs}
/-! ### names, constants -/
theorem ax_int {i j pos} {P : Dt → Cs → Prop} (h : P (.int i) cs) : Ax X T (.Constant (.int i) j pos) ρ cs P := fun σ F H he hh => wE_of pe_int ⟨F, .int i, cs, Ex.refl _, hh, rfl, h⟩
theorem ax_bl {i j pos} {P : Dt → Cs → Prop} (h : P (.bl i) cs) : Ax X T (.Constant (.bool i) j pos) ρ cs P := fun σ F H he hh => wE_of pe_bl ⟨F, .bl i, cs, Ex.refl _, hh, rfl, h⟩
theorem ax_non {j pos} {P : Dt → Cs → Prop} (h : P .non cs) : Ax X T (.Constant .none j pos) ρ cs P := fun σ F H he hh => wE_of pe_non ⟨F, .non, cs, Ex.refl _, hh, rfl, h⟩
theorem ax_str {i j pos} {P : Dt → Cs → Prop} (h : P (.str i) cs) : Ax X T (.Constant (.str i) j pos) ρ cs P := fun σ F H he hh => wE_of pe_str ⟨F, .str i, cs, Ex.refl _, hh, rfl, h⟩
theorem ax_v (i : Nat) {x : Str} {pos : Pos} {d : Dt} {P : Dt → Cs → Prop} (hN : X.N[i]? = some x) (hr : ρ[i]? = some (some d)) (hv : Vis X.env.scope x) (hd : (x == ("__debug__" : Str)) = false)
    (hcd : (x == ("__classdict__" : Str)) = false) (h : P d cs) : Ax X T (.Name x pos) ρ cs P := fun σ F H he hh => by
  obtain ⟨v, h1, h2⟩ := he.2 i d hr
  exact wE_of (pe_var hN hv hd hcd) ⟨v, h1, F, d, cs, Ex.refl _, hh, h2, h⟩
/-- a module's whole number -/
theorem ax_gint {x : Str} {i : Int} {t : Tok} {pos : Pos} {P : Dt → Cs → Prop} (hg : Gl X x) (hm : X.mg x = some (.int i t)) (hd : (x == ("__debug__" : Str)) = false) (h : P (.int i) cs) : Ax X T (.Name x pos) ρ cs P :=
  fun σ F H he hh => wE_of (pe_glob (v := .int i) hg hm ⟨_, rfl⟩ hd) ⟨F, .int i, cs, Ex.refl _, hh, rfl, h⟩

/-! ### operators -/
/-- an operation on two plain data -/
def OpD (K : PySem.W.Frag) (T : Ent) (r : R2) (d e : Dt) (cs : Cs) (P : Dt → Cs → Prop) : Prop := ∀ Fb F H x y, Ex Fb F → Hs K T F H cs → Rp K F d x → Rp K F e y → r x y H (RQ K T Fb P)
theorem ax_two {e : Expr} {a b : Expr} {r : R2} {P : Dt → Cs → Prop} (hp : PE X e (tOp r (wE X a) (wE X b))) (h : Ax X T a ρ cs fun d cs1 => Ax X T b ρ cs1 fun e cs2 => OpD X.K T r d e cs2 P) : Ax X T e ρ cs P := fun σ F H he hh =>
  wE_of hp (wE_mono (h σ F H he hh) fun v H1 ⟨F1, d, cs1, e1, h1, r1, q1⟩ => wE_mono (q1 σ F1 H1 (he.mono e1) h1) fun u H2 ⟨F2, e', cs2, e2, h2, r2, q2⟩ =>
    q2 F F2 H2 v u (e1.trans e2) h2 (r1.mono e2) r2)
theorem ax_bin {op : Operator} {a b : Expr} {pos : Pos} {r : R2} {P : Dt → Cs → Prop} (ho : OpR X (binaryOp op) r) (h : Ax X T a ρ cs fun d cs1 => Ax X T b ρ cs1 fun e cs2 => OpD X.K T r d e cs2 P) : Ax X T (.BinOp a op b pos) ρ cs P :=
  ax_two (pe_op ho pe_w pe_w) h
theorem ax_cmp {op : CmpOp} {a b : Expr} {pos : Pos} {r : R2} {P : Dt → Cs → Prop} (ho : OpR X (compareOp op) r) (hm : behindInMarks op b = false) (h : Ax X T a ρ cs fun d cs1 => Ax X T b ρ cs1 fun e cs2 => OpD X.K T r d e cs2 P) : Ax X T (.Compare a [op] [b] pos) ρ cs P :=
  ax_two (pe_cmpR ho pe_w pe_w hm) h
/-- the answer a flat one -/
theorem RQ.flat {K : PySem.W.Frag} {F Fb H : Hp} {d : Dt} {v : V} {P : Dt → Cs → Prop} (e : Ex Fb F) (h : Hs K T F H cs) (r : Rp K F d v) (q : P d cs) : RQ K T Fb P v H := ⟨F, d, cs, e, h, r, q⟩
/-- a new object's place -/
theorem RQ.new {K : PySem.W.Frag} {F Fb H : Hp} {p : Addr} {o : HO} {d : Dt} {P : Dt → Cs → Prop} (e : Ex Fb F) (h : Hs K T F H cs) (hp : H p = none) (r : Rp K (upd F p o) d (.ref p)) (q : P d cs) : RQ K T Fb P (.ref p) (upd H p o) :=
  let ⟨e1, h1⟩ := h.laid hp o
  ⟨_, d, cs, e.trans e1, h1, r, q⟩
theorem RQ.newC {K : PySem.W.Frag} {F Fb H : Hp} {p : Addr} {o : HO} {c : Ct} {P : Dt → Cs → Prop} (e : Ex Fb F) (h : Hs K T F H cs) (hp : H p = none) (r : CtOk K F c o) (q : P (.cell p) ((p, c) :: cs)) : RQ K T Fb P (.ref p) (upd H p o) :=
  ⟨F, .cell p, _, e, h.laidC hp r, rfl, q⟩
section
variable {a b : Expr} {pos : Pos} {P : Dt → Cs → Prop}
theorem opd_I {K : PySem.W.Frag} {C : Int → Int → Prop} {g : Int → Int → V} {d e : Dt} {w : Dt} {i j : Int} (hd : d = .int i) (he : e = .int j) (hC : C i j) (hw : ∀ F, Rp K F w (g i j)) (h : P w cs) : OpD K T (rI C g) d e cs P := fun Fb F H x y e1 hh rx ry => by
  subst hd
  subst he
  exact ⟨i, j, rx, ry, hC, .flat e1 hh (hw F) h⟩
theorem opd_I0 {K : PySem.W.Frag} {g : Int → Int → V} {d e : Dt} {w : Dt} {i j : Int} (hd : d = .int i) (he : e = .int j) (hw : ∀ F, Rp K F w (g i j)) (h : P w cs) : OpD K T (rI0 g) d e cs P := fun Fb F H x y e1 hh rx ry => by
  subst hd
  subst he
  exact ⟨i, j, rx, ry, .flat e1 hh (hw F) h⟩
end
theorem Ax.imp {e : Expr} {P P' : Dt → Cs → Prop} (h : Ax X T e ρ cs P) (k : ∀ d cs', P d cs' → P' d cs') : Ax X T e ρ cs P' := fun σ F H he hh => wE_mono (h σ F H he hh) fun v H' q => q.up (Ex.refl _) k
theorem At.imp {e : Expr} {P P' : Bool → Cs → Prop} (h : At X T e ρ cs P) (k : ∀ d cs', P d cs' → P' d cs') : At X T e ρ cs P' := fun σ F H he hh => wT_mono (h σ F H he hh) fun v H' q => q.up (Ex.refl _) k
theorem Aa.imp {e : List Expr} {P P' : List Dt → Cs → Prop} (h : Aa X T e ρ cs P) (k : ∀ d cs', P d cs' → P' d cs') : Aa X T e ρ cs P' := fun σ F H he hh => wA_mono (h σ F H he hh) fun v H' q => q.up (Ex.refl _) k
theorem As.imp {e : List Stmt} {E E' : AE} (h : As X T e ρ cs E) (k1 : ∀ ρ cs, E.nx ρ cs → E'.nx ρ cs) (k2 : ∀ d cs, E.rt d cs → E'.rt d cs) (k3 : ∀ ρ cs, E.bk ρ cs → E'.bk ρ cs) (k4 : ∀ ρ cs, E.ct ρ cs → E'.ct ρ cs) : As X T e ρ cs E' := fun σ F H he hh =>
  wSs_mono (h σ F H he hh) ⟨fun _ _ q => RN.up (Ex.refl _) k1 q, fun _ _ q => RQ.up (Ex.refl _) k2 q, fun _ _ q => RN.up (Ex.refl _) k3 q, fun _ _ q => RN.up (Ex.refl _) k4 q⟩
section
variable {a b c : Expr} {pos : Pos} {P : Dt → Cs → Prop}
theorem ax_add (h : Ax X T a ρ cs fun d cs1 => Ax X T b ρ cs1 fun e cs2 => ∃ i j, d = .int i ∧ e = .int j ∧ P (.int (i + j)) cs2) : Ax X T (.BinOp a .Add b pos) ρ cs P :=
  ax_bin op_add (h.imp fun d _ q0 => q0.imp fun e _ ⟨i, j, hd, hj, q⟩ => opd_I0 (w := .int (i + j)) hd hj (fun _ => rfl) q)
theorem ax_sub (h : Ax X T a ρ cs fun d cs1 => Ax X T b ρ cs1 fun e cs2 => ∃ i j, d = .int i ∧ e = .int j ∧ P (.int (i - j)) cs2) : Ax X T (.BinOp a .Sub b pos) ρ cs P :=
  ax_bin op_sub (h.imp fun d _ q0 => q0.imp fun e _ ⟨i, j, hd, hj, q⟩ => opd_I0 (w := .int (i - j)) hd hj (fun _ => rfl) q)
theorem ax_mul (h : Ax X T a ρ cs fun d cs1 => Ax X T b ρ cs1 fun e cs2 => ∃ i j, d = .int i ∧ e = .int j ∧ CMul i j ∧ P (.int (i * j)) cs2) : Ax X T (.BinOp a .Mult b pos) ρ cs P :=
  ax_bin op_mul (h.imp fun d _ q0 => q0.imp fun e _ ⟨i, j, hd, hj, hc, q⟩ => opd_I (w := .int (i * j)) hd hj hc (fun _ => rfl) q)
theorem ax_fdiv (h : Ax X T a ρ cs fun d cs1 => Ax X T b ρ cs1 fun e cs2 => ∃ i j, d = .int i ∧ e = .int j ∧ (0 < j ∧ j < 1073741824) ∧ P (.int (i / j)) cs2) : Ax X T (.BinOp a .FloorDiv b pos) ρ cs P :=
  ax_bin op_fdiv (h.imp fun d _ q0 => q0.imp fun e _ ⟨i, j, hd, hj, hc, q⟩ => opd_I (w := .int (i / j)) hd hj hc (fun _ => rfl) q)
theorem ax_mod (h : Ax X T a ρ cs fun d cs1 => Ax X T b ρ cs1 fun e cs2 => ∃ i j, d = .int i ∧ e = .int j ∧ 0 < j ∧ P (.int (i % j)) cs2) : Ax X T (.BinOp a .Mod b pos) ρ cs P :=
  ax_bin op_mod (h.imp fun d _ q0 => q0.imp fun e _ ⟨i, j, hd, hj, hc, q⟩ => opd_I (C := fun _ j => 0 < j) (w := .int (i % j)) hd hj hc (fun _ => rfl) q)
theorem pow_cast (n : Nat) : ((2 : Int) ^ n) = ((2 ^ n : Nat) : Int) := by
  rw [Int.natCast_pow] <;> rfl
theorem ax_shl (h : Ax X T a ρ cs fun d cs1 => Ax X T b ρ cs1 fun e cs2 => ∃ j : Nat, d = .int 1 ∧ e = .int j ∧ j ≤ 1000 ∧ P (.int ((2 ^ j : Nat) : Int)) cs2) : Ax X T (.BinOp a .LShift b pos) ρ cs P :=
  ax_bin op_shl (h.imp fun d _ q0 => q0.imp fun e _ ⟨j, hd, hj, hc, q⟩ => opd_I (C := CPow) (w := .int ((2 ^ j : Nat) : Int)) hd hj ⟨by omega, by omega, by decide⟩ (fun _ => by
    show V.int (1 * 2 ^ (j : Int).toNat) = V.int ((2 ^ j : Nat) : Int)
    rw [Int.one_mul, Int.toNat_natCast, pow_cast]) q)
theorem ax_shr (h : Ax X T a ρ cs fun d cs1 => Ax X T b ρ cs1 fun e cs2 => ∃ i j : Nat, d = .int i ∧ e = .int j ∧ P (.int ((i >>> j : Nat) : Int)) cs2) : Ax X T (.BinOp a .RShift b pos) ρ cs P :=
  ax_bin op_shr (h.imp fun d _ q0 => q0.imp fun e _ ⟨i, j, hd, hj, q⟩ => opd_I (C := fun _ j => 0 ≤ j) (w := .int ((i >>> j : Nat) : Int)) hd hj (by omega) (fun _ => by
    show V.int ((i : Int) / 2 ^ (j : Int).toNat) = V.int ((i >>> j : Nat) : Int)
    rw [Int.toNat_natCast, pow_cast, Nat.shiftRight_eq_div_pow, Int.natCast_ediv]) q)
theorem bitAnd_nn (x y : Nat) : Builtin.bitAnd (x : Int) (y : Int) = ((x &&& y : Nat) : Int) := rfl
theorem orN (x y : Nat) : Builtin.bitOr (x : Int) (y : Int) = ((x ||| y : Nat) : Int) := by
  rw [L2.bitOr_nn (by omega) (by omega)]
  simp only [Int.toNat_natCast]
theorem ax_and (h : Ax X T a ρ cs fun d cs1 => Ax X T b ρ cs1 fun e cs2 => ∃ i j : Nat, d = .int i ∧ e = .int j ∧ P (.int ((i &&& j : Nat) : Int)) cs2) : Ax X T (.BinOp a .BitAnd b pos) ρ cs P :=
  ax_bin op_and (h.imp fun d _ q0 => q0.imp fun e _ ⟨i, j, hd, hj, q⟩ => opd_I0 (w := .int ((i &&& j : Nat) : Int)) hd hj (fun _ => congrArg V.int (bitAnd_nn i j)) q)
theorem ax_or (h : Ax X T a ρ cs fun d cs1 => Ax X T b ρ cs1 fun e cs2 => ∃ i j : Nat, d = .int i ∧ e = .int j ∧ P (.int ((i ||| j : Nat) : Int)) cs2) : Ax X T (.BinOp a .BitOr b pos) ρ cs P :=
  ax_bin op_or (h.imp fun d _ q0 => q0.imp fun e _ ⟨i, j, hd, hj, q⟩ => opd_I0 (w := .int ((i ||| j : Nat) : Int)) hd hj (fun _ => congrArg V.int (orN i j)) q)
theorem ax_neg (h : Ax X T a ρ cs fun d cs1 => ∃ i, d = .int i ∧ P (.int (-i)) cs1) : Ax X T (.UnaryOp .USub a pos) ρ cs P := fun σ F H he hh =>
  wE_of (pe_un un_neg pe_w) (wE_mono (h σ F H he hh) fun v H1 ⟨F1, d, cs1, e1, h1, r1, i, hd, q⟩ => by
    subst hd
    exact ⟨i, r1, .flat (d := .int (-i)) e1 h1 rfl q⟩)
/-- lists: a new one of both -/
theorem ax_cat (h : Ax X T a ρ cs fun d cs1 => Ax X T b ρ cs1 fun e cs2 => ∃ xs ys, d = .lst xs ∧ e = .lst ys ∧ xs.length + ys.length ≤ 100000 ∧ P (.lst (xs ++ ys)) cs2) : Ax X T (.BinOp a .Add b pos) ρ cs P :=
  ax_bin op_cat (h.imp fun d _ q0 => q0.imp fun e _ ⟨xs, ys, hd, hj, hl, q⟩ => fun Fb F H x y e1 hh rx ry => by
    subst hd
    subst hj
    obtain ⟨l, us, rfl, h1, h2⟩ := rx
    obtain ⟨m, ws, rfl, h3, h4⟩ := ry
    refine ⟨l, m, us, ws, rfl, rfl, hh.exH _ _ h1, hh.exH _ _ h3, by rw [h2.length, h4.length]; exact sz_of hl, fun p hp => .new e1 hh hp ?_ q⟩
    have e2 := (hh.laid hp (.lst (us ++ ws))).1
    exact ⟨p, _, rfl, upd_same, (h2.append h4).mono e2⟩)
/-- [x] * n: a new cell -/
theorem ax_rep0 (h : Ax X T a ρ cs fun d cs1 => Ax X T b ρ cs1 fun e cs2 => ∃ (x : Int) (n : Nat), d = .lst [.int x] ∧ e = .int n ∧ n ≤ 100000 ∧ ∀ p, P (.cell p) ((p, .l (List.replicate n (.int x))) :: cs2)) : Ax X T (.BinOp a .Mult b pos) ρ cs P :=
  ax_bin op_rep (h.imp fun d _ q0 => q0.imp fun e _ ⟨x, n, hd, hj, hl, q⟩ => fun Fb F H x' y e1 hh rx ry => by
    subst hd
    subst hj
    obtain ⟨l, us, rfl, h1, h2⟩ := rx
    obtain ⟨u, rfl, h3⟩ := h2.of_one
    have h3 : u = V.int x := h3
    subst h3
    have hn : (n : Int).toNat = n := Int.toNat_natCast n
    refine ⟨l, n, [V.int x], rfl, ry, hh.exH _ _ h1, by omega, by omega, by rw [hn, List.length_singleton, Nat.one_mul]; exact sz_of hl, fun p hp => .newC e1 hh hp ?_ (q p)⟩
    rw [hn]
    refine ⟨_, rfl, ?_⟩
    have e : ∀ m : Nat, RpL X.K F (List.replicate m (Dt.int x)) (List.replicate m [V.int x]).flatten := fun m => by
      induction m with
      | zero => exact rfl
      | succ m ih =>
        rw [List.replicate_succ, List.replicate_succ, List.flatten_cons]
        exact ⟨_, _, rfl, rfl, ih⟩
    exact e n)
theorem ax_cats (h : Ax X T a ρ cs fun d cs1 => Ax X T b ρ cs1 fun e cs2 => ∃ x y : Str, d = .str x ∧ e = .str y ∧ x.length + y.length ≤ 100000 ∧ P (.str (x ++ y)) cs2) : Ax X T (.BinOp a .Add b pos) ρ cs P :=
  ax_bin op_add_str (h.imp fun d _ q0 => q0.imp fun e _ ⟨x, y, hd, hj, hl, q⟩ => fun Fb F H x' y' e1 hh rx ry => by
    subst hd
    subst hj
    exact ⟨x, y, rx, ry, sz_of hl, .flat (d := .str (x ++ y)) e1 hh rfl q⟩)
end

/-! ### comparisons -/
/-- a comparison: R says what is asked of the two data, and what the answer is -/
structure CmpR (X : Cx) (T : Ent) (op : CmpOp) (b : Expr) (R : Dt → Dt → Cs → (Bool → Prop) → Prop) : Prop where
  ex : ∃ r : R2, OpR X (compareOp op) r ∧ behindInMarks op b = false ∧ (∀ x y H (Q Q' : VK), (∀ v H', Q v H' → Q' v H') → r x y H Q → r x y H Q') ∧
    ∀ d e cs Q, R d e cs Q → ∀ F H x y (Q' : VK), Hs X.K T F H cs → Rp X.K F d x → Rp X.K F e y → (∀ k, Q k → Q' (.bl k) H) → r x y H Q'
section
variable {a b : Expr} {op : CmpOp} {pos : Pos} {R : Dt → Dt → Cs → (Bool → Prop) → Prop}
theorem ax_cmpR {P : Dt → Cs → Prop} (C : CmpR X T op b R) (h : Ax X T a ρ cs fun d cs1 => Ax X T b ρ cs1 fun e cs2 => R d e cs2 fun k => P (.bl k) cs2) : Ax X T (.Compare a [op] [b] pos) ρ cs P := by
  obtain ⟨r, ho, hm, mo, hr⟩ := C.ex
  refine ax_two (pe_cmpR ho pe_w pe_w hm) (h.imp fun d _ q => q.imp fun e cs2 q => fun Fb F H x y e1 hh rx ry => ?_)
  exact hr d e cs2 _ q F H x y _ hh rx ry fun k q => .flat (d := .bl k) e1 hh rfl q
theorem at_cmpR {P : Bool → Cs → Prop} (C : CmpR X T op b R) (h : Ax X T a ρ cs fun d cs1 => Ax X T b ρ cs1 fun e cs2 => R d e cs2 fun k => P k cs2) : At X T (.Compare a [op] [b] pos) ρ cs P := by
  obtain ⟨r, ho, hm, mo, hr⟩ := C.ex
  intro σ F H he hh
  refine wT_of (pt_cmpR ho pe_w pe_w hm) (wE_mono (h σ F H he hh) fun v H1 ⟨F1, d, cs1, e1, h1, r1, q1⟩ => wE_mono (q1 σ F1 H1 (he.mono e1) h1) fun u H2 ⟨F2, e', cs2, e2, h2, r2, q2⟩ => ?_)
  exact hr d e' cs2 _ q2 F2 H2 v u _ h2 (r1.mono e2) r2 fun k q => ⟨k, rfl, F2, cs2, e1.trans e2, h2, q⟩
end
def RI (p : Int → Int → Bool) : Dt → Dt → Cs → (Bool → Prop) → Prop := fun d e _ Q => ∃ i j, d = .int i ∧ e = .int j ∧ Q (p i j)
section
variable {b : Expr}
theorem mono_I0 {g : Int → Int → V} : ∀ x y H (Q Q' : VK), (∀ v H', Q v H' → Q' v H') → rI0 g x y H Q → rI0 g x y H Q' := fun x y H Q Q' k ⟨i, j, h1, h2, q⟩ => ⟨i, j, h1, h2, k _ _ q⟩
theorem cmp_I {op : CmpOp} {p : Int → Int → Bool} (ho : OpR X (compareOp op) (rI0 fun i j => .bl (p i j))) (hm : behindInMarks op b = false) : CmpR X T op b (RI p) :=
  ⟨_, ho, hm, mono_I0, fun d e cs Q ⟨i, j, hd, he, q⟩ F H x y Q' hh rx ry k => by
    subst hd
    subst he
    exact ⟨i, j, rx, ry, k _ q⟩⟩
theorem cmp_lt : CmpR X T .Lt b (RI fun i j => decide (i < j)) := cmp_I op_lt (nomark _)
theorem cmp_le : CmpR X T .LtE b (RI fun i j => decide (i ≤ j)) := cmp_I op_le (nomark _)
theorem cmp_gt : CmpR X T .Gt b (RI fun i j => decide (j < i)) := cmp_I op_gt (nomark _)
theorem cmp_ge : CmpR X T .GtE b (RI fun i j => decide (j ≤ i)) := cmp_I op_ge (nomark _)
/-- flat data -/
def flat2 : Dt → Dt → Option Bool
  | .int i, .int j => some (decide (i = j))
  | .bl i, .bl j => some (decide (i = j))
  | .str i, .str j => some (decide (i = j))
  | _, _ => none
theorem flat2_scal {K : PySem.W.Frag} {F : Hp} {d e : Dt} {k : Bool} {x y : V} (h : flat2 d e = some k) (rx : Rp K F d x) (ry : Rp K F e y) : scal x y = true ∧ decide (x = y) = k := by
  cases d <;> cases e <;> first
    | (cases h; done)
    | (obtain rfl := (show x = _ from rx); obtain rfl := (show y = _ from ry); cases h
       refine ⟨rfl, ?_⟩
       simp only [V.int.injEq, V.bl.injEq, V.str.injEq])
def REq : Dt → Dt → Cs → (Bool → Prop) → Prop := fun d e _ Q => ∃ k, flat2 d e = some k ∧ Q k
def RNe : Dt → Dt → Cs → (Bool → Prop) → Prop := fun d e _ Q => ∃ k, flat2 d e = some k ∧ Q (!k)
theorem cmp_eq : CmpR X T .Eq b REq := ⟨rEq, op_eq, nomark _, fun x y H Q Q' k ⟨h1, q⟩ => ⟨h1, k _ _ q⟩, fun d e cs Q ⟨z, hz, q⟩ F H x y Q' hh rx ry k => by
  obtain ⟨h1, h2⟩ := flat2_scal hz rx ry
  exact ⟨h1, by rw [h2]; exact k _ q⟩⟩
theorem cmp_ne : CmpR X T .NotEq b RNe := ⟨rNe, op_ne, nomark _, fun x y H Q Q' k ⟨h1, q⟩ => ⟨h1, k _ _ q⟩, fun d e cs Q ⟨z, hz, q⟩ F H x y Q' hh rx ry k => by
  obtain ⟨h1, h2⟩ := flat2_scal hz rx ry
  exact ⟨h1, by rw [h2]; exact k _ q⟩⟩
def isNon : Dt → Bool
  | .non => true
  | _ => false
theorem isNon_ok {K : PySem.W.Frag} {F : Hp} {d : Dt} {x : V} (r : Rp K F d x) : decide (x = .non) = isNon d := by
  cases d with
  | non => obtain rfl := (show x = _ from r); rfl
  | bl _ => obtain rfl := (show x = _ from r); rfl
  | int _ => obtain rfl := (show x = _ from r); rfl
  | str _ => obtain rfl := (show x = _ from r); rfl
  | cell _ => obtain rfl := (show x = _ from r); rfl
  | tup _ => obtain ⟨a, _, rfl, _⟩ := r; rfl
  | lst _ => obtain ⟨a, _, rfl, _⟩ := r; rfl
  | ins _ _ _ => obtain ⟨a, _, _, rfl, _⟩ := r; rfl
  | scr _ => obtain ⟨a, rfl, _⟩ := r; rfl
def RIs : Dt → Dt → Cs → (Bool → Prop) → Prop := fun d e _ Q => (e = .non ∧ Q (isNon d)) ∨ ∃ i j, d = .bl i ∧ e = .bl j ∧ Q (decide (i = j))
def RIsN : Dt → Dt → Cs → (Bool → Prop) → Prop := fun d e _ Q => (e = .non ∧ Q (!isNon d)) ∨ ∃ i j, d = .bl i ∧ e = .bl j ∧ Q (!decide (i = j))
theorem cmp_is : CmpR X T .Is b RIs := ⟨_, OpR.or op_isN op_isBl, nomark _, fun x y H Q Q' k h => h.imp (fun ⟨h1, q⟩ => ⟨h1, k _ _ q⟩) (fun ⟨i, j, h1, h2, q⟩ => ⟨i, j, h1, h2, k _ _ q⟩), fun d e cs Q h F H x y Q' hh rx ry k => by
  rcases h with ⟨he, q⟩ | ⟨i, j, hd, he, q⟩
  · subst he
    exact .inl ⟨ry, by rw [isNon_ok rx]; exact k _ q⟩
  · subst hd
    subst he
    exact .inr ⟨i, j, rx, ry, k _ q⟩⟩
theorem cmp_isN : CmpR X T .IsNot b RIsN := ⟨_, OpR.or op_notN op_notBl, nomark _, fun x y H Q Q' k h => h.imp (fun ⟨h1, q⟩ => ⟨h1, k _ _ q⟩) (fun ⟨i, j, h1, h2, q⟩ => ⟨i, j, h1, h2, k _ _ q⟩), fun d e cs Q h F H x y Q' hh rx ry k => by
  rcases h with ⟨he, q⟩ | ⟨i, j, hd, he, q⟩
  · subst he
    exact .inl ⟨ry, by rw [isNon_ok rx]; exact k _ q⟩
  · subst hd
    subst he
    exact .inr ⟨i, j, rx, ry, k _ q⟩⟩
/-- a sequence: a tuple, a list that stands for good, or a cell's list -/
def IsSeq (d : Dt) (cs : Cs) (ds : List Dt) : Prop := d = .lst ds ∨ d = .tup ds ∨ ∃ (k : Nat) (a : Addr), d = .cell a ∧ cs[k]? = some (a, .l ds)
theorem IsSeq.at {d : Dt} {ds : List Dt} {F H : Hp} {x : V} (h : IsSeq d cs ds) (hh : Hs X.K T F H cs) (r : Rp X.K F d x) : ∃ a vs, x = .ref a ∧ (SqL X.K H a vs ∨ SqT X.K H a vs) ∧ RpL X.K F ds vs := by
  rcases h with rfl | rfl | ⟨k, a, rfl, hk⟩
  · obtain ⟨a, vs, rfl, h1, h2⟩ := r
    exact ⟨a, vs, rfl, .inl (SqL.of (hh.exH _ _ h1)), h2⟩
  · obtain ⟨a, vs, rfl, h1, h2⟩ := r
    exact ⟨a, vs, rfl, .inr (SqT.of (hh.exH _ _ h1)), h2⟩
  · obtain ⟨_, _, o, h1, h2⟩ := hh.cell _ (List.mem_of_getElem? hk)
    obtain ⟨vs, rfl, h2⟩ := h2
    obtain rfl := (show x = _ from r)
    exact ⟨a, vs, rfl, .inl (SqL.of h1), h2⟩
/-- in, not in a sequence of whole numbers -/
def RIn (neg : Bool) : Dt → Dt → Cs → (Bool → Prop) → Prop := fun d e cs Q => ∃ (i : Int) (ns : List Int), d = .int i ∧ IsSeq e cs (ns.map .int) ∧ Q (if neg then !decide (i ∈ ns) else decide (i ∈ ns))
theorem inV_ints {i : Int} : ∀ {ns : List Int}, inV (.int i) (ns.map V.int) = decide (i ∈ ns)
  | [] => rfl
  | n :: ns => by
    show (eqV (.int n) (.int i) || inV (.int i) (ns.map V.int)) = _
    rw [inV_ints (ns := ns)]
    have e : eqV (.int n) (.int i) = decide (i = n) := by
      show (n == i) = decide (i = n)
      rw [Bool.eq_iff_iff, beq_iff_eq, decide_eq_true_iff]
      exact eq_comm
    rw [e, Bool.eq_iff_iff]
    simp [List.mem_cons]
theorem flat_ints {ns : List Int} : (ns.map V.int).all flatV = true := by
  rw [List.all_map, List.all_eq_true]
  exact fun _ _ => rfl
theorem rIn_mono {neg : Bool} {K : PySem.W.Frag} : ∀ x y H (Q Q' : VK), (∀ v H', Q v H' → Q' v H') → rIn K neg x y H Q → rIn K neg x y H Q' := fun x y H Q Q' k ⟨p, xs, h1, h2, h3, h4, q⟩ => ⟨p, xs, h1, h2, h3, h4, k _ _ q⟩
theorem rIn_ok {neg : Bool} {d e : Dt} {Q : Bool → Prop} {F H : Hp} {x y : V} {Q' : VK} (h : RIn neg d e cs Q) (hh : Hs X.K T F H cs) (rx : Rp X.K F d x) (ry : Rp X.K F e y) (k : ∀ z, Q z → Q' (.bl z) H) : rIn X.K neg x y H Q' := by
  obtain ⟨i, ns, rfl, hs, q⟩ := h
  obtain rfl := (show x = _ from rx)
  obtain ⟨a, vs, rfl, h1, h2⟩ := hs.at hh ry
  obtain rfl := h2.of_ints
  refine ⟨a, _, rfl, h1, rfl, flat_ints, ?_⟩
  rw [inV_ints]
  exact k _ q
theorem cmp_in (hm : behindInMarks .In b = false) : CmpR X T .In b (RIn false) := ⟨_, op_in_seq, hm, rIn_mono, fun d e cs Q h F H x y Q' hh rx ry k => rIn_ok h hh rx ry k⟩
theorem cmp_nin (hm : behindInMarks .NotIn b = false) : CmpR X T .NotIn b (RIn true) := ⟨_, op_notIn_seq, hm, rIn_mono, fun d e cs Q h F H x y Q' hh rx ry k => rIn_ok h hh rx ry k⟩
end
end
end G
/-! G3: tests, subscripts, displays, fields, statements, loops, comprehensions, calls -/
namespace G
open PySem L2 Evl
section
variable {X : Cx} {T : Ent} {ρ : Rho} {cs : Cs}

/-! ### and, or, not, if else -/
section
variable {a b c : Expr} {rest : List Expr} {pos : Pos}
theorem ax_one {op : BoolOp} {P : Dt → Cs → Prop} (h : Ax X T a ρ cs P) : Ax X T (.BoolOp op [a] pos) ρ cs P := fun σ F H he hh => wE_of (pe_one pe_w) (h σ F H he hh)
theorem ax_andv {P : Dt → Cs → Prop} (h : Ax X T a ρ cs fun d cs1 => ∃ k, d = .bl k ∧ (k = true → Ax X T (.BoolOp .And (b :: rest) pos) ρ cs1 P) ∧ (k = false → P (.bl false) cs1)) : Ax X T (.BoolOp .And (a :: b :: rest) pos) ρ cs P := fun σ F H he hh =>
  wE_of (pe_and pe_w pe_w) (wE_mono (h σ F H he hh) fun v H1 ⟨F1, d, cs1, e1, h1, r1, k, hd, q1, q2⟩ => by
    subst hd
    refine ⟨k, r1, ?_⟩
    cases k with
    | true =>
      rw [if_pos rfl]
      exact wE_mono (q1 rfl σ F1 H1 (he.mono e1) h1) fun v H2 q => RQ.up e1 (fun _ _ q => q) q
    | false =>
      rw [if_neg Bool.false_ne_true]
      exact .flat (d := .bl false) e1 h1 rfl (q2 rfl))
theorem ax_orv {P : Dt → Cs → Prop} (h : Ax X T a ρ cs fun d cs1 => ∃ k, d = .bl k ∧ (k = true → P (.bl true) cs1) ∧ (k = false → Ax X T (.BoolOp .Or (b :: rest) pos) ρ cs1 P)) : Ax X T (.BoolOp .Or (a :: b :: rest) pos) ρ cs P := fun σ F H he hh =>
  wE_of (pe_or pe_w pe_w) (wE_mono (h σ F H he hh) fun v H1 ⟨F1, d, cs1, e1, h1, r1, k, hd, q1, q2⟩ => by
    subst hd
    refine ⟨k, r1, ?_⟩
    cases k with
    | true =>
      rw [if_pos rfl]
      exact .flat (d := .bl true) e1 h1 rfl (q1 rfl)
    | false =>
      rw [if_neg Bool.false_ne_true]
      exact wE_mono (q2 rfl σ F1 H1 (he.mono e1) h1) fun v H2 q => RQ.up e1 (fun _ _ q => q) q)
theorem ax_notv {P : Dt → Cs → Prop} (h : Ax X T a ρ cs fun d cs1 => ∃ k, d = .bl k ∧ P (.bl (!k)) cs1) : Ax X T (.UnaryOp .Not a pos) ρ cs P := fun σ F H he hh =>
  wE_of (pe_not pe_w) (wE_mono (h σ F H he hh) fun v H1 ⟨F1, d, cs1, e1, h1, r1, k, hd, q1⟩ => by
    subst hd
    exact ⟨k, r1, .flat (d := .bl (!k)) e1 h1 rfl q1⟩)
/-- an expression whose value is a bool -/
theorem at_val {P : Bool → Cs → Prop} (h : Ax X T a ρ cs fun d cs1 => ∃ k, d = .bl k ∧ P k cs1) (hv : ∀ whole, isTrue a X.env whole = (do let v ← whole; standAt a.pos; holding [v] (truthy v)) := by intro _; rfl) : At X T a ρ cs P := fun σ F H he hh =>
  wT_of (pt_val pe_w hv) (wE_mono (h σ F H he hh) fun v H1 ⟨F1, d, cs1, e1, h1, r1, k, hd, q1⟩ => by
    subst hd
    exact ⟨k, r1, F1, cs1, e1, h1, q1⟩)
theorem pw_w {op : BoolOp} {es : List Expr} : PW X (.BoolOp op es pos) (wT X (.BoolOp op es pos)) := ⟨fun whole pins s σ H Q I h => h pins s I⟩
theorem at_one {op : BoolOp} {P : Bool → Cs → Prop} (h : At X T a ρ cs P) : At X T (.BoolOp op [a] pos) ρ cs P := fun σ F H he hh => by
  cases op with
  | And => exact wT_of (pw_and1 pt_w).pt (h σ F H he hh)
  | Or => exact wT_of (pw_or1 pt_w).pt (h σ F H he hh)
theorem at_and {P : Bool → Cs → Prop} (h : At X T a ρ cs fun k cs1 => (k = true → At X T (.BoolOp .And (b :: rest) pos) ρ cs1 P) ∧ (k = false → P false cs1)) : At X T (.BoolOp .And (a :: b :: rest) pos) ρ cs P := fun σ F H he hh =>
  wT_of (pw_and pt_w pw_w).pt (wT_mono (h σ F H he hh) fun k H1 ⟨F1, cs1, e1, h1, q1, q2⟩ => by
    cases k with
    | true =>
      rw [if_pos rfl]
      exact wT_mono (q1 rfl σ F1 H1 (he.mono e1) h1) fun v H2 q => RB.up e1 (fun _ _ q => q) q
    | false =>
      rw [if_neg Bool.false_ne_true]
      exact ⟨F1, cs1, e1, h1, q2 rfl⟩)
theorem at_or {P : Bool → Cs → Prop} (h : At X T a ρ cs fun k cs1 => (k = true → P true cs1) ∧ (k = false → At X T (.BoolOp .Or (b :: rest) pos) ρ cs1 P)) : At X T (.BoolOp .Or (a :: b :: rest) pos) ρ cs P := fun σ F H he hh =>
  wT_of (pw_or pt_w pw_w).pt (wT_mono (h σ F H he hh) fun k H1 ⟨F1, cs1, e1, h1, q1, q2⟩ => by
    cases k with
    | true =>
      rw [if_pos rfl]
      exact ⟨F1, cs1, e1, h1, q1 rfl⟩
    | false =>
      rw [if_neg Bool.false_ne_true]
      exact wT_mono (q2 rfl σ F1 H1 (he.mono e1) h1) fun v H2 q => RB.up e1 (fun _ _ q => q) q)
theorem at_not {P : Bool → Cs → Prop} (h : At X T a ρ cs fun k cs1 => P (!k) cs1) : At X T (.UnaryOp .Not a pos) ρ cs P := fun σ F H he hh => wT_of (pt_not pt_w) (h σ F H he hh)
theorem ax_if {P : Dt → Cs → Prop} (h : At X T c ρ cs fun k cs1 => (k = true → Ax X T a ρ cs1 P) ∧ (k = false → Ax X T b ρ cs1 P)) : Ax X T (.IfExp c a b pos) ρ cs P := fun σ F H he hh =>
  wE_of (pe_ifExp pt_w pe_w pe_w) (wT_mono (h σ F H he hh) fun k H1 ⟨F1, cs1, e1, h1, q1, q2⟩ => by
    cases k with
    | true =>
      rw [if_pos rfl]
      exact wE_mono (q1 rfl σ F1 H1 (he.mono e1) h1) fun v H2 q => RQ.up e1 (fun _ _ q => q) q
    | false =>
      rw [if_neg Bool.false_ne_true]
      exact wE_mono (q2 rfl σ F1 H1 (he.mono e1) h1) fun v H2 q => RQ.up e1 (fun _ _ q => q) q)
end

/-! ### argument lists, displays, subscripts, fields -/
section
variable {a b e : Expr} {es : List Expr} {pos : Pos} {P : Dt → Cs → Prop}
theorem aa_nil {P : List Dt → Cs → Prop} (h : P [] cs) : Aa X T [] ρ cs P := fun σ F H he hh => wA_of pa_nil ⟨F, [], cs, Ex.refl _, hh, rfl, h⟩
theorem aa_cons {P : List Dt → Cs → Prop} (h : Ax X T e ρ cs fun d cs1 => Aa X T es ρ cs1 fun ds cs2 => P (d :: ds) cs2) (hs : starEach (e :: es) X.env = (false, eval e X.env) :: starEach es X.env := by rfl) : Aa X T (e :: es) ρ cs P := fun σ F H he hh =>
  wA_of (pa_cons pe_w pa_w hs) (wE_mono (h σ F H he hh) fun v H1 ⟨F1, d, cs1, e1, h1, r1, q1⟩ => wA_mono (q1 σ F1 H1 (he.mono e1) h1) fun vs H2 ⟨F2, ds, cs2, e2, h2, r2, q2⟩ =>
    ⟨F2, d :: ds, cs2, e1.trans e2, h2, ⟨v, vs, rfl, r1.mono e2, r2⟩, q2⟩)
theorem ax_tup {k : Nat} (h : Aa X T es ρ cs fun ds cs1 => ds.length ≤ 1000 ∧ P (.tup ds) cs1) : Ax X T (.Tuple es k pos) ρ cs P := fun σ F H he hh =>
  wE_of (pe_tup pa_w) (wA_mono (h σ F H he hh) fun vs H1 ⟨F1, ds, cs1, e1, h1, r1, hl, q1⟩ => ⟨by rw [r1.length]; exact sz_of (by omega), fun p hp => .new (d := .tup ds) e1 h1 hp ⟨p, vs, rfl, upd_same, r1.mono (h1.laid hp _).1⟩ q1⟩)
theorem ax_lst (h : Aa X T es ρ cs fun ds cs1 => ds.length ≤ 1000 ∧ P (.lst ds) cs1) : Ax X T (.List es pos) ρ cs P := fun σ F H he hh =>
  wE_of (pe_lst pa_w) (wA_mono (h σ F H he hh) fun vs H1 ⟨F1, ds, cs1, e1, h1, r1, hl, q1⟩ => ⟨by rw [r1.length]; exact sz_of (by omega), fun p hp => .new (d := .lst ds) e1 h1 hp ⟨p, vs, rfl, upd_same, r1.mono (h1.laid hp _).1⟩ q1⟩)
theorem ax_lstC (h : Aa X T es ρ cs fun ds cs1 => ds.length ≤ 1000 ∧ ∀ p, P (.cell p) ((p, .l ds) :: cs1)) : Ax X T (.List es pos) ρ cs P := fun σ F H he hh =>
  wE_of (pe_lst pa_w) (wA_mono (h σ F H he hh) fun vs H1 ⟨F1, ds, cs1, e1, h1, r1, hl, q1⟩ => ⟨by rw [r1.length]; exact sz_of (by omega), fun p hp => .newC (c := .l ds) e1 h1 hp ⟨vs, rfl, r1⟩ (q1 p)⟩)
theorem ax_ix (h : Ax X T a ρ cs fun d cs1 => Ax X T b ρ cs1 fun e cs2 => ∃ (ds : List Dt) (j : Nat) (x : Dt), IsSeq d cs2 ds ∧ e = .int j ∧ ds[j]? = some x ∧ P x cs2) (hs : PlainIx b := by exact fun _ _ => rfl) : Ax X T (.Subscript a b pos) ρ cs P :=
  ax_two (pe_ix ix_seq pe_w pe_w hs) (h.imp fun d _ q0 => q0.imp fun e cs2 ⟨ds, j, x, hd, hj, hx, q⟩ => fun Fb F H v u e1 hh rx ry => by
    subst hj
    obtain rfl := (show u = _ from ry)
    obtain ⟨p, vs, rfl, h1, h2⟩ := hd.at hh rx
    obtain ⟨w, hw, rw'⟩ := h2.get hx
    rcases h1 with h1 | h1
    · exact .inl ⟨p, vs, j, w, rfl, rfl, h1, atI_nat hw, .flat e1 hh rw' q⟩
    · exact .inr (.inl ⟨p, vs, j, w, rfl, rfl, h1, atI_nat hw, .flat e1 hh rw' q⟩))
/-- an instance: for good, or a cell -/
def IsObj (d : Dt) (cs : Cs) (C : Addr) (ns : List Str) (ws : List Dt) : Prop := d = .ins C ns ws ∨ ∃ (k : Nat) (a : Addr), d = .cell a ∧ cs[k]? = some (a, .o C ns ws)
theorem IsObj.at {d : Dt} {C : Addr} {ns : List Str} {ws : List Dt} {F H : Hp} {x : V} (h : IsObj d cs C ns ws) (hh : Hs X.K T F H cs) (r : Rp X.K F d x) : ∃ a dx vs, x = .ref a ∧ H a = some (.ins C dx (ns.zip vs)) ∧ RpL X.K F ws vs := by
  rcases h with rfl | ⟨k, a, rfl, hk⟩
  · obtain ⟨a, dx, vs, rfl, h1, h2⟩ := r
    exact ⟨a, dx, vs, rfl, hh.exH _ _ h1, h2⟩
  · obtain ⟨_, _, o, h1, h2⟩ := hh.cell _ (List.mem_of_getElem? hk)
    obtain ⟨_, dx, vs, rfl, h2⟩ := h2
    obtain rfl := (show x = _ from r)
    exact ⟨a, dx, vs, rfl, h1, h2⟩
theorem zip_look : ∀ {ns : List Str} {vs : List V} {i : Nat} {f : Str} {v : V}, ns[i]? = some f → ns.idxOf f = i → vs[i]? = some v → (ns.zip vs).lookup f = some v
  | [], _, _, _, _, h, _, _ => by simp at h
  | _ :: _, [], _, _, _, _, _, h => by simp at h
  | n :: ns, w :: vs, 0, f, v, h, hx, hv => by
    have e1 : n = f := Option.some.inj h
    have e2 : w = v := Option.some.inj hv
    subst e1
    subst e2
    show List.lookup n ((n, w) :: ns.zip vs) = some w
    rw [List.lookup_cons_self]
  | n :: ns, w :: vs, i + 1, f, v, h, hx, hv => by
    have hne : ¬ n = f := fun e => by
      subst e
      rw [List.idxOf_cons_self] at hx
      exact absurd hx (by omega)
    have hx' : ns.idxOf f = i := by
      have hb : (n == f) = false := by
        rw [beq_eq_false_iff_ne]
        exact hne
      rw [List.idxOf_cons, hb] at hx
      simpa using hx
    show List.lookup f ((n, w) :: ns.zip vs) = some v
    rw [List.lookup_cons]
    have hb : (f == n) = false := by
      rw [beq_eq_false_iff_ne]
      exact fun e => hne e.symm
    rw [hb]
    exact zip_look (i := i) (by simpa using h) hx' (by simpa using hv)
theorem zip_none : ∀ {ns : List Str} {vs : List V} {f : Str}, f ∉ ns → (ns.zip vs).lookup f = none
  | [], _, _, _ => rfl
  | _ :: _, [], _, _ => rfl
  | n :: ns, w :: vs, f, h => by
    show List.lookup f ((n, w) :: ns.zip vs) = none
    rw [List.lookup_cons]
    have hb : (f == n) = false := by
      rw [beq_eq_false_iff_ne]
      exact fun e => h (by rw [e]; exact List.mem_cons_self)
    rw [hb]
    exact zip_none fun m => h (List.mem_cons_of_mem _ m)
theorem zip_put : ∀ {ns : List Str} {vs : List V} {f : Str} {v : V}, f ∉ ns → ns.length = vs.length → putF f v (ns.zip vs) = (ns ++ [f]).zip (vs ++ [v])
  | [], [], _, _, _, _ => rfl
  | [], _ :: _, _, _, _, h => by simp at h
  | _ :: _, [], _, _, _, h => by simp at h
  | n :: ns, w :: vs, f, v, h, hl => by
    have hne : ¬ n = f := fun e => h (by rw [e]; exact List.mem_cons_self)
    show (if n = f then (n, v) :: ns.zip vs else (n, w) :: putF f v (ns.zip vs)) = (n, w) :: (ns ++ [f]).zip (vs ++ [v])
    rw [if_neg hne, zip_put (fun m => h (List.mem_cons_of_mem _ m)) (by simpa using hl)]
theorem ax_fld {f : Str} {C : Addr} (c : Cls X.K C) (n : NoAttr X.K C f) (h : Ax X T a ρ cs fun d cs1 => ∃ ns ws i x, IsObj d cs1 C ns ws ∧ ns[i]? = some f ∧ ns.idxOf f = i ∧ ws[i]? = some x ∧ P x cs1)
    (hb : attributeBase a f X.env (eval a X.env) = eval a X.env := by rfl) : Ax X T (.Attribute a f pos) ρ cs P := fun σ F H he hh =>
  wE_of (pe_fld pe_w hb) (wE_mono (h σ F H he hh) fun v H1 ⟨F1, d, cs1, e1, h1, r1, ns, ws, i, x, ho, hi, hx, hw, q⟩ => by
    obtain ⟨p, dx, vs, rfl, g1, g2⟩ := ho.at h1 r1
    obtain ⟨u, hu, ru⟩ := g2.get hw
    exact ⟨p, C, dx, _, u, rfl, g1, c, n, zip_look hi hx hu, .flat e1 h1 ru q⟩)
end

/-! ### targets -/
section
variable {a b e : Expr} {es : List Expr} {pos : Pos} {P : Rho → Cs → Prop} {d : Dt}
theorem ag_name (i : Nat) {x : Str} (hN : X.N.Nodup) (hi : X.N[i]? = some x) (hx : Loc X.env.scope x) (h : P (ρ.set i (some d)) cs) (hf : X.fn x = true ∨ X.env.scope.names.lookup x = some .local := by first | exact .inl rfl | exact .inr rfl) : Ag X T (.Name x pos) d ρ cs P := fun σ F H v he hh r =>
  wG_of (pg_name hN hi hx hf) ⟨F, _, cs, Ex.refl _, he.set r, hh, h⟩
/-- a, b = a pair -/
theorem ag_pair (i j : Nat) {x y : Str} {p1 p2 : Pos} {k : Nat} {d1 d2 : Dt} (hc : X.calm = true) (hN : X.N.Nodup) (hi : X.N[i]? = some x) (hj : X.N[j]? = some y) (hx : Loc X.env.scope x) (hy : Loc X.env.scope y)
    (hd : d = .tup [d1, d2]) (h : P ((ρ.set i (some d1)).set j (some d2)) cs) (hf : X.fn x = true ∨ X.env.scope.names.lookup x = some .local := by first | exact .inl rfl | exact .inr rfl) (hf2 : X.fn y = true ∨ X.env.scope.names.lookup y = some .local := by first | exact .inl rfl | exact .inr rfl)
    (hs1 : (assignEach [.Name x p1, .Name y p2] X.env).map (·.2) = assign (.Name x p1) X.env :: (assignEach [.Name y p2] X.env).map (·.2) := by rfl) (hs2 : (assignEach [.Name y p2] X.env).map (·.2) = assign (.Name y p2) X.env :: (assignEach [] X.env).map (·.2) := by rfl)
    (hn : (assignEach [.Name x p1, .Name y p2] X.env).length = 2 := by rfl) (hst : (assignEach [.Name x p1, .Name y p2] X.env).findIdx? (·.1) = none := by rfl) :
    Ag X T (.Tuple [.Name x p1, .Name y p2] k pos) d ρ cs P := fun σ F H v he hh r => by
  subst hd
  obtain ⟨p, vs, rfl, h1, h2⟩ := r
  obtain ⟨u, w, rfl, r1, r2⟩ := h2.of_two
  exact wG_of (pg_tup hc (pgs_cons (pg_name hN hi hx hf) (pgs_cons (pg_name hN hj hy hf2) pgs_nil hs2) hs1) hn hst) ⟨p, _, rfl, SqT.of (hh.exH _ _ h1), rfl, u, _, rfl, w, _, rfl, rfl, F, _, cs, Ex.refl _, (he.set r1).set r2, hh, h⟩
/-- xs[i] = .., xs a cell's list -/
theorem ag_sub (h : Ax X T a ρ cs fun o cs1 => Ax X T b ρ cs1 fun i cs2 => ∃ (k : Nat) (l : Addr) (ds : List Dt) (j : Nat), o = .cell l ∧ i = .int j ∧ cs2[k]? = some (l, .l ds) ∧ j < ds.length ∧ P ρ (cs2.set k (l, .l (ds.set j d))))
    (ha : ∀ v, assign (.Subscript a b pos) X.env v = (do
      let ov ← holding [v] (eval a X.env)
      let iv ← holding [v, ov] (eval b X.env)
      standAt pos
      holding [v, ov, iv] (setItem ov iv v)
      release [v, ov, iv] []) := by intro _; rfl) : Ag X T (.Subscript a b pos) d ρ cs P := fun σ F H v he hh r =>
  wG_of (pg_sub pe_w pe_w set_list ha) (wE_mono (h σ F H he hh) fun o H1 ⟨F1, d1, cs1, e1, h1, r1, q1⟩ => wE_mono (q1 σ F1 H1 (he.mono e1) h1) fun i H2 ⟨F2, d2, cs2, e2, h2, r2, k, l, ds, j, ho, hi, hk, hj, q2⟩ => by
    subst ho
    subst hi
    obtain rfl := (show o = _ from r1)
    obtain rfl := (show i = _ from r2)
    obtain ⟨_, _, ob, g1, g2⟩ := h2.cell _ (List.mem_of_getElem? hk)
    obtain ⟨vs, rfl, g2⟩ := g2
    have hl := g2.length
    exact ⟨l, vs, j, j, rfl, rfl, g1, ixN_nat (by omega), F2, ρ, _, e1.trans e2, he.mono (e1.trans e2), h2.write hk (c' := .l (ds.set j d)) ⟨_, rfl, g2.set (r.mono (e1.trans e2))⟩, q2⟩)
end

/-! ### statements -/
section
variable {a b e c : Expr} {st : Stmt} {rest body orelse : List Stmt} {pos : Pos} {E : AE}
theorem as_nil (h : E.nx ρ cs) : As X T [] ρ cs E := fun σ F H he hh => wSs_of pss_nil ⟨F, ρ, cs, Ex.refl _, he, hh, h⟩
theorem as_cons (h : A1 X T st ρ cs { E with nx := fun ρ' cs' => As X T rest ρ' cs' E }) : As X T (st :: rest) ρ cs E := fun σ F H he hh =>
  wSs_of (pss_cons ps_w pss_w) (wS_mono (h σ F H he hh) ⟨fun σ' H' ⟨F', ρ', cs', e1, he', h', q⟩ => wSs_mono (q σ' F' H' he' h') (rE_le e1), fun _ _ q => q, fun _ _ q => q, fun _ _ q => q⟩)
theorem a1_asg {tg : Expr} (h : Ax X T e ρ cs fun d cs1 => Ag X T tg d ρ cs1 E.nx) (hs : swapsWithSole [tg] e pos.line X.env = pure false := by rfl) (hw : swappedStores [tg] e X.env = pure none := by rfl)
    (h1 : (assignEach [tg] X.env).map (·.2) = [assign tg X.env] := by rfl) : A1 X T (.Assign [tg] e pos) ρ cs E := fun σ F H he hh =>
  wS_of (ps_asg pe_w pg_w hs hw h1) (wE_mono (h σ F H he hh) fun v H1 ⟨F1, d, cs1, e1, h1, r1, q1⟩ => wG_mono (q1 σ F1 H1 v (he.mono e1) h1 r1) fun σ' H' q => RN.up e1 (fun _ _ q => q) q)
theorem a1_set (i : Nat) {x : Str} {px : Pos} (hN : X.N.Nodup) (hi : X.N[i]? = some x) (hx : Loc X.env.scope x) (h : Ax X T e ρ cs fun d cs1 => E.nx (ρ.set i (some d)) cs1) (hs : swapsWith e (some (.Name x px)) pos.line X.env = pure false := by rfl)
    (hf : X.fn x = true ∨ X.env.scope.names.lookup x = some .local := by first | exact .inl rfl | exact .inr rfl) : A1 X T (.Assign [.Name x px] e pos) ρ cs E := fun σ F H he hh =>
  wS_of (ps_set hN hi hx pe_w hs hf) (wE_mono (h σ F H he hh) fun v H1 ⟨F1, d, cs1, e1, h1, r1, q1⟩ => ⟨F1, _, cs1, e1, (he.mono e1).set r1, h1, q1⟩)
theorem a1_drop (h : Ax X T e ρ cs fun _ cs1 => E.nx ρ cs1) (hs : swapsWith e none pos.line X.env = pure false := by rfl) : A1 X T (.Expr e pos) ρ cs E := fun σ F H he hh =>
  wS_of (ps_expr pe_w hs) (wE_mono (h σ F H he hh) fun v H1 ⟨F1, d, cs1, e1, h1, r1, q1⟩ => ⟨F1, ρ, cs1, e1, he.mono e1, h1, q1⟩)
theorem a1_ret (h : Ax X T e ρ cs E.rt) : A1 X T (.Return (some e) pos) ρ cs E := fun σ F H he hh => wS_of (ps_ret pe_w) (h σ F H he hh)
theorem a1_pass (h : E.nx ρ cs) : A1 X T (.Pass pos) ρ cs E := fun σ F H he hh => wS_of ps_pass ⟨F, ρ, cs, Ex.refl _, he, hh, h⟩
theorem a1_if (h : At X T c ρ cs fun k cs1 => (k = true → As X T body ρ cs1 E) ∧ (k = false → As X T orelse ρ cs1 E)) : A1 X T (.If c body orelse pos) ρ cs E := fun σ F H he hh =>
  wS_of (ps_if pt_w pss_w pss_w) (wT_mono (h σ F H he hh) fun k H1 ⟨F1, cs1, e1, h1, q1, q2⟩ => by
    cases k with
    | true =>
      rw [if_pos rfl]
      exact wSs_mono (q1 rfl σ F1 H1 (he.mono e1) h1) (rE_le e1)
    | false =>
      rw [if_neg Bool.false_ne_true]
      exact wSs_mono (q2 rfl σ F1 H1 (he.mono e1) h1) (rE_le e1))
/-- a, b = e1, e2: two local names -/
theorem a1_par (i j : Nat) {x y : Str} {px py pt pt2 : Pos} {kt k2 : Nat} (hc : X.calm = true) (hN : X.N.Nodup) (hi : X.N[i]? = some x) (hj : X.N[j]? = some y) (hij : i ≠ j)
    (hx : X.env.scope.names.lookup x = some .local) (hy : X.env.scope.names.lookup y = some .local) (h : Ax X T a ρ cs fun d1 cs1 => Ax X T b ρ cs1 fun d2 cs2 => E.nx ((ρ.set i (some d1)).set j (some d2)) cs2)
    (hs : starEach [a, b] X.env = (false, eval a X.env) :: starEach [b] X.env := by rfl) (hs2 : starEach [b] X.env = (false, eval b X.env) :: starEach [] X.env := by rfl)
    (hw : swappedStores [.Tuple [.Name x px, .Name y py] kt pt] (.Tuple [a, b] k2 pt2) X.env = pure (some [x, y]) := by rfl) : A1 X T (.Assign [.Tuple [.Name x px, .Name y py] kt pt] (.Tuple [a, b] k2 pt2) pos) ρ cs E := fun σ F H he hh => by
  have ha : Aa X T [a, b] ρ cs fun ds cs2 => ∃ d1 d2, ds = [d1, d2] ∧ E.nx ((ρ.set i (some d1)).set j (some d2)) cs2 := aa_cons (h.imp fun d1 cs1 q => aa_cons (q.imp fun d2 cs2 q => aa_nil ⟨d1, d2, rfl, q⟩) hs2) hs
  refine wS_of (ps_par hc hN hi hj hij hx hy pa_w hw) (wA_mono (ha σ F H he hh) fun vs H1 ⟨F1, ds, cs1, e1, h1, r1, d1, d2, hd, q⟩ => ?_)
  subst hd
  obtain ⟨u, w, rfl, g1, g2⟩ := r1.of_two
  exact ⟨u, w, rfl, F1, _, cs1, e1, ((he.mono e1).set g1).set g2, h1, q⟩
/-- self.f = e: self a cell, a new field -/
theorem a1_fld {o : Expr} {f : Str} {C : Addr} {p' : Pos} (c : Cls X.K C) (n : NoAttr X.K C f) (h : Ax X T e ρ cs fun d cs1 => Ax X T o ρ cs1 fun s cs2 => ∃ (k : Nat) (l : Addr) (ns : List Str) (ws : List Dt), s = .cell l ∧ cs2[k]? = some (l, .o C ns ws) ∧ f ∉ ns ∧ ns.length < 900 ∧
      E.nx ρ (cs2.set k (l, .o C (ns ++ [f]) (ws ++ [d])))) (hs : swapsWith e (some (.Attribute o f p')) pos.line X.env = pure false := by rfl) : A1 X T (.Assign [.Attribute o f p'] e pos) ρ cs E := fun σ F H he hh =>
  wS_of (ps_fld pe_w pe_w hs) (wE_mono (h σ F H he hh) fun v H1 ⟨F1, d1, cs1, e1, h1, r1, q1⟩ => wE_mono (q1 σ F1 H1 (he.mono e1) h1) fun i H2 ⟨F2, d2, cs2, e2, h2, r2, k, l, ns, ws, ho, hk, hf, hl, q2⟩ => by
    subst ho
    obtain rfl := (show i = _ from r2)
    obtain ⟨_, _, ob, g1, g2⟩ := h2.cell _ (List.mem_of_getElem? hk)
    obtain ⟨g0, dx, vs, rfl, g2⟩ := g2
    have hvl := g2.length
    have hzl : ns.length = vs.length := by omega
    refine ⟨l, C, dx, _, rfl, g1, c, n, by rw [List.length_zip]; omega, F2, ρ, _, e1.trans e2, he.mono (e1.trans e2), h2.write hk (c' := .o C (ns ++ [f]) (ws ++ [d1])) ⟨?_, dx, vs ++ [v], ?_, g2.append (.one (r1.mono e2))⟩, q2⟩
    · rw [List.length_append, List.length_append, g0] <;> rfl
    · rw [zip_put hf hzl])
/-- what the slot i holds is let be -/
theorem as_freeze (i k : Nat) {l : Addr} {ds : List Dt} (hr : ρ[i]? = some (some (.cell l))) (hk : cs[k]? = some (l, .l ds)) (hp : Pre T cs k) (h : As X T rest (ρ.set i (some (.lst ds))) (cs.eraseIdx k) E) : As X T rest ρ cs E := fun σ F H he hh => by
  obtain ⟨o, g1, g2, e1, h1⟩ := hh.freeze hk hp
  obtain ⟨vs, rfl, g2⟩ := g2
  obtain ⟨v, hv, rv⟩ := he.2 i _ hr
  obtain rfl := (show v = _ from rv)
  have he1 : EnvOk X.K (upd F l (.lst vs)) (ρ.set i (some (.lst ds))) σ := by
    have z := (he.mono e1).set (i := i) (d := .lst ds) (v := .ref l) ⟨l, vs, rfl, upd_same, g2.mono e1⟩
    have hs : σ.set i (some (.ref l)) = σ := by
      refine List.ext_getElem? fun j => ?_
      by_cases hj : i = j
      · subst hj
        rw [List.getElem?_set_self (List.getElem?_eq_some_iff.mp hv).1, hv]
      · rw [List.getElem?_set_ne hj]
    rw [hs] at z
    exact z
  exact wSs_mono (h σ _ H he1 h1) (rE_le e1)
/-- the value of an expression is let be -/
theorem ax_freeze {P : Dt → Cs → Prop} (h : Ax X T e ρ cs fun d cs1 => ∃ (k : Nat) (l : Addr) (ds : List Dt), d = .cell l ∧ cs1[k]? = some (l, .l ds) ∧ Pre T cs1 k ∧ P (.lst ds) (cs1.eraseIdx k)) : Ax X T e ρ cs P := fun σ F H he hh =>
  wE_mono (h σ F H he hh) fun v H1 ⟨F1, d, cs1, e1, h1, r1, k, l, ds, hd, hk, hp, q⟩ => by
    subst hd
    obtain rfl := (show v = _ from r1)
    obtain ⟨o, g1, g2, e2, h2⟩ := h1.freeze hk hp
    obtain ⟨vs, rfl, g2⟩ := g2
    exact ⟨_, .lst ds, _, e1.trans e2, h2, ⟨l, vs, rfl, upd_same, g2.mono e2⟩, q⟩
end
end
end G
/-! G4: what is walked, for, while, comprehensions -/
namespace G
open PySem PySem.Spec PyProof.Rows L2 Evl

inductive Src where
  | rng (lo : Int) (n : Nat)
  | seq (ds : List Dt)
def Src.len : Src → Nat
  | .rng _ n => n
  | .seq ds => ds.length
def Src.item : Src → Nat → Option Dt
  | .rng lo n, i => if i < n then some (.int (lo + (i : Int))) else none
  | .seq ds, i => ds[i]?
def SrcOk (K : PySem.W.Frag) (F : Hp) (J : It) : Src → Prop
  | .rng lo n => J = Itr lo n
  | .seq ds => (∃ a vs, J = Itl K a ∧ SqL K F a vs ∧ RpL K F ds vs) ∨ ∃ a vs, J = Itt K a ∧ SqT K F a vs ∧ RpL K F ds vs
theorem SrcOk.go {K : PySem.W.Frag} {F H : Hp} {J : It} {src : Src} {i : Nat} (h : SrcOk K F J src) (e : Ex F H) (hi : i < src.len) : J.go i H := by
  cases src with
  | rng lo n =>
    obtain rfl := (show J = _ from h)
    exact hi
  | seq ds =>
    rcases h with ⟨a, vs, rfl, h1, h2⟩ | ⟨a, vs, rfl, h1, h2⟩
    · have hl := h2.length
      have hi : i < ds.length := hi
      exact ⟨vs, vs[i]'(by omega), ex_l e h1, List.getElem?_eq_getElem (by omega)⟩
    · have hl := h2.length
      have hi : i < ds.length := hi
      exact ⟨vs, vs[i]'(by omega), ex_t e h1, List.getElem?_eq_getElem (by omega)⟩
theorem SrcOk.stop {K : PySem.W.Frag} {F H : Hp} {J : It} {src : Src} (h : SrcOk K F J src) (e : Ex F H) : J.stop src.len H := by
  cases src with
  | rng lo n =>
    obtain rfl := (show J = _ from h)
    exact Nat.le_refl _
  | seq ds =>
    rcases h with ⟨a, vs, rfl, h1, h2⟩ | ⟨a, vs, rfl, h1, h2⟩
    · exact ⟨vs, ex_l e h1, by rw [h2.length]; exact Nat.le_refl _⟩
    · exact ⟨vs, ex_t e h1, by rw [h2.length]; exact Nat.le_refl _⟩
theorem SrcOk.yld {K : PySem.W.Frag} {F H H' : Hp} {J : It} {src : Src} {i : Nat} {x : V} (h : SrcOk K F J src) (e : Ex F H) (hi : i < src.len) (y : J.yld i H x H') : H = H' ∧ ∃ d, src.item i = some d ∧ Rp K F d x := by
  cases src with
  | rng lo n =>
    obtain rfl := (show J = _ from h)
    obtain ⟨y1, y2⟩ := y
    have hi : i < n := hi
    exact ⟨y1.symm, _, if_pos hi, y2⟩
  | seq ds =>
    rcases h with ⟨a, vs, rfl, h1, h2⟩ | ⟨a, vs, rfl, h1, h2⟩
    · obtain ⟨y1, y2⟩ := y
      exact ⟨y1.symm, h2.get' (y2 vs (ex_l e h1))⟩
    · obtain ⟨y1, y2⟩ := y
      exact ⟨y1.symm, h2.get' (y2 vs (ex_t e h1))⟩
def Ai (X : Cx) (T : Ent) (tg iter : Expr) (ρ : Rho) (cs : Cs) (P : Src → Cs → Prop) : Prop := ∀ σ F H, EnvOk X.K F ρ σ → Hs X.K T F H cs →
  wI X tg iter σ H fun J H' => ∃ F' src cs', Ex F F' ∧ Hs X.K T F' H' cs' ∧ SrcOk X.K F' J src ∧ P src cs'

section
variable {X : Cx} {T : Ent} {ρ : Rho} {cs : Cs}
/-- a list or a tuple, walked -/
def iSeq (K : PySem.W.Frag) (tl : TE) : TI := fun σ H R => tl σ H fun x H1 => ∃ a, x = .ref a ∧ ((∃ xs, SqL K H1 a xs ∧ R (Itl K a) H1) ∨ ∃ xs, SqT K H1 a xs ∧ R (Itt K a) H1)
theorem pi_seq {tg l : Expr} {tl : TE} (hl : PE X l tl) : PI X tg l (iSeq X.K tl) := by
  refine ⟨fun pins s σ H R I h => ?_⟩
  refine thn (hl.run pins s σ H _ I h) fun v s1 ⟨x, H1, I1, r1, q1⟩ => ?_
  obtain ⟨a, e, q1⟩ := q1
  subst e
  cases r1
  rcases q1 with ⟨xs, hq, q⟩ | ⟨xs, hq, q⟩
  · obtain ⟨its, rv, p, hz⟩ := I1.list hq
    refine wpAny_pyIter_list p.isList ?_
    refine ⟨s1.heap.objs.size, [s1.heap.objs.size], _, _, H1, rfl, I1.kept (t' := s1.toks) fun b o e => Heap.get?_push_of_some _ e, turn_list a _, ⟨_, Heap.get?_push_size _ rfl, rfl, rfl⟩, fun b hb => ?_, q⟩
    have e : b = s1.heap.objs.size := by simpa using hb
    subst e
    exact I1.fpOk (Nat.le_refl _) (I1.hok.fresh (Nat.le_refl _))
  · obtain ⟨its, rv, p, hz⟩ := I1.tuple hq
    refine wpAny_pyIter_tuple (show s1.heap.IsTuple a its.toArray from p) ?_
    refine ⟨s1.heap.objs.size, [s1.heap.objs.size], _, _, H1, rfl, I1.kept (t' := s1.toks) fun b o e => Heap.get?_push_of_some _ e, turn_tuple a _, ⟨_, Heap.get?_push_size _ rfl, rfl, rfl⟩, fun b hb => ?_, q⟩
    have e : b = s1.heap.objs.size := by simpa using hb
    subst e
    exact I1.fpOk (Nat.le_refl _) (I1.hok.fresh (Nat.le_refl _))
theorem ai_seq {tg e : Expr} {P : Src → Cs → Prop} (h : Ax X T e ρ cs fun d cs1 => ∃ ds, (d = .lst ds ∨ d = .tup ds ∨ ∃ ns : List Int, d = .scr ns ∧ ds = ns.map .int) ∧ P (.seq ds) cs1) : Ai X T tg e ρ cs P := fun σ F H he hh =>
  wI_of (pi_seq pe_w) (wE_mono (h σ F H he hh) fun v H1 ⟨F1, d, cs1, e1, h1, r1, ds, hd, q⟩ => by
    rcases hd with rfl | rfl | ⟨ns, rfl, rfl⟩
    · obtain ⟨a, vs, rfl, g1, g2⟩ := r1
      exact ⟨a, rfl, .inl ⟨vs, SqL.of (h1.exH _ _ g1), F1, .seq ds, cs1, e1, h1, .inl ⟨a, vs, rfl, SqL.of g1, g2⟩, q⟩⟩
    · obtain ⟨a, vs, rfl, g1, g2⟩ := r1
      exact ⟨a, rfl, .inr ⟨vs, SqT.of (h1.exH _ _ g1), F1, .seq ds, cs1, e1, h1, .inr ⟨a, vs, rfl, SqT.of g1, g2⟩, q⟩⟩
    · obtain ⟨a, rfl, g1⟩ := r1
      exact ⟨a, rfl, .inl ⟨_, ex_l h1.exH g1, F1, .seq _, cs1, e1, h1, .inl ⟨a, _, rfl, g1, .ints⟩, q⟩⟩)
theorem ai_range1 {tg a : Expr} {p pos : Pos} {P : Src → Cs → Prop} (hm : X.mg "range" = none) (h : Ax X T a ρ cs fun d cs1 => ∃ n : Nat, d = .int n ∧ n ≤ 100000 ∧ P (.rng 0 n) cs1) (hg : Gl X "range" := by rfl)
    (hs : starEach [a] X.env = [(false, eval a X.env)] := by rfl) : Ai X T tg (.Call (.Name "range" p) [a] [] pos) ρ cs P := fun σ F H he hh => by
  have ha : Aa X T [a] ρ cs fun ds cs1 => ∃ n : Nat, ds = [.int n] ∧ n ≤ 100000 ∧ P (.rng 0 n) cs1 := aa_cons (h.imp fun d cs1 ⟨n, hd, q⟩ => aa_nil ⟨n, by rw [hd], q⟩) hs
  refine wI_of (pi_range1 hg hm pa_w hs) (wA_mono (ha σ F H he hh) fun vs H1 ⟨F1, ds, cs1, e1, h1, r1, n, hd, hn, q⟩ => ?_)
  subst hd
  obtain ⟨x, rfl, g1⟩ := r1.of_one
  obtain rfl := (show x = V.int n from g1)
  exact ⟨n, rfl, by omega, by omega, F1, .rng 0 n, cs1, e1, h1, by rw [Int.toNat_natCast]; exact rfl, q⟩
theorem ai_range2 {tg a b : Expr} {p pos : Pos} {P : Src → Cs → Prop} (hm : X.mg "range" = none) (h : Ax X T a ρ cs fun d cs1 => Ax X T b ρ cs1 fun e cs2 => ∃ (lo : Int) (n : Nat), d = .int lo ∧ e = .int (lo + n) ∧ -100000 ≤ lo ∧ lo ≤ 100000 ∧ n ≤ 100000 ∧ P (.rng lo n) cs2) (hg : Gl X "range" := by rfl)
    (hs : starEach [a, b] X.env = [(false, eval a X.env), (false, eval b X.env)] := by rfl) (hs2 : starEach [b] X.env = [(false, eval b X.env)] := by rfl) : Ai X T tg (.Call (.Name "range" p) [a, b] [] pos) ρ cs P := fun σ F H he hh => by
  have ha : Aa X T [a, b] ρ cs fun ds cs1 => ∃ (lo : Int) (n : Nat), ds = [.int lo, .int (lo + n)] ∧ -100000 ≤ lo ∧ lo ≤ 100000 ∧ n ≤ 100000 ∧ P (.rng lo n) cs1 :=
    aa_cons (h.imp fun d cs1 q => aa_cons (q.imp fun e cs2 ⟨lo, n, hd, he, q⟩ => aa_nil ⟨lo, n, by rw [hd, he], q⟩) hs2) (by rw [hs, hs2])
  refine wI_of (pi_range2 hg hm pa_w hs hs2) (wA_mono (ha σ F H he hh) fun vs H1 ⟨F1, ds, cs1, e1, h1, r1, lo, n, hd, b1, b2, b3, q⟩ => ?_)
  subst hd
  obtain ⟨x, y, rfl, g1, g2⟩ := r1.of_two
  obtain rfl := (show x = V.int lo from g1)
  obtain rfl := (show y = V.int (lo + n) from g2)
  refine ⟨lo, lo + n, rfl, ⟨by omega, by omega, by omega, by omega⟩, F1, .rng lo n, cs1, e1, h1, ?_, q⟩
  have e : (lo + (n : Int) - lo).toNat = n := by omega
  rw [e]
  exact rfl

/-! ### for, while -/
section
variable {tg iter c : Expr} {body : List Stmt} {pos : Pos} {E : AE}
theorem a1_for (hp : PassesOwn (model X.prog X.w) X.A X.env X.xe) (h : Ai X T tg iter ρ cs fun src cs1 => ∃ I : Nat → Rho → Cs → Prop, I 0 ρ cs1 ∧
      (∀ i d ρ' cs', src.item i = some d → I i ρ' cs' → Ag X T tg d ρ' cs' fun ρ2 cs2 => As X T body ρ2 cs2 { nx := I (i + 1), ct := I (i + 1), bk := E.nx, rt := E.rt }) ∧ ∀ ρ' cs', I src.len ρ' cs' → E.nx ρ' cs')
    (hc : X.calm = true := by rfl) (hs : ∀ x, foldedSetIterable iter X.env x = pure x := by intro _; rfl) : A1 X T (.For tg iter body [] pos) ρ cs E := fun σ F H he hh =>
  wS_of (ps_for hp hc pi_w pg_w pss_w hs) (wI_mono (h σ F H he hh) fun J H1 ⟨F1, src, cs1, e1, h1, sk, I, i0, step, fin⟩ => by
    refine ⟨fun i m σ' H' => m = src.len - i ∧ i ≤ src.len ∧ ∃ F' ρ' cs', Ex F1 F' ∧ EnvOk X.K F' ρ' σ' ∧ Hs X.K T F' H' cs' ∧ I i ρ' cs', ⟨_, rfl, Nat.zero_le _, F1, ρ, cs1, Ex.refl _, he.mono e1, h1, i0⟩, ?_⟩
    rintro i m σ' H' ⟨hm, hi, F', ρ', cs', e2, he', h', hI⟩
    subst hm
    by_cases hlt : i < src.len
    · refine .inr ⟨sk.go (e2.trans h'.exH) hlt, fun σ2 H2 => ∃ F2 ρ2 cs2, Ex F1 F2 ∧ EnvOk X.K F2 ρ2 σ2 ∧ Hs X.K T F2 H2 cs2 ∧ I (i + 1) ρ2 cs2, fun σ2 H2 q => ⟨src.len - (i + 1), by omega, rfl, hlt, q⟩, fun x H2 y => ?_⟩
      obtain ⟨hH, d, hd, rd⟩ := sk.yld (e2.trans h'.exH) hlt y
      subst hH
      refine wG_mono (step i d ρ' cs' hd hI σ' F' H' x he' h' (rd.mono e2)) fun σ2 H2 ⟨F2, ρ2, cs2, e3, he2, h2, q2⟩ => ?_
      refine wSs_mono (q2 σ2 F2 H2 he2 h2) ⟨fun σ3 H3 ⟨F3, ρ3, cs3, e4, he3, h3, q3⟩ => ⟨F3, ρ3, cs3, (e2.trans e3).trans e4, he3, h3, q3⟩, fun v H3 q => RQ.up (e1.trans (e2.trans e3)) (fun _ _ q => q) q, fun σ3 H3 q => RN.up (e1.trans (e2.trans e3)) (fun _ _ q => q) q,
        fun σ3 H3 ⟨F3, ρ3, cs3, e4, he3, h3, q3⟩ => ⟨F3, ρ3, cs3, (e2.trans e3).trans e4, he3, h3, q3⟩⟩
    · have e : i = src.len := by omega
      subst e
      exact .inl ⟨sk.stop (e2.trans h'.exH), F', ρ', cs', e1.trans e2, he', h', fin ρ' cs' hI⟩)
theorem a1_while (hp : PassesOwn (model X.prog X.w) X.A X.env X.xe) (I : Nat → Rho → Cs → Prop) (h0 : ∃ m, I m ρ cs)
    (h : ∀ m ρ' cs', I m ρ' cs' → At X T c ρ' cs' fun k cs1 => (k = true → As X T body ρ' cs1 { nx := fun ρ2 cs2 => ∃ m', m' < m ∧ I m' ρ2 cs2, ct := fun ρ2 cs2 => ∃ m', m' < m ∧ I m' ρ2 cs2, bk := E.nx, rt := E.rt }) ∧ (k = false → E.nx ρ' cs1)) :
    A1 X T (.While c body [] pos) ρ cs E := fun σ F H he hh =>
  wS_of (ps_while hp pt_w pss_w) (by
    obtain ⟨m0, i0⟩ := h0
    refine ⟨fun m σ' H' => ∃ F' ρ' cs', Ex F F' ∧ EnvOk X.K F' ρ' σ' ∧ Hs X.K T F' H' cs' ∧ I m ρ' cs', ⟨m0, F, ρ, cs, Ex.refl _, he, hh, i0⟩, ?_⟩
    rintro m σ' H' ⟨F', ρ', cs', e1, he', h', hI⟩
    refine wT_mono (h m ρ' cs' hI σ' F' H' he' h') fun k H2 ⟨F2, cs2, e2, h2, q1, q2⟩ => ?_
    cases k with
    | true =>
      rw [if_pos rfl]
      refine ⟨fun σ3 H3 => ∃ m', m' < m ∧ ∃ F3 ρ3 cs3, Ex F F3 ∧ EnvOk X.K F3 ρ3 σ3 ∧ Hs X.K T F3 H3 cs3 ∧ I m' ρ3 cs3, fun _ _ q => q, ?_⟩
      refine wSs_mono (q1 rfl σ' F2 H2 (he'.mono e2) h2) ⟨fun σ3 H3 ⟨F3, ρ3, cs3, e4, he3, h3, m', hm, q3⟩ => ⟨m', hm, F3, ρ3, cs3, (e1.trans e2).trans e4, he3, h3, q3⟩, fun v H3 q => RQ.up (e1.trans e2) (fun _ _ q => q) q, fun σ3 H3 q => RN.up (e1.trans e2) (fun _ _ q => q) q,
        fun σ3 H3 ⟨F3, ρ3, cs3, e4, he3, h3, m', hm, q3⟩ => ⟨m', hm, F3, ρ3, cs3, (e1.trans e2).trans e4, he3, h3, q3⟩⟩
    | false =>
      rw [if_neg Bool.false_ne_true]
      exact ⟨F2, ρ', cs2, e1.trans e2, he'.mono e2, h2, q2 rfl⟩)
end

/-! ### comprehensions -/
/-- the comprehension's own name -/
def LocB (scope sc : Scope) (x : Str) : Prop := (relS scope sc).names.lookup x = some .local ∨ ((relS scope sc).names.lookup x = some .cell ∧ (scope.names.lookup x == some .cell) = true)
theorem LocB.loc {scope sc : Scope} {x : Str} (h : LocB scope sc x) : Loc (relS scope sc) x := h.imp (fun h => h) (fun h => h.1)
theorem LocB.fn {scope sc : Scope} {x : Str} (h : LocB scope sc x) : (scope.names.lookup x == some .cell) = true ∨ (relS scope sc).names.lookup x = some .local := h.elim .inr (fun h => .inl h.2)
abbrev Bk (X : Cx) (scope : Scope) (s : Shared) (H : Hp) (C : Addr) (cl : List (Str × Addr)) (fp : List Addr) : Cx := X.blk s H scope (compEnvC scope cl C X.env) fp
section
variable {elt tg iter : Expr} {ifs : List Expr} {scope : Scope} {own : List (Str × Nat)} {pos : Pos}
def bE (X : Cx) (scope : Scope) (e : Expr) : TE := fun σ H Q => ∀ s H0 C cl fp, wE (Bk X scope s H0 C cl fp) e σ H Q
def bTs (X : Cx) (scope : Scope) (e : List Expr) : TT := fun σ H Q => ∀ s H0 C cl fp, wTs (Bk X scope s H0 C cl fp) e σ H Q
/-- what a comprehension's turn does, behind the store -/
def Turn1 (X : Cx) (T : Ent) (scope : Scope) (elt : Expr) (ifs : List Expr) (ρ : Rho) (cs : Cs) (D : Addr) (acc : List Dt) (N : List Dt → Cs → Prop) : Prop :=
  ∀ s H0 C cl fp, Ats (Bk X scope s H0 C cl fp) T ifs ρ ((D, .l acc) :: cs) fun b cs3 =>
    (b = true → ∀ s H0 C cl fp, Ax (Bk X scope s H0 C cl fp) T elt ρ cs3 fun y cs4 => ∃ cs5, cs4 = (D, .l acc) :: cs5 ∧ N (acc ++ [y]) cs5) ∧ (b = false → ∃ cs5, cs3 = (D, .l acc) :: cs5 ∧ N acc cs5)
theorem ats_nil {X : Cx} {ρ : Rho} {cs : Cs} {P : Bool → Cs → Prop} (h : P true cs) : Ats X T [] ρ cs P := fun σ F H he hh => wTs_of pts_nil ⟨F, cs, Ex.refl _, hh, h⟩
theorem ats_one {X : Cx} {ρ : Rho} {cs : Cs} {c : Expr} {P : Bool → Cs → Prop} (h : At X T c ρ cs P) : Ats X T [c] ρ cs P := fun σ F H he hh => wTs_of (pts_one pt_w) (h σ F H he hh)
/-- the heap behind the store: the element's reading brings the list one further -/
theorem turn_ok {N : List Dt → Cs → Prop} {Fb F H : Hp} {σ : L2.St} {D : Addr} {acc : List Dt} {ρ : Rho} {Nx : Hp → Prop} (h : Turn1 X T scope elt ifs ρ cs D acc N) (hl : acc.length < 100000) (eb : Ex Fb F) (he : EnvOk X.K F ρ σ) (hh : Hs X.K T F H ((D, .l acc) :: cs))
    (k : ∀ F' H' acc' cs', Ex Fb F' → Hs X.K T F' H' ((D, .l acc') :: cs') → acc'.length ≤ acc.length + 1 → N acc' cs' → Nx H') :
    bTs X scope ifs σ H fun b H3 => if b = true then bE X scope elt σ H3 fun y H4 => ∃ acc, H4 D = some (.lst acc) ∧ acc.length < sizeLine ∧ Nx (upd H4 D (.lst (acc ++ [y]))) else Nx H3 := fun s H0 C cl fp =>
  wTs_mono (h s H0 C cl fp σ F H he hh) fun b H3 ⟨F3, cs3, e3, h3, q1, q2⟩ => by
    cases b with
    | true =>
      rw [if_pos rfl]
      intro s H0 C cl fp
      refine wE_mono (q1 rfl s H0 C cl fp σ F3 H3 (he.mono e3) h3) fun y H4 ⟨F4, d, cs4, e4, h4, r4, cs5, hcs, q⟩ => ?_
      have e4 : Ex F3 F4 := e4
      subst hcs
      have h4 : Hs X.K T F4 H4 ((D, .l acc) :: cs5) := h4
      obtain ⟨_, _, o, g1, vs, rfl, g2⟩ := h4.cell _ List.mem_cons_self
      have hz := g2.length
      refine ⟨vs, g1, sz_lt (by omega), k F4 _ (acc ++ [d]) cs5 ((eb.trans e3).trans e4) ?_ (by rw [List.length_append, List.length_singleton]; omega) q⟩
      exact h4.write (k := 0) (c := .l acc) rfl (c' := .l (acc ++ [d])) ⟨_, rfl, g2.append (.one r4)⟩
    | false =>
      rw [if_neg Bool.false_ne_true]
      obtain ⟨cs5, rfl, q⟩ := q2 rfl
      exact k F3 H3 acc cs5 (eb.trans e3) h3 (by omega) q
theorem wipe1 {σ : L2.St} {j : Nat} {x : Option V} : L2.wipe ((L2.wipe σ [j]).set j x) [j] = L2.wipe σ [j] := by
  show ((σ.set j none).set j x).set j none = σ.set j none
  rw [List.set_set, List.set_set]
theorem wipe2 {σ : L2.St} {i j : Nat} {x y : Option V} (hij : i ≠ j) : L2.wipe (((L2.wipe σ [i, j]).set i x).set j y) [i, j] = L2.wipe σ [i, j] := by
  show (((((σ.set j none).set i none).set i x).set j y).set j none).set i none = (σ.set j none).set i none
  have e : ∀ (l : L2.St), ((((l.set i x).set j y).set j none).set i none) = (l.set j none).set i none := fun l => by
    rw [List.set_set, List.set_comm _ _ hij, List.set_set]
  rw [e, List.set_comm _ _ hij, List.set_set, List.set_set, List.set_comm _ _ hij.symm]
/-- [elt for x in iter if ..] -/
theorem ax_lc (j : Nat) {x : Str} {px : Pos} {P : Dt → Cs → Prop} (hN : X.N.Nodup) (hj : X.N[j]? = some x) (ok : BlkOk X.N X.env.scope scope [(x, j)])
    (h : Ai X T (.Name x px) iter ρ cs fun src cs1 => src.len ≤ 90000 ∧ ∃ I : Nat → List Dt → Cs → Prop, I 0 [] cs1 ∧
      (∀ i d acc cs2 D, src.item i = some d → I i acc cs2 → Turn1 X T scope elt ifs ((ρ.set j none).set j (some d)) cs2 D acc (I (i + 1))) ∧ ∀ acc cs2 D, I src.len acc cs2 → P (.cell D) ((D, .l acc) :: cs2))
    (hx : LocB scope X.env.scope x := by first | exact .inl rfl | exact .inr ⟨rfl, rfl⟩) (hc : X.calm = true := by rfl) (hs : ∀ x, foldedSetIterable iter X.env x = pure x := by intro _; rfl) :
    Ax X T (.ListComp elt [⟨.Name x px, iter, ifs, 0⟩] scope pos) ρ cs P := fun σ F H he hh =>
  wE_of (pe_lc (own := [(x, j)]) (g := gName j) (tt := bTs X scope ifs) (te := bE X scope elt) hc hN pi_w ok (fun s H0 C cl fp => pg_name (X := Bk X scope s H0 C cl fp) hN hj hx.loc hx.fn) (fun s H0 C cl fp => ⟨fun pins s' σ H Q I h => h s H0 C cl fp pins s' I⟩)
      (fun s H0 C cl fp => ⟨fun pins s' σ H Q I h => h s H0 C cl fp pins s' I⟩) hs)
    (wI_mono (h σ F H he hh) fun J H1 ⟨F1, src, cs1, e1, h1, sk, hlen, I, i0, step, fin⟩ D hD => by
      refine ⟨fun i m H' => m = src.len - i ∧ i ≤ src.len ∧ ∃ F' acc cs', Ex F1 F' ∧ Hs X.K T F' H' ((D, .l acc) :: cs') ∧ acc.length ≤ i ∧ I i acc cs', ⟨_, rfl, Nat.zero_le _, F1, [], cs1, Ex.refl _, h1.laidC hD (c := .l []) ⟨[], rfl, rfl⟩, Nat.le_refl _, i0⟩, ?_⟩
      rintro i m H' ⟨rfl, hi, F', acc, cs', e2, h', hl, hI⟩
      by_cases hlt : i < src.len
      · refine .inr ⟨sk.go (e2.trans h'.exH) hlt, fun H2 => ∃ F' acc cs', Ex F1 F' ∧ Hs X.K T F' H2 ((D, .l acc) :: cs') ∧ acc.length ≤ i + 1 ∧ I (i + 1) acc cs', fun H2 q => ⟨src.len - (i + 1), by omega, rfl, hlt, q⟩, fun v H2 y => ?_⟩
        obtain ⟨hH, d, hd, rd⟩ := sk.yld (e2.trans h'.exH) hlt y
        subst hH
        refine ⟨wipe1, turn_ok (step i d acc cs' D hd hI) (by omega) e2 (show EnvOk X.K F' ((ρ.set j none).set j (some d)) ((L2.wipe σ [j]).set j (some v)) from (EnvOk.wipe (vs := [j]) ((he.mono e1).mono e2)).set (rd.mono e2)) h' fun F3 H3 acc3 cs3 e3 h3 hl3 q => ⟨F3, acc3, cs3, e3, h3, by omega, q⟩⟩
      · have e : i = src.len := by omega
        subst e
        exact .inl ⟨sk.stop (e2.trans h'.exH), F', .cell D, _, e1.trans e2, h', rfl, fin acc cs' D hI⟩)
/-- name = [elt for x in iter if ..] -/
theorem a1_setLc (t j : Nat) {x y : Str} {px py : Pos} {spos : Pos} {E : AE} (hN : X.N.Nodup) (hj : X.N[j]? = some x) (ok : BlkOk X.N X.env.scope scope [(x, j)]) (hy : X.N[t]? = some y)
    (h : Ai X T (.Name x px) iter ρ cs fun src cs1 => src.len ≤ 90000 ∧ ∃ I : Nat → List Dt → Cs → Prop, I 0 [] cs1 ∧
      (∀ i d acc cs2 D, src.item i = some d → I i acc cs2 → Turn1 X T scope elt ifs ((ρ.set j none).set j (some d)) cs2 D acc (I (i + 1))) ∧ ∀ acc cs2 D, I src.len acc cs2 → E.nx (ρ.set t (some (.cell D))) ((D, .l acc) :: cs2))
    (hsw : swapsWith (.ListComp elt [⟨.Name x px, iter, ifs, 0⟩] scope pos) (some (.Name y py)) spos.line X.env = pure true)
    (hyl : X.env.scope.names.lookup y = some .local := by rfl) (hx : LocB scope X.env.scope x := by first | exact .inl rfl | exact .inr ⟨rfl, rfl⟩) (hc : X.calm = true := by rfl) (hs : ∀ x, foldedSetIterable iter X.env x = pure x := by intro _; rfl) :
    A1 X T (.Assign [.Name y py] (.ListComp elt [⟨.Name x px, iter, ifs, 0⟩] scope pos) spos) ρ cs E := fun σ F H he hh =>
  wS_of (ps_setLc (i := t) (own := [(x, j)]) (g := gName j) (tt := bTs X scope ifs) (te := bE X scope elt) hc hN hy hyl hsw pi_w ok (fun s H0 C cl fp => pg_name (X := Bk X scope s H0 C cl fp) hN hj hx.loc hx.fn) (fun s H0 C cl fp => ⟨fun pins s' σ H Q I h => h s H0 C cl fp pins s' I⟩)
      (fun s H0 C cl fp => ⟨fun pins s' σ H Q I h => h s H0 C cl fp pins s' I⟩) hs)
    (wI_mono (h σ F H he hh) fun J H1 ⟨F1, src, cs1, e1, h1, sk, hlen, I, i0, step, fin⟩ D hD => by
      refine ⟨fun i m H' => m = src.len - i ∧ i ≤ src.len ∧ ∃ F' acc cs', Ex F1 F' ∧ Hs X.K T F' H' ((D, .l acc) :: cs') ∧ acc.length ≤ i ∧ I i acc cs', ⟨_, rfl, Nat.zero_le _, F1, [], cs1, Ex.refl _, h1.laidC hD (c := .l []) ⟨[], rfl, rfl⟩, Nat.le_refl _, i0⟩, ?_⟩
      rintro i m H' ⟨rfl, hi, F', acc, cs', e2, h', hl, hI⟩
      by_cases hlt : i < src.len
      · refine .inr ⟨sk.go (e2.trans h'.exH) hlt, fun H2 => ∃ F' acc cs', Ex F1 F' ∧ Hs X.K T F' H2 ((D, .l acc) :: cs') ∧ acc.length ≤ i + 1 ∧ I (i + 1) acc cs', fun H2 q => ⟨src.len - (i + 1), by omega, rfl, hlt, q⟩, fun v H2 y => ?_⟩
        obtain ⟨hH, d, hd, rd⟩ := sk.yld (e2.trans h'.exH) hlt y
        subst hH
        refine ⟨wipe1, turn_ok (step i d acc cs' D hd hI) (by omega) e2 (show EnvOk X.K F' ((ρ.set j none).set j (some d)) ((L2.wipe σ [j]).set j (some v)) from (EnvOk.wipe (vs := [j]) ((he.mono e1).mono e2)).set (rd.mono e2)) h' fun F3 H3 acc3 cs3 e3 h3 hl3 q => ⟨F3, acc3, cs3, e3, h3, by omega, q⟩⟩
      · have e : i = src.len := by omega
        subst e
        exact .inl ⟨sk.stop (e2.trans h'.exH), F', _, _, e1.trans e2, ((he.mono e1).mono e2).set (d := .cell D) (v := .ref D) rfl, h', fin acc cs' D hI⟩)
end
end
end G
/-! G5: comprehensions over pairs, calls -/
namespace G
open PySem PySem.Spec PyProof.Rows L2 Evl
section
variable {X : Cx} {T : Ent} {ρ : Rho} {cs : Cs}
section
variable {elt tg iter : Expr} {ifs : List Expr} {scope : Scope} {own : List (Str × Nat)} {pos : Pos}
/-- [elt for x in iter if ..] -/
theorem ax_lcP (i j : Nat) {x y : Str} {px py pt : Pos} {kt : Nat} {P : Dt → Cs → Prop} (hN : X.N.Nodup) (hi : X.N[i]? = some x) (hj : X.N[j]? = some y) (hij : i ≠ j) (ok : BlkOk X.N X.env.scope scope [(x, i), (y, j)])
    (h : Ai X T (.Tuple [.Name x px, .Name y py] kt pt) iter ρ cs fun src cs1 => src.len ≤ 90000 ∧ ∃ I : Nat → List Dt → Cs → Prop, I 0 [] cs1 ∧
      (∀ n d acc cs2 D, src.item n = some d → I n acc cs2 → ∃ d1 d2, d = .tup [d1, d2] ∧ Turn1 X T scope elt ifs ((((ρ.set j none).set i none).set i (some d1)).set j (some d2)) cs2 D acc (I (n + 1))) ∧ ∀ acc cs2 D, I src.len acc cs2 → P (.cell D) ((D, .l acc) :: cs2))
    (hx : LocB scope X.env.scope x := by first | exact .inl rfl | exact .inr ⟨rfl, rfl⟩) (hy : LocB scope X.env.scope y := by first | exact .inl rfl | exact .inr ⟨rfl, rfl⟩) (hc : X.calm = true := by rfl) (hs : ∀ x, foldedSetIterable iter X.env x = pure x := by intro _; rfl) :
    Ax X T (.ListComp elt [⟨.Tuple [.Name x px, .Name y py] kt pt, iter, ifs, 0⟩] scope pos) ρ cs P := fun σ F H he hh =>
  wE_of (pe_lc (own := [(x, i), (y, j)]) (g := gTup X.K 2 (gCons (gName i) (gCons (gName j) gNil))) (tt := bTs X scope ifs) (te := bE X scope elt) hc hN pi_w ok (fun s H0 C cl fp => pg_tup (X := Bk X scope s H0 C cl fp) hc (pgs_cons (X := Bk X scope s H0 C cl fp) (pg_name (X := Bk X scope s H0 C cl fp) hN hi hx.loc hx.fn) (pgs_cons (X := Bk X scope s H0 C cl fp) (pg_name (X := Bk X scope s H0 C cl fp) hN hj hy.loc hy.fn) pgs_nil))) (fun s H0 C cl fp => ⟨fun pins s' σ H Q I h => h s H0 C cl fp pins s' I⟩)
      (fun s H0 C cl fp => ⟨fun pins s' σ H Q I h => h s H0 C cl fp pins s' I⟩) hs)
    (wI_mono (h σ F H he hh) fun J H1 ⟨F1, src, cs1, e1, h1, sk, hlen, I, i0, step, fin⟩ D hD => by
      refine ⟨fun n m H' => m = src.len - n ∧ n ≤ src.len ∧ ∃ F' acc cs', Ex F1 F' ∧ Hs X.K T F' H' ((D, .l acc) :: cs') ∧ acc.length ≤ n ∧ I n acc cs', ⟨_, rfl, Nat.zero_le _, F1, [], cs1, Ex.refl _, h1.laidC hD (c := .l []) ⟨[], rfl, rfl⟩, Nat.le_refl _, i0⟩, ?_⟩
      rintro n m H' ⟨rfl, hn, F', acc, cs', e2, h', hl, hI⟩
      by_cases hlt : n < src.len
      · refine .inr ⟨sk.go (e2.trans h'.exH) hlt, fun H2 => ∃ F' acc cs', Ex F1 F' ∧ Hs X.K T F' H2 ((D, .l acc) :: cs') ∧ acc.length ≤ n + 1 ∧ I (n + 1) acc cs', fun H2 q => ⟨src.len - (n + 1), by omega, rfl, hlt, q⟩, fun v H2 y => ?_⟩
        obtain ⟨hH, d, hd, rd⟩ := sk.yld (e2.trans h'.exH) hlt y
        subst hH
        obtain ⟨d1, d2, rfl, st⟩ := step n d acc cs' D hd hI
        obtain ⟨p, vs, rfl, g1, g2⟩ := rd
        obtain ⟨u, w, rfl, r1, r2⟩ := g2.of_two
        refine ⟨p, _, rfl, SqT.of (h'.exH _ _ (e2 _ _ g1)), rfl, u, _, rfl, w, _, rfl, rfl, wipe2 hij, turn_ok st (by omega) e2 (show EnvOk X.K F' ((((ρ.set j none).set i none).set i (some d1)).set j (some d2)) (((L2.wipe σ [i, j]).set i (some u)).set j (some w)) from ((EnvOk.wipe (vs := [i, j]) ((he.mono e1).mono e2)).set (r1.mono e2)).set (r2.mono e2)) h' fun F3 H3 acc3 cs3 e3 h3 hl3 q => ⟨F3, acc3, cs3, e3, h3, by omega, q⟩⟩
      · have e : n = src.len := by omega
        subst e
        exact .inl ⟨sk.stop (e2.trans h'.exH), F', .cell D, _, e1.trans e2, h', rfl, fin acc cs' D hI⟩)
/-- name = [elt for x in iter if ..] -/
theorem a1_setLcP (t i j : Nat) {x y z : Str} {px py pz pt : Pos} {kt : Nat} {spos : Pos} {E : AE} (hN : X.N.Nodup) (hi : X.N[i]? = some x) (hj : X.N[j]? = some y) (hij : i ≠ j) (ok : BlkOk X.N X.env.scope scope [(x, i), (y, j)]) (hz : X.N[t]? = some z)
    (h : Ai X T (.Tuple [.Name x px, .Name y py] kt pt) iter ρ cs fun src cs1 => src.len ≤ 90000 ∧ ∃ I : Nat → List Dt → Cs → Prop, I 0 [] cs1 ∧
      (∀ n d acc cs2 D, src.item n = some d → I n acc cs2 → ∃ d1 d2, d = .tup [d1, d2] ∧ Turn1 X T scope elt ifs ((((ρ.set j none).set i none).set i (some d1)).set j (some d2)) cs2 D acc (I (n + 1))) ∧ ∀ acc cs2 D, I src.len acc cs2 → E.nx (ρ.set t (some (.cell D))) ((D, .l acc) :: cs2))
    (hsw : swapsWith (.ListComp elt [⟨.Tuple [.Name x px, .Name y py] kt pt, iter, ifs, 0⟩] scope pos) (some (.Name z pz)) spos.line X.env = pure true)
    (hyl : X.env.scope.names.lookup z = some .local := by rfl) (hx : LocB scope X.env.scope x := by first | exact .inl rfl | exact .inr ⟨rfl, rfl⟩) (hy : LocB scope X.env.scope y := by first | exact .inl rfl | exact .inr ⟨rfl, rfl⟩) (hc : X.calm = true := by rfl) (hs : ∀ x, foldedSetIterable iter X.env x = pure x := by intro _; rfl) :
    A1 X T (.Assign [.Name z pz] (.ListComp elt [⟨.Tuple [.Name x px, .Name y py] kt pt, iter, ifs, 0⟩] scope pos) spos) ρ cs E := fun σ F H he hh =>
  wS_of (ps_setLc (i := t) (own := [(x, i), (y, j)]) (g := gTup X.K 2 (gCons (gName i) (gCons (gName j) gNil))) (tt := bTs X scope ifs) (te := bE X scope elt) hc hN hz hyl hsw pi_w ok (fun s H0 C cl fp => pg_tup (X := Bk X scope s H0 C cl fp) hc (pgs_cons (X := Bk X scope s H0 C cl fp) (pg_name (X := Bk X scope s H0 C cl fp) hN hi hx.loc hx.fn) (pgs_cons (X := Bk X scope s H0 C cl fp) (pg_name (X := Bk X scope s H0 C cl fp) hN hj hy.loc hy.fn) pgs_nil))) (fun s H0 C cl fp => ⟨fun pins s' σ H Q I h => h s H0 C cl fp pins s' I⟩)
      (fun s H0 C cl fp => ⟨fun pins s' σ H Q I h => h s H0 C cl fp pins s' I⟩) hs)
    (wI_mono (h σ F H he hh) fun J H1 ⟨F1, src, cs1, e1, h1, sk, hlen, I, i0, step, fin⟩ D hD => by
      refine ⟨fun n m H' => m = src.len - n ∧ n ≤ src.len ∧ ∃ F' acc cs', Ex F1 F' ∧ Hs X.K T F' H' ((D, .l acc) :: cs') ∧ acc.length ≤ n ∧ I n acc cs', ⟨_, rfl, Nat.zero_le _, F1, [], cs1, Ex.refl _, h1.laidC hD (c := .l []) ⟨[], rfl, rfl⟩, Nat.le_refl _, i0⟩, ?_⟩
      rintro n m H' ⟨rfl, hn, F', acc, cs', e2, h', hl, hI⟩
      by_cases hlt : n < src.len
      · refine .inr ⟨sk.go (e2.trans h'.exH) hlt, fun H2 => ∃ F' acc cs', Ex F1 F' ∧ Hs X.K T F' H2 ((D, .l acc) :: cs') ∧ acc.length ≤ n + 1 ∧ I (n + 1) acc cs', fun H2 q => ⟨src.len - (n + 1), by omega, rfl, hlt, q⟩, fun v H2 y => ?_⟩
        obtain ⟨hH, d, hd, rd⟩ := sk.yld (e2.trans h'.exH) hlt y
        subst hH
        obtain ⟨d1, d2, rfl, st⟩ := step n d acc cs' D hd hI
        obtain ⟨p, vs, rfl, g1, g2⟩ := rd
        obtain ⟨u, w, rfl, r1, r2⟩ := g2.of_two
        refine ⟨p, _, rfl, SqT.of (h'.exH _ _ (e2 _ _ g1)), rfl, u, _, rfl, w, _, rfl, rfl, wipe2 hij, turn_ok st (by omega) e2 (show EnvOk X.K F' ((((ρ.set j none).set i none).set i (some d1)).set j (some d2)) (((L2.wipe σ [i, j]).set i (some u)).set j (some w)) from ((EnvOk.wipe (vs := [i, j]) ((he.mono e1).mono e2)).set (r1.mono e2)).set (r2.mono e2)) h' fun F3 H3 acc3 cs3 e3 h3 hl3 q => ⟨F3, acc3, cs3, e3, h3, by omega, q⟩⟩
      · have e : n = src.len := by omega
        subst e
        exact .inl ⟨sk.stop (e2.trans h'.exH), F', _, _, e1.trans e2, ((he.mono e1).mono e2).set (d := .cell D) (v := .ref D) rfl, h', fin acc cs' D hI⟩)
end

/-! ### own defs -/
abbrev Sd := List Dt → Cs → (Dt → Cs → Prop) → (Str → Prop) → Prop
def R0 : Str → Prop := fun _ => False
/-- an own exception of the class at CR leaves, its reason z -/
def XOk (CR : Addr) (T : Ent) (E : XK) (R : Str → Prop) : Prop := ∀ z H' dx, R z → (∀ b o, T.H0 b = some o → b ∉ T.mu → H' b = some o) → H' dx = some (.xd [("reason", .str z)]) → E (.ref CR) (some dx) H'
def spOf (K : PySem.W.Frag) (CR : Addr) (S : Sd) : Sp := fun vs H Q E => ∃ F ds cs P R, Hs K ⟨F, H, cs.map (·.1)⟩ F H cs ∧ RpL K F ds vs ∧ S ds cs P R ∧ (∀ v H', RQ K ⟨F, H, cs.map (·.1)⟩ F P v H' → Q v H') ∧ XOk CR ⟨F, H, cs.map (·.1)⟩ E R
def startR (N : List Str) (ds : List Dt) : Rho := ds.map some ++ List.replicate (N.length - ds.length) none
theorem startR_ok {K : PySem.W.Frag} {F : Hp} {N : List Str} {ds : List Dt} {vs : List V} (r : RpL K F ds vs) : EnvOk K F (startR N ds) (L2.start N vs) := by
  have hl := r.length
  refine ⟨?_, fun i d e => ?_⟩
  · unfold startR L2.start
    rw [List.length_append, List.length_append, List.length_map, List.length_map, List.length_replicate, List.length_replicate, hl]
  · unfold startR at e
    unfold L2.start
    by_cases hi : i < ds.length
    · rw [List.getElem?_append_left (by simpa using hi), List.getElem?_map] at e
      cases q : ds[i]? with
      | none =>
        rw [q] at e
        cases e
      | some d' =>
        rw [q] at e
        cases e
        obtain ⟨v, h1, h2⟩ := r.get q
        exact ⟨v, by rw [List.getElem?_append_left (by simpa [hl] using hi), List.getElem?_map, h1] <;> rfl, h2⟩
    · rw [List.getElem?_append_right (by simpa using hi), List.getElem?_replicate] at e
      split at e <;> cases e
theorem Hs.entry {K : PySem.W.Frag} {F H : Hp} {cs : Cs} (h : Hs K T F H cs) {n : Nat} : Hs K ⟨F, H, (cs.drop n).map (·.1)⟩ F H (cs.drop n) :=
  ⟨Ex.refl _, h.exH, fun _ _ q => .inl q, fun _ _ q _ => q, fun c hc => let ⟨a, b, u⟩ := h.cell c (List.mem_of_mem_drop hc); ⟨a, .inl (List.mem_map_of_mem hc), u⟩,
    by rw [List.map_drop]; exact h.nd.sublist (List.drop_sublist _ _), fun _ hb => hb⟩
/-- behind a call that was handed the cells from n on -/
theorem Hs.back {K : PySem.W.Frag} {F H F' H' : Hp} {cs cs' : Cs} (h : Hs K T F H cs) {n : Nat} (h' : Hs K ⟨F, H, (cs.drop n).map (·.1)⟩ F' H' cs') : Hs K T F' H' (cs.take n ++ cs') := by
  have hsplit : cs.take n ++ cs.drop n = cs := List.take_append_drop n cs
  have hnd : ((cs.take n).map (·.1) ++ (cs.drop n).map (·.1)).Nodup := by
    rw [← List.map_append, hsplit]
    exact h.nd
  obtain ⟨nd1, nd2, nd3⟩ := List.nodup_append.mp hnd
  have ht : ∀ c ∈ cs.take n, c ∈ cs := fun c hc => List.mem_of_mem_take hc
  have none_of : ∀ b, H b = none → T.H0 b = none := fun b hb => (h.fresh hb).2.1
  have outH : ∀ c ∈ cs.take n, ∀ o, H c.1 = some o → H' c.1 = some o := fun c hc o q => h'.keep c.1 o q fun hm => nd3 c.1 (List.mem_map_of_mem hc) c.1 hm rfl
  refine ⟨h.exF.trans h'.exF, h'.exH, fun b o q => ?_, fun b o q m => ?_, fun c hc => ?_, ?_, fun b hb => ?_⟩
  · rcases h'.new b o q with q | q
    · exact h.new b o q
    · exact .inr (none_of b q)
  · have q1 := h.keep b o q m
    refine h'.keep b o q1 fun hm => ?_
    obtain ⟨c, hc, e⟩ := List.mem_map.mp hm
    obtain ⟨_, f2, _⟩ := h.cell c (List.mem_of_mem_drop hc)
    rw [e] at f2
    rcases f2 with f2 | f2
    · exact m f2
    · rw [f2] at q
      cases q
  · rcases List.mem_append.mp hc with hc | hc
    · obtain ⟨f1, f2, o, f3, f4⟩ := h.cell c (ht c hc)
      refine ⟨?_, f2, o, outH c hc o f3, f4.mono h'.exF⟩
      cases q : F' c.1 with
      | none => rfl
      | some u =>
        rcases h'.new c.1 u q with z | z
        · rw [show F c.1 = some u from z] at f1
          cases f1
        · rw [show H c.1 = none from z] at f3
          cases f3
    · obtain ⟨f1, f2, f3⟩ := h'.cell c hc
      refine ⟨f1, ?_, f3⟩
      rcases f2 with f2 | f2
      · obtain ⟨d, hd, e⟩ := List.mem_map.mp f2
        obtain ⟨_, g2, _⟩ := h.cell d (List.mem_of_mem_drop hd)
        rw [e] at g2
        exact g2
      · exact .inr (none_of _ f2)
  · rw [List.map_append]
    refine List.nodup_append.mpr ⟨nd1, h'.nd, fun a ha b hb e => ?_⟩
    subst e
    obtain ⟨c, hc, ec⟩ := List.mem_map.mp ha
    obtain ⟨d, hd, ed⟩ := List.mem_map.mp hb
    obtain ⟨_, g2, _⟩ := h'.cell d hd
    obtain ⟨_, _, o, f3, _⟩ := h.cell c (ht c hc)
    rw [ed] at g2
    rw [ec] at f3
    rcases g2 with g2 | g2
    · exact nd3 a ha a g2 rfl
    · rw [show H a = none from g2] at f3
      cases f3
  · have q := h.mus b hb
    rw [← hsplit, List.map_append] at q
    rw [List.map_append]
    rcases List.mem_append.mp q with q | q
    · exact List.mem_append_left _ q
    · exact List.mem_append_right _ (h'.mus b q)
/-- a def of the module that keeps its word -/
structure Fo (P : Program) (w : World) (K : PySem.W.Frag) (mg : Str → Option Value) (base : Heap) (CX : CXT) (CR : Addr) (k : Nat) (x : Str) (S : Sd) : Prop where
  ex : ∃ f fd ps, FnOk P w K mg base CX k f fd ps (spOf K CR S) ∧ mg x = some (.ref f) ∧ PySem.W.keepIn K (.ref f) = true ∧ Binds K fd ps []
/-- a method of the class at C -/
structure Mo (P : Program) (w : World) (K : PySem.W.Frag) (mg : Str → Option Value) (base : Heap) (CX : CXT) (CR C : Addr) (k : Nat) (m : Str) (S : Sd) : Prop where
  ex : ∃ f fd ps, FnOk P w K mg base CX k f fd ps (spOf K CR S) ∧ Cls K C ∧ Meth K C m f ∧ Binds K fd ps []
/-- the making of an instance -/
structure Ko (P : Program) (w : World) (K : PySem.W.Frag) (mg : Str → Option Value) (base : Heap) (CX : CXT) (CR C : Addr) (k : Nat) (x : Str) (S : Sd) : Prop where
  ex : ∃ f fd ps, FnOk P w K mg base CX k f fd ps (spOf K CR S) ∧ mg x = some (.ref C) ∧ Mk K C f ∧ Binds K fd ps []
/-- what is raised within reaches what this body wants -/
structure Pas (X : Cx) (T : Ent) (CX : CXT) (CR : Addr) (R : Str → Prop) : Prop where
  ex : ∃ E, Passes CX X E ∧ XOk CR T E R
theorem pas0 {CR : Addr} : Pas X T CX0 CR R0 := ⟨E0, pass0, fun _ _ _ h => h.elim⟩
/-- the callee's word, handed the cells from n on -/
theorem sp_of {CR : Addr} {S : Sd} {n : Nat} {Fb F H : Hp} {ds : List Dt} {vs : List V} {E : XK} {R : Str → Prop} {P : Dt → Cs → Prop} {Q : VK} (hx : XOk CR T E R) (eb : Ex Fb F) (hh : Hs X.K T F H cs) (hr : RpL X.K F ds vs)
    (hS : S ds (cs.drop n) (fun d cin => P d (cs.take n ++ cin)) R) (hQ : ∀ v H', RQ X.K T Fb P v H' → Q v H') : spOf X.K CR S vs H Q E :=
  ⟨F, ds, cs.drop n, _, R, hh.entry, hr, hS, fun v H' ⟨F', d, cs', e', h', r', q'⟩ => hQ v H' ⟨F', d, _, eb.trans e', hh.back h', r', q'⟩, fun z H' dx hz hk hd => hx z H' dx hz (fun b o q m => by
    have q1 := hh.keep b o q m
    refine hk b o q1 fun hm => ?_
    obtain ⟨c, hc, e⟩ := List.mem_map.mp hm
    obtain ⟨_, f2, _⟩ := hh.cell c (List.mem_of_mem_drop hc)
    rw [e] at f2
    rcases f2 with f2 | f2
    · exact m f2
    · rw [f2] at q
      cases q) hd⟩
section
variable {CX : CXT} {CR C : Addr} {k : Nat} {x m : Str} {S : Sd} {R : Str → Prop} {e o : Expr} {es : List Expr} {p pos apos : Pos} {P : Dt → Cs → Prop}
/-- f(e, ..): handed the cells from n on -/
theorem ax_callN (n : Nat) (c : Fo X.prog X.w X.K X.mg X.base CX CR k x S) (hr : Room k X.A) (hx : Pas X T CX CR R) (h : Aa X T (e :: es) ρ cs fun ds cs1 => S ds (cs1.drop n) (fun d cin => P d (cs1.take n ++ cin)) R) (hg : Gl X x := by rfl)
    (hdb : (x == ("__debug__" : Str)) = false := by decide) (he : starEach (e :: es) X.env = (false, eval e X.env) :: starEach es X.env := by rfl) (hpl : (backTo pos (starEach es X.env)).any (·.1) = false := by rfl) : Ax X T (.Call (.Name x p) (e :: es) [] pos) ρ cs P := by
  obtain ⟨f, fd, ps, F1, hm, hk, hb⟩ := c.ex
  obtain ⟨E, hp, hE⟩ := hx.ex
  exact fun σ F H he' hh => wE_of (pe_call F1 hr hg hm hk hb .nil hp pa_w hdb he hpl) (wA_mono (h σ F H he' hh) fun vs H1 ⟨F1, ds, cs1, e1, h1, r1, q⟩ => sp_of hE e1 h1 (by rw [List.append_nil]; exact r1) q fun _ _ q => q)
/-- a word that is handed no cell -/
def pureS (S : List Dt → (Dt → Prop) → (Str → Prop) → Prop) : Sd := fun ds cs P R => cs = [] ∧ S ds (fun d => P d []) R
theorem pure_drop {S : List Dt → (Dt → Prop) → (Str → Prop) → Prop} {ds : List Dt} {cs : Cs} {P : Dt → Cs → Prop} {R : Str → Prop} (h : S ds (fun d => P d cs) R) : pureS S ds (cs.drop cs.length) (fun d cin => P d (cs.take cs.length ++ cin)) R := by
  refine ⟨List.drop_length, ?_⟩
  show S ds (fun d => P d (cs.take cs.length ++ [])) R
  rw [List.take_length, List.append_nil]
  exact h
/-- f(e, ..), a def that is handed no cell -/
theorem ax_call {S : List Dt → (Dt → Prop) → (Str → Prop) → Prop} (c : Fo X.prog X.w X.K X.mg X.base CX CR k x (pureS S)) (hr : Room k X.A) (hx : Pas X T CX CR R) (h : Aa X T (e :: es) ρ cs fun ds cs1 => S ds (fun d => P d cs1) R) (hg : Gl X x := by rfl)
    (hdb : (x == ("__debug__" : Str)) = false := by decide) (he : starEach (e :: es) X.env = (false, eval e X.env) :: starEach es X.env := by rfl) (hpl : (backTo pos (starEach es X.env)).any (·.1) = false := by rfl) : Ax X T (.Call (.Name x p) (e :: es) [] pos) ρ cs P := by
  obtain ⟨f, fd, ps, F1, hm, hk, hb⟩ := c.ex
  obtain ⟨E, hp, hE⟩ := hx.ex
  exact fun σ F H he' hh => wE_of (pe_call F1 hr hg hm hk hb .nil hp pa_w hdb he hpl) (wA_mono (h σ F H he' hh) fun vs H1 ⟨F1, ds, cs1, e1, h1, r1, q⟩ =>
    sp_of (n := cs1.length) hE e1 h1 (by rw [List.append_nil]; exact r1) (pure_drop q) fun _ _ q => q)
/-- o.m(e, ..) -/
theorem ax_meth {S : List Dt → (Dt → Prop) → (Str → Prop) → Prop} {pl : Sem Bool} (c : Mo X.prog X.w X.K X.mg X.base CX CR C k m (pureS S)) (hr : Room k X.A) (hx : Pas X T CX CR R) (h : Ax X T o ρ cs fun d cs1 => ∃ ns ws, d = .ins C ns ws ∧ m ∉ ns ∧ Aa X T (e :: es) ρ cs1 fun ds cs2 => S (d :: ds) (fun d => P d cs2) R)
    (hst : starEach (e :: es) X.env = (false, eval e X.env) :: starEach es X.env := by rfl) (hpl : (backTo pos (starEach es X.env)).any (·.1) = false := by rfl)
    (ht : eval (.Call (.Attribute o m apos) (e :: es) [] pos) X.env = (do
      let ov ← eval o X.env
      standAt apos.atName
      let (f, first) ← holding [ov] (getMethod ov m pl)
      callWith pos f first (backTo pos (starEach (e :: es) X.env)) (backToKw pos (keywordEach [] X.env))) := by rfl) : Ax X T (.Call (.Attribute o m apos) (e :: es) [] pos) ρ cs P := by
  obtain ⟨f, fd, ps, F1, cl, hm, hb⟩ := c.ex
  obtain ⟨E, hp, hE⟩ := hx.ex
  exact fun σ F H he' hh => wE_of (pe_meth pe_w cl hm F1 hr hb .nil hp pa_w hst hpl ht) (wE_mono (h σ F H he' hh) fun v H1 ⟨F1, d, cs1, e1, h1, r1, ns, ws, hd, hns, q⟩ => by
    subst hd
    obtain ⟨a, dx, vs, rfl, g1, g2⟩ := id r1
    refine ⟨a, dx, _, rfl, h1.exH _ _ g1, zip_none hns, wA_mono (q σ F1 H1 (he'.mono e1) h1) fun us H2 ⟨F2, ds, cs2, e2, h2, r2, q2⟩ => ?_⟩
    exact sp_of (n := cs2.length) (ds := .ins C ns ws :: ds) hE (e1.trans e2) h2 ⟨_, _, rfl, r1.mono e2, by rw [List.append_nil]; exact r2⟩ (pure_drop q2) fun _ _ q => q)
/-- o.m() -/
theorem ax_meth0 {S : List Dt → (Dt → Prop) → (Str → Prop) → Prop} {pl : Sem Bool} (c : Mo X.prog X.w X.K X.mg X.base CX CR C k m (pureS S)) (hr : Room k X.A) (hx : Pas X T CX CR R) (h : Ax X T o ρ cs fun d cs1 => ∃ ns ws, d = .ins C ns ws ∧ m ∉ ns ∧ S [d] (fun d => P d cs1) R)
    (ht : eval (.Call (.Attribute o m apos) [] [] pos) X.env = (do
      let ov ← eval o X.env
      standAt apos.atName
      let (f, first) ← holding [ov] (getMethod ov m pl)
      callWith pos f first (backTo pos (starEach [] X.env)) (backToKw pos (keywordEach [] X.env))) := by rfl) : Ax X T (.Call (.Attribute o m apos) [] [] pos) ρ cs P := by
  obtain ⟨f, fd, ps, F1, cl, hm, hb⟩ := c.ex
  obtain ⟨E, hp, hE⟩ := hx.ex
  exact fun σ F H he' hh => wE_of (pe_meth0 pe_w cl hm F1 hr hb .nil hp ht) (wE_mono (h σ F H he' hh) fun v H1 ⟨F1, d, cs1, e1, h1, r1, ns, ws, hd, hns, q⟩ => by
    subst hd
    obtain ⟨a, dx, vs, rfl, g1, g2⟩ := id r1
    refine ⟨a, dx, _, rfl, h1.exH _ _ g1, zip_none hns, ?_⟩
    exact sp_of (n := cs1.length) hE e1 h1 (.one r1) (pure_drop q) fun _ _ q => q)
/-- C(e, ..): a new instance, its __init__ run over it as a cell, then let be -/
theorem ax_make (c : Ko X.prog X.w X.K X.mg X.base CX CR C k x S) (hr : Room (k + 1) X.A) (hx : Pas X T CX CR R) (h : Aa X T (e :: es) ρ cs fun ds cs1 => ∀ y, S (.cell y :: ds) [(y, .o C [] [])] (fun d cs' => d = .non ∧ ∃ ns ws, cs' = [(y, .o C ns ws)] ∧ P (.ins C ns ws) cs1) R) (hg : Gl X x := by rfl)
    (hdb : (x == ("__debug__" : Str)) = false := by decide) (he : starEach (e :: es) X.env = (false, eval e X.env) :: starEach es X.env := by rfl) (hpl : (backTo pos (starEach es X.env)).any (·.1) = false := by rfl) : Ax X T (.Call (.Name x p) (e :: es) [] pos) ρ cs P := by
  obtain ⟨f, fd, ps, F1, hm, M, hb⟩ := c.ex
  obtain ⟨E, hp, hE⟩ := hx.ex
  exact fun σ F H he' hh => wE_of (pe_make M F1 hr hg hm hb .nil hp pa_w hdb he hpl) (wA_mono (h σ F H he' hh) fun vs H1 ⟨F1, ds, cs1, e1, h1, r1, q⟩ y dx hy hdx hne => by
    have E1 : Ex H1 (upd H1 dx (.own y)) := Ex.new hdx
    have hy1 : upd H1 dx (.own y) y = none := by rw [upd_ne hne.symm]; exact hy
    have E2 : Ex (upd H1 dx (.own y)) (upd (upd H1 dx (.own y)) y (.ins C dx [])) := Ex.new hy1
    have h2 := ((h1.lift E1).laidC hy1 (o := .ins C dx []) (c := .o C [] []) ⟨rfl, dx, [], rfl, rfl⟩).perm (cs' := cs1 ++ [(y, .o C [] [])]) (List.perm_append_singleton _ _).symm
    have hd : (cs1 ++ [(y, Ct.o C [] [])]).drop cs1.length = [(y, Ct.o C [] [])] := List.drop_left
    have ht : (cs1 ++ [(y, Ct.o C [] [])]).take cs1.length = cs1 := List.take_left
    refine sp_of (cs := cs1 ++ [(y, .o C [] [])]) (n := cs1.length) (Fb := F) (P := fun d cs' => d = .non ∧ ∃ ns ws, cs' = cs1 ++ [(y, .o C ns ws)] ∧ P (.ins C ns ws) cs1) hE e1 h2 (ds := .cell y :: ds) ⟨_, _, rfl, rfl, by rw [List.append_nil]; exact r1⟩ ?_ fun v H3 ⟨F3, d, cs3, e3, h3, r3, hd', ns, ws, hcs, q3⟩ => ?_
    · rw [hd, ht]
      have e : (fun (d : Dt) (cin : Cs) => d = Dt.non ∧ ∃ ns ws, cs1 ++ cin = cs1 ++ [(y, Ct.o C ns ws)] ∧ P (.ins C ns ws) cs1) = fun d cs' => d = .non ∧ ∃ ns ws, cs' = [(y, .o C ns ws)] ∧ P (.ins C ns ws) cs1 := by
        funext d cin
        simp only [List.append_cancel_left_eq]
      rw [e]
      exact q y
    · subst hd'
      subst hcs
      obtain rfl := (show v = V.non from r3)
      refine ⟨rfl, ?_⟩
      have h4 := h3.perm (cs' := (y, .o C ns ws) :: cs1) (List.perm_append_singleton _ _)
      have nmu : y ∉ T.mu := fun m => (h1.fresh hy).2.2 (h1.mus y m)
      obtain ⟨o, g1, ⟨g0, dx', us, rfl, g2⟩, e4, h5⟩ := h4.freezeM (k := 0) (a := y) (c := .o C ns ws) rfl nmu
      exact ⟨_, .ins C ns ws, cs1, e3.trans e4, h5, ⟨y, dx', us, rfl, upd_same, g2.mono e4⟩, q3⟩)
end
end

/-! ### a def's word, by its body -/
section
variable {P : Program} {w : World} {K : PySem.W.Frag} {mg : Str → Option Value} {base : Heap} {CR : Addr}
theorem ends_le {F H : Hp} {cs : Cs} {Q : VK} {Pd : Dt → Cs → Prop} (hQ : ∀ v H', RQ K ⟨F, H, cs.map (·.1)⟩ F Pd v H' → Q v H') : EndsLe (rE K ⟨F, H, cs.map (·.1)⟩ F { nx := fun _ cs' => Pd .non cs', rt := Pd }) { nx := fun _ H' => Q .non H', rt := Q } :=
  ⟨fun σ' H' ⟨F', ρ', cs', e1, _, h', q⟩ => hQ _ _ ⟨F', .non, cs', e1, h', rfl, q⟩, fun v H' q => hQ v H' q, fun _ _ ⟨_, _, _, _, _, _, q⟩ => q.elim, fun _ _ ⟨_, _, _, _, _, _, q⟩ => q.elim⟩
theorem def_ok {x qual : Str} {st : Stmt} {f : Addr} {fd : FuncData} {N ps : List Str} {k : Nat} {S : Sd} (F : Fun K x qual st f fd) (sc : FnScope N ps (defScope st)) (len : ∀ ds cs P R, S ds cs P R → ds.length = ps.length)
    (hb : ∀ (cdv : Value) (A : Around) (outer : List Env) (s : Shared) (F H : Hp) (E : XK) (ds : List Dt) (cs : Cs) (Pd : Dt → Cs → Prop) (R : Str → Prop), Room k (A.deeper (envOfC qual (defScope st) s.heap.objs.size f cdv)) → S ds cs Pd R →
      As (cxOf CX0 P w K mg base N qual (defScope st) f cdv A outer s H E).nox ⟨F, H, cs.map (·.1)⟩ (defBody st) (startR N ds) cs { nx := fun _ cs' => Pd .non cs', rt := Pd }) : FnOk P w K mg base CX0 (k + 1) f fd ps (spOf K CR S) := by
  refine F.ok sc (fun vs H Q E ⟨F0, ds, cs, Pd, R, hh, hr, hS, _⟩ => by rw [hr.length]; exact len _ _ _ _ hS) fun cdv A outer s H vs Q E hroom ⟨F0, ds, cs, Pd, R, hh, hr, hS, hQ, hX⟩ => ?_
  exact ⟨_, pss_w, wSs_mono (hb cdv A outer s F0 H E ds cs Pd R hroom hS _ _ _ (startR_ok hr) hh) (ends_le hQ)⟩
theorem def_okX {x qual : Str} {st : Stmt} {f : Addr} {fd : FuncData} {N ps : List Str} {k : Nat} {S : Sd} (F : Fun K x qual st f fd) (sc : FnScope N ps (defScope st)) (len : ∀ ds cs P R, S ds cs P R → ds.length = ps.length)
    (hb : ∀ (cdv : Value) (A : Around) (outer : List Env) (s : Shared) (F H : Hp) (E : XK) (ds : List Dt) (cs : Cs) (Pd : Dt → Cs → Prop) (R : Str → Prop), Room k (A.deeper (envOfC qual (defScope st) s.heap.objs.size f cdv)) → S ds cs Pd R → XOk CR ⟨F, H, cs.map (·.1)⟩ E R →
      As (cxOf (L2.CX P w) P w K mg base N qual (defScope st) f cdv A outer s H E) ⟨F, H, cs.map (·.1)⟩ (defBody st) (startR N ds) cs { nx := fun _ cs' => Pd .non cs', rt := Pd }) : FnOk P w K mg base (L2.CX P w) (k + 1) f fd ps (spOf K CR S) := by
  refine F.okX sc (fun vs H Q E ⟨F0, ds, cs, Pd, R, hh, hr, hS, _⟩ => by rw [hr.length]; exact len _ _ _ _ hS) fun cdv A outer s H vs Q E hroom ⟨F0, ds, cs, Pd, R, hh, hr, hS, hQ, hX⟩ => ?_
  exact ⟨_, pss_w, wSs_mono (hb cdv A outer s F0 H E ds cs Pd R hroom hS hX _ _ _ (startR_ok hr) hh) (ends_le hQ)⟩
end
end G
/-! G6: built-in functions and methods -/
namespace G
open PySem PySem.Spec PyProof.Rows L2 Evl
section
variable {X : Cx} {T : Ent} {ρ : Rho} {cs : Cs}
section
variable {a b e o : Expr} {es : List Expr} {p pos apos : Pos} {P : Dt → Cs → Prop}
/-- a built-in called -/
theorem ax_bi {id : String} {x : Str} {r : List V → Hp → VK → Prop} (hc : CallR X (.builtin id) r) (hm : X.mg x = none) (hv : bootBuiltins x = some (.builtin id))
    (h : Aa X T (e :: es) ρ cs fun ds cs1 => ∀ Fb F H vs, Ex Fb F → Hs X.K T F H cs1 → RpL X.K F ds vs → r vs H (RQ X.K T Fb P)) (hg : Gl X x := by rfl) (hn : x ≠ "__name__" := by decide) (hdb : (x == ("__debug__" : Str)) = false := by decide)
    (he : starEach (e :: es) X.env = (false, eval e X.env) :: starEach es X.env := by rfl) (hpl : (backTo pos (starEach es X.env)).any (·.1) = false := by rfl) : Ax X T (.Call (.Name x p) (e :: es) [] pos) ρ cs P := fun σ F H he' hh =>
  wE_of (pe_callB hc hg hm hv pa_w hn hdb he hpl) (wA_mono (h σ F H he' hh) fun vs H1 ⟨F1, ds, cs1, e1, h1, r1, q⟩ => q F F1 H1 vs e1 h1 r1)
theorem ax_ty {id : String} {x : Str} {r : List V → Hp → VK → Prop} (hc : CallR X (.type id) r) (hm : X.mg x = none) (hv : bootBuiltins x = some (.type id))
    (h : Aa X T (e :: es) ρ cs fun ds cs1 => ∀ Fb F H vs, Ex Fb F → Hs X.K T F H cs1 → RpL X.K F ds vs → r vs H (RQ X.K T Fb P)) (hg : Gl X x := by rfl) (hn : x ≠ "__name__" := by decide) (hdb : (x == ("__debug__" : Str)) = false := by decide)
    (he : starEach (e :: es) X.env = (false, eval e X.env) :: starEach es X.env := by rfl) (hpl : (backTo pos (starEach es X.env)).any (·.1) = false := by rfl) : Ax X T (.Call (.Name x p) (e :: es) [] pos) ρ cs P := fun σ F H he' hh =>
  wE_of (pe_callTy hc hg hm hv pa_w hn hdb he hpl) (wA_mono (h σ F H he' hh) fun vs H1 ⟨F1, ds, cs1, e1, h1, r1, q⟩ => q F F1 H1 vs e1 h1 r1)
theorem ax_len (hm : X.mg "len" = none) (h : Ax X T e ρ cs fun d cs1 => ∃ ds, IsSeq d cs1 ds ∧ P (.int (ds.length : Int)) cs1) (hg : Gl X "len" := by rfl) (he : starEach [e] X.env = (false, eval e X.env) :: starEach [] X.env := by rfl) : Ax X T (.Call (.Name "len" p) [e] [] pos) ρ cs P :=
  ax_bi call_len_seq hm PySem.boot_len (aa_cons (h.imp fun d cs1 ⟨ds, hd, q⟩ => aa_nil fun Fb F H vs e1 hh r => by
    obtain ⟨x, rfl, rx⟩ := r.of_one
    obtain ⟨p, us, rfl, g1, g2⟩ := hd.at hh rx
    exact ⟨p, us, rfl, g1, by rw [g2.length]; exact .flat (d := .int (ds.length : Int)) e1 hh rfl q⟩) he) hg (he := he)
theorem ax_abs (hm : X.mg "abs" = none) (h : Ax X T e ρ cs fun d cs1 => ∃ i, d = .int i ∧ P (.int (if i < 0 then -i else i)) cs1) (hg : Gl X "abs" := by rfl) (he : starEach [e] X.env = (false, eval e X.env) :: starEach [] X.env := by rfl) : Ax X T (.Call (.Name "abs" p) [e] [] pos) ρ cs P :=
  ax_bi call_abs hm (by decide +kernel) (aa_cons (h.imp fun d cs1 ⟨i, hd, q⟩ => aa_nil fun Fb F H vs e1 hh r => by
    subst hd
    obtain ⟨x, rfl, rx⟩ := r.of_one
    obtain rfl := (show x = V.int i from rx)
    exact ⟨i, rfl, .flat (d := .int (if i < 0 then -i else i)) e1 hh rfl q⟩) he) hg (he := he)
theorem ax_int1 (hm : X.mg "int" = none) (h : Ax X T e ρ cs fun d cs1 => ∃ i, d = .int i ∧ P (.int i) cs1) (hg : Gl X "int" := by rfl) (he : starEach [e] X.env = (false, eval e X.env) :: starEach [] X.env := by rfl) : Ax X T (.Call (.Name "int" p) [e] [] pos) ρ cs P :=
  ax_ty call_int1 hm (by decide +kernel) (aa_cons (h.imp fun d cs1 ⟨i, hd, q⟩ => aa_nil fun Fb F H vs e1 hh r => by
    subst hd
    obtain ⟨x, rfl, rx⟩ := r.of_one
    obtain rfl := (show x = V.int i from rx)
    exact .inl ⟨i, rfl, .flat (d := .int i) e1 hh rfl q⟩) he) hg (he := he)
/-- tuple(x) of a list or a tuple -/
theorem ax_tuple (hm : X.mg "tuple" = none) (h : Ax X T e ρ cs fun d cs1 => ∃ ds, IsSeq d cs1 ds ∧ P (.tup ds) cs1) (hg : Gl X "tuple" := by rfl) (he : starEach [e] X.env = (false, eval e X.env) :: starEach [] X.env := by rfl) : Ax X T (.Call (.Name "tuple" p) [e] [] pos) ρ cs P :=
  ax_ty call_tuple_of hm (by decide +kernel) (aa_cons (h.imp fun d cs1 ⟨ds, hd, q⟩ => aa_nil fun Fb F H vs e1 hh r => by
    obtain ⟨x, rfl, rx⟩ := r.of_one
    rcases hd with rfl | rfl | ⟨k, a, rfl, hk⟩
    · obtain ⟨a, us, rfl, g1, g2⟩ := rx
      exact ⟨a, us, rfl, .inl ⟨SqL.of (hh.exH _ _ g1), fun l hl => .new (d := .tup ds) e1 hh hl ⟨l, us, rfl, upd_same, g2.mono (hh.laid hl _).1⟩ q⟩⟩
    · obtain ⟨a, us, rfl, g1, g2⟩ := rx
      exact ⟨a, us, rfl, .inr ⟨SqT.of (hh.exH _ _ g1), .flat (d := .tup ds) e1 hh ⟨a, us, rfl, g1, g2⟩ q⟩⟩
    · obtain ⟨_, _, o, g1, g2⟩ := hh.cell _ (List.mem_of_getElem? hk)
      obtain ⟨us, rfl, g2⟩ := g2
      obtain rfl := (show x = V.ref a from rx)
      exact ⟨a, us, rfl, .inl ⟨SqL.of g1, fun l hl => .new (d := .tup ds) e1 hh hl ⟨l, us, rfl, upd_same, g2.mono (hh.laid hl _).1⟩ q⟩⟩) he) hg (he := he)
/-- list(x): a new list that stands for good -/
theorem ax_list (hm : X.mg "list" = none) (h : Ax X T e ρ cs fun d cs1 => ∃ ds, IsSeq d cs1 ds ∧ P (.lst ds) cs1) (hg : Gl X "list" := by rfl) (he : starEach [e] X.env = (false, eval e X.env) :: starEach [] X.env := by rfl) : Ax X T (.Call (.Name "list" p) [e] [] pos) ρ cs P :=
  ax_ty call_list_of hm (by decide +kernel) (aa_cons (h.imp fun d cs1 ⟨ds, hd, q⟩ => aa_nil fun Fb F H vs e1 hh r => by
    obtain ⟨x, rfl, rx⟩ := r.of_one
    obtain ⟨p, us, rfl, g1, g2⟩ := hd.at hh rx
    exact ⟨p, us, rfl, g1, fun l hl => .new (d := .lst ds) e1 hh hl ⟨l, us, rfl, upd_same, g2.mono (hh.laid hl _).1⟩ q⟩) he) hg (he := he)
/-- list(range(n)): a new cell -/
theorem ax_listRg {p2 pos2 : Pos} (hm : X.mg "list" = none) (hm2 : X.mg "range" = none) (h : Ax X T e ρ cs fun d cs1 => ∃ n : Nat, d = .int n ∧ n ≤ 100000 ∧ ∀ l, P (.cell l) ((l, .l ((List.range n).map fun i : Nat => Dt.int (i : Int))) :: cs1)) (hc : X.calm = true := by rfl) (hg : Gl X "list" := by rfl) (hg2 : Gl X "range" := by rfl)
    (na : starEach [e] X.env = (false, eval e X.env) :: starEach [] X.env := by rfl) (na2 : starEach [.Call (.Name "range" p2) [e] [] pos2] X.env = (false, eval (.Call (.Name "range" p2) [e] [] pos2) X.env) :: starEach [] X.env := by rfl) :
    Ax X T (.Call (.Name "list" p) [.Call (.Name "range" p2) [e] [] pos2] [] pos) ρ cs P := fun σ F H he hh =>
  wE_of (pe_listRg hc hg hm (prg_1 hg2 hm2 pe_w na) na2) (wE_mono (h σ F H he hh) fun v H1 ⟨F1, d, cs1, e1, h1, r1, n, hd, hn, q⟩ => by
    subst hd
    obtain rfl := (show v = V.int n from r1)
    refine ⟨n, rfl, RgOk.of_le (by omega) (by omega) (by omega) (by omega), fun l hl => .newC (c := .l ((List.range n).map fun i : Nat => Dt.int (i : Int))) e1 h1 hl ⟨_, rfl, ?_⟩ (q l)⟩
    unfold rgV
    have e : ((n : Int) - 0).toNat = n := by omega
    rw [e]
    have z : ∀ m : List Nat, RpL X.K F1 (m.map fun i : Nat => Dt.int (i : Int)) (m.map fun i : Nat => V.int (0 + (i : Int))) := fun m => by
      induction m with
      | nil => exact rfl
      | cons k m ih => exact ⟨_, _, rfl, by show V.int (0 + (k : Int)) = V.int (k : Int); rw [Int.zero_add], ih⟩
    exact z _)
/-- sorted(xs), whole numbers -/
theorem ax_sortI (hm : X.mg "sorted" = none) (h : Ax X T e ρ cs fun d cs1 => ∃ ns : List Int, d = .lst (ns.map .int) ∧ ∀ ns' : List Int, ns'.Perm ns → ns'.Pairwise (· ≤ ·) → P (.lst (ns'.map .int)) cs1) (hg : Gl X "sorted" := by rfl) (he : starEach [e] X.env = (false, eval e X.env) :: starEach [] X.env := by rfl) :
    Ax X T (.Call (.Name "sorted" p) [e] [] pos) ρ cs P :=
  ax_bi cr_sortedI hm (by decide +kernel) (aa_cons (h.imp fun d cs1 ⟨ns, hd, q⟩ => aa_nil fun Fb F H vs e1 hh r => by
    subst hd
    obtain ⟨x, rfl, rx⟩ := r.of_one
    obtain ⟨a, us, rfl, g1, g2⟩ := rx
    obtain rfl := g2.of_ints
    exact ⟨a, ns, rfl, SqL.of (hh.exH _ _ g1), fun ns' l hp hs hl => .new (d := .lst (ns'.map .int)) e1 hh hl ⟨l, _, rfl, upd_same, .ints⟩ (q ns' hp hs)⟩) he) hg (he := he)
def pairD (q : Int × Int) : Dt := .tup [.int q.1, .int q.2]
theorem RpL.perm {K : PySem.W.Frag} {F : Hp} {xs ys : List V} (p : xs.Perm ys) : ∀ {ds : List Dt}, RpL K F ds xs → ∃ es, es.Perm ds ∧ RpL K F es ys := by
  induction p with
  | nil => exact fun {ds} h => ⟨ds, .refl _, h⟩
  | @cons x l1 l2 _ ih =>
    intro ds h
    cases ds with
    | nil => exact absurd (show x :: l1 = [] from h) (by simp)
    | cons d ds =>
      obtain ⟨y, zs, h1, h2, h3⟩ := h
      cases h1
      obtain ⟨es, q1, q2⟩ := ih h3
      exact ⟨d :: es, q1.cons d, _, _, rfl, h2, q2⟩
  | @swap x y l =>
    intro ds h
    cases ds with
    | nil => exact absurd (show y :: x :: l = [] from h) (by simp)
    | cons d ds =>
      obtain ⟨z, zs, h1, h2, h3⟩ := h
      cases h1
      cases ds with
      | nil => exact absurd (show x :: l = [] from h3) (by simp)
      | cons e ds =>
        obtain ⟨z, zs, h4, h5, h6⟩ := h3
        cases h4
        exact ⟨e :: d :: ds, .swap _ _ _, _, _, rfl, h5, _, _, rfl, h2, h6⟩
  | trans _ _ ih1 ih2 =>
    intro ds h
    obtain ⟨es, q1, q2⟩ := ih1 h
    obtain ⟨gs, q3, q4⟩ := ih2 q2
    exact ⟨gs, q3.trans q1, q4⟩
theorem perm_pairs {ps : List (Int × Int)} {es : List Dt} (h : es.Perm (ps.map pairD)) : ∃ qs : List (Int × Int), qs.Perm ps ∧ es = qs.map pairD := by
  have key : ∀ {es ds : List Dt}, es.Perm ds → ∀ qs : List (Int × Int), ds = qs.map pairD → ∃ ps : List (Int × Int), ps.Perm qs ∧ es = ps.map pairD := by
    intro es ds hp
    induction hp with
    | nil =>
      intro qs hq
      cases qs with
      | nil => exact ⟨[], .refl _, rfl⟩
      | cons _ _ => cases hq
    | @cons x l1 l2 _ ih =>
      intro qs hq
      cases qs with
      | nil => cases hq
      | cons q qs =>
        cases hq
        obtain ⟨ps, h1, h2⟩ := ih qs rfl
        exact ⟨q :: ps, h1.cons q, by rw [h2] <;> rfl⟩
    | @swap x y l =>
      intro qs hq
      cases qs with
      | nil => cases hq
      | cons q qs =>
        cases qs with
        | nil => cases hq
        | cons q2 qs =>
          cases hq
          exact ⟨q2 :: q :: qs, .swap _ _ _, rfl⟩
    | trans _ _ ih1 ih2 =>
      intro qs hq
      obtain ⟨ps, h1, h2⟩ := ih2 qs hq
      obtain ⟨rs, h3, h4⟩ := ih1 ps h2
      exact ⟨rs, h3.trans h1, h4⟩
  exact key h ps rfl
/-- sorted(xs), pairs of whole numbers: some order -/
theorem ax_sortP (hm : X.mg "sorted" = none) (h : Ax X T e ρ cs fun d cs1 => ∃ ps : List (Int × Int), d = .lst (ps.map pairD) ∧ ∀ qs : List (Int × Int), qs.Perm ps → P (.lst (qs.map pairD)) cs1) (hg : Gl X "sorted" := by rfl) (he : starEach [e] X.env = (false, eval e X.env) :: starEach [] X.env := by rfl) :
    Ax X T (.Call (.Name "sorted" p) [e] [] pos) ρ cs P :=
  ax_bi cr_sortedP hm (by decide +kernel) (aa_cons (h.imp fun d cs1 ⟨ps, hd, q⟩ => aa_nil fun Fb F H vs e1 hh r => by
    subst hd
    obtain ⟨x, rfl, rx⟩ := r.of_one
    obtain ⟨a, us, rfl, g1, g2⟩ := rx
    refine ⟨a, us, rfl, SqL.of (hh.exH _ _ g1), fun x hx => ?_, fun ys l hp hl => ?_⟩
    · obtain ⟨i, hi, ei⟩ := List.mem_iff_getElem.mp hx
      obtain ⟨d, hd, rd⟩ := g2.get' (show us[i]? = some x by rw [← ei]; exact List.getElem?_eq_getElem hi)
      rw [List.getElem?_map] at hd
      cases q2 : ps[i]? with
      | none =>
        rw [q2] at hd
        cases hd
      | some z =>
        rw [q2] at hd
        cases hd
        obtain ⟨t, ws, rfl, k1, k2⟩ := rd
        obtain ⟨u, v, rfl, k3, k4⟩ := k2.of_two
        obtain rfl := (show u = V.int z.1 from k3)
        obtain rfl := (show v = V.int z.2 from k4)
        exact ⟨t, z.1, z.2, rfl, hh.exH _ _ k1⟩
    · obtain ⟨es, k1, k2⟩ := g2.perm hp.symm
      obtain ⟨qs, k3, rfl⟩ := perm_pairs k1
      exact .new (d := .lst (qs.map pairD)) e1 hh hl ⟨l, ys, rfl, upd_same, k2.mono (hh.laid hl _).1⟩ (q qs k3)) he) hg (he := he)

/-! ### methods of lists, dicts, numbers -/
/-- xs.append(e) -/
theorem ax_append (h : Ax X T o ρ cs fun d cs1 => ∃ l, d = .cell l ∧ (∃ (k : Nat) (ds : List Dt), cs1[k]? = some (l, .l ds)) ∧ Ax X T e ρ cs1 fun y cs2 => ∃ (k : Nat) (ds : List Dt), cs2[k]? = some (l, .l ds) ∧ ds.length < 90000 ∧ P .non (cs2.set k (l, .l (ds ++ [y]))))
    (hbase : attributeBase o "append" X.env (eval o X.env) = eval o X.env := by rfl)
    (hfew : ((backTo pos (starEach [e] X.env)).all (fun x => !x.1) && (backToKw pos (keywordEach [] X.env)).all (fun x => x.1.isSome)
      && decide (([e] : List Expr).length + ([] : List Keyword).length + (if ([] : List Keyword).isEmpty then 0 else 1) < 30)) = true := by rfl)
    (hline : (apos.endLine == pos.line) = true := by rfl) (hs : starEach [e] X.env = (false, eval e X.env) :: starEach [] X.env := by rfl) (hplain : (backTo pos (starEach [] X.env)).any (·.1) = false := by rfl) :
    Ax X T (.Call (.Attribute o "append" apos) [e] [] pos) ρ cs P := fun σ F H he hh =>
  wE_of (pe_bm PySem.F.plainAttrs_list PySem.F.slot_list_append PySem.F.type_list_append mt_append pe_w (pa_cons pe_w pa_nil hs) hbase hfew hline hs hplain)
    (wE_mono (h σ F H he hh) fun v H1 ⟨F1, d, cs1, e1, h1, r1, l, hd, ⟨k, ds, hk⟩, q⟩ => by
      subst hd
      obtain rfl := (show v = V.ref l from r1)
      obtain ⟨_, _, o, g1, us, rfl, g2⟩ := h1.cell _ (List.mem_of_getElem? hk)
      refine ⟨.inl ⟨rfl, us, SqL.of g1⟩, wE_mono (q σ F1 H1 (he.mono e1) h1) fun y H2 ⟨F2, d2, cs2, e2, h2, r2, k2, ds2, hk2, hl, q2⟩ => ?_⟩
      obtain ⟨_, _, o, g3, ws, rfl, g4⟩ := h2.cell _ (List.mem_of_getElem? hk2)
      have hz := g4.length
      exact ⟨l, ws, y, rfl, rfl, g3, sz_lt (by omega), F2, .non, _, e1.trans e2, h2.write hk2 (c' := .l (ds2 ++ [d2])) ⟨_, rfl, g4.append (.one r2)⟩, rfl, q2⟩)
/-- xs.extend(ys) -/
theorem ax_extend (h : Ax X T o ρ cs fun d cs1 => ∃ l, d = .cell l ∧ (∃ (k : Nat) (ds : List Dt), cs1[k]? = some (l, .l ds)) ∧ Ax X T e ρ cs1 fun y cs2 => ∃ (k : Nat) (ds es : List Dt), y = .lst es ∧ cs2[k]? = some (l, .l ds) ∧ ds.length + es.length < 90000 ∧ P .non (cs2.set k (l, .l (ds ++ es))))
    (hbase : attributeBase o "extend" X.env (eval o X.env) = eval o X.env := by rfl)
    (hfew : ((backTo pos (starEach [e] X.env)).all (fun x => !x.1) && (backToKw pos (keywordEach [] X.env)).all (fun x => x.1.isSome)
      && decide (([e] : List Expr).length + ([] : List Keyword).length + (if ([] : List Keyword).isEmpty then 0 else 1) < 30)) = true := by rfl)
    (hline : (apos.endLine == pos.line) = true := by rfl) (hs : starEach [e] X.env = (false, eval e X.env) :: starEach [] X.env := by rfl) (hplain : (backTo pos (starEach [] X.env)).any (·.1) = false := by rfl) :
    Ax X T (.Call (.Attribute o "extend" apos) [e] [] pos) ρ cs P := fun σ F H he hh =>
  wE_of (pe_bm PySem.F.plainAttrs_list PySem.F.slot_list_extend PySem.F.type_list_extend mt_extend pe_w (pa_cons pe_w pa_nil hs) hbase hfew hline hs hplain)
    (wE_mono (h σ F H he hh) fun v H1 ⟨F1, d, cs1, e1, h1, r1, l, hd, ⟨k, ds, hk⟩, q⟩ => by
      subst hd
      obtain rfl := (show v = V.ref l from r1)
      obtain ⟨_, _, o, g1, us, rfl, g2⟩ := h1.cell _ (List.mem_of_getElem? hk)
      refine ⟨.inl ⟨rfl, us, SqL.of g1⟩, wE_mono (q σ F1 H1 (he.mono e1) h1) fun y H2 ⟨F2, d2, cs2, e2, h2, r2, k2, ds2, es, hd2, hk2, hl, q2⟩ => ?_⟩
      subst hd2
      obtain ⟨b, zs, rfl, k3, k4⟩ := r2
      obtain ⟨_, _, o, g3, ws, rfl, g4⟩ := h2.cell _ (List.mem_of_getElem? hk2)
      have hz := g4.length
      have hz2 := k4.length
      exact ⟨l, b, ws, zs, rfl, rfl, g3, h2.exH _ _ k3, sz_of (by omega), F2, .non, _, e1.trans e2, h2.write hk2 (c' := .l (ds2 ++ es)) ⟨_, rfl, g4.append k4⟩, rfl, q2⟩)
theorem seqIx {i n : Nat} (h : i < n) : seqIndex? (i : Int) n = some i := by
  unfold seqIndex?
  have h1 : ¬ ((i : Int) < 0) := by omega
  simp only [h1, if_false]
  have h2 : (decide (0 ≤ (i : Int)) && decide ((i : Int) < (n : Int))) = true := by simp; omega
  rw [if_pos h2, Int.toNat_natCast]
/-- xs.pop(i) -/
theorem ax_pop (h : Ax X T o ρ cs fun d cs1 => ∃ l, d = .cell l ∧ (∃ (k : Nat) (ds : List Dt), cs1[k]? = some (l, .l ds)) ∧ Ax X T e ρ cs1 fun y cs2 => ∃ (k : Nat) (ds : List Dt) (i : Nat) (z : Dt), y = .int i ∧ cs2[k]? = some (l, .l ds) ∧ ds[i]? = some z ∧ ds.length < 90000 ∧ P z (cs2.set k (l, .l (ds.eraseIdx i))))
    (hbase : attributeBase o "pop" X.env (eval o X.env) = eval o X.env := by rfl)
    (hfew : ((backTo pos (starEach [e] X.env)).all (fun x => !x.1) && (backToKw pos (keywordEach [] X.env)).all (fun x => x.1.isSome)
      && decide (([e] : List Expr).length + ([] : List Keyword).length + (if ([] : List Keyword).isEmpty then 0 else 1) < 30)) = true := by rfl)
    (hline : (apos.endLine == pos.line) = true := by rfl) (hs : starEach [e] X.env = (false, eval e X.env) :: starEach [] X.env := by rfl) (hplain : (backTo pos (starEach [] X.env)).any (·.1) = false := by rfl) :
    Ax X T (.Call (.Attribute o "pop" apos) [e] [] pos) ρ cs P := fun σ F H he hh =>
  wE_of (pe_bm PySem.F.plainAttrs_list PySem.F.slot_list_pop PySem.F.type_list_pop mt_popAt pe_w (pa_cons pe_w pa_nil hs) hbase hfew hline hs hplain)
    (wE_mono (h σ F H he hh) fun v H1 ⟨F1, d, cs1, e1, h1, r1, l, hd, ⟨k, ds, hk⟩, q⟩ => by
      subst hd
      obtain rfl := (show v = V.ref l from r1)
      obtain ⟨_, _, o, g1, us, rfl, g2⟩ := h1.cell _ (List.mem_of_getElem? hk)
      refine ⟨.inl ⟨rfl, us, SqL.of g1⟩, wE_mono (q σ F1 H1 (he.mono e1) h1) fun y H2 ⟨F2, d2, cs2, e2, h2, r2, k2, ds2, i, z, hd2, hk2, hz, hl, q2⟩ => ?_⟩
      subst hd2
      obtain rfl := (show y = V.int i from r2)
      obtain ⟨_, _, o, g3, ws, rfl, g4⟩ := h2.cell _ (List.mem_of_getElem? hk2)
      have hzl := g4.length
      obtain ⟨w, hw, rw'⟩ := g4.get hz
      have hi := (List.getElem?_eq_some_iff.mp hw).1
      exact ⟨l, ws, i, i, w, rfl, rfl, g3, by omega, by omega, seqIx hi, hw, F2, z, _, e1.trans e2, h2.write hk2 (c' := .l (ds2.eraseIdx i)) ⟨_, rfl, g4.eraseIdx⟩, rw', q2⟩)
/-- n.bit_length() -/
theorem ax_bits (h : Ax X T o ρ cs fun d cs1 => ∃ i, d = .int i ∧ P (.int (Builtin.Int.intBits i : Nat)) cs1) (hbase : attributeBase o "bit_length" X.env (eval o X.env) = eval o X.env := by rfl) (hline : (apos.endLine == pos.line) = true := by rfl) : Ax X T (.Call (.Attribute o "bit_length" apos) [] [] pos) ρ cs P := fun σ F H he hh =>
  wE_of (pe_bits pe_w hbase hline) (wE_mono (h σ F H he hh) fun v H1 ⟨F1, d, cs1, e1, h1, r1, i, hd, q⟩ => by
    subst hd
    obtain rfl := (show v = V.int i from r1)
    exact ⟨i, rfl, .flat (d := .int (Builtin.Int.intBits i : Nat)) e1 h1 rfl q⟩)
/-- {} -/
theorem ax_dict (h : ∀ p, P (.cell p) ((p, .k []) :: cs)) : Ax X T (.Dict [] [] pos) ρ cs P := fun σ F H he hh => wE_of pe_dnewK fun p hp => .newC (c := .k []) (Ex.refl _) hh hp rfl (h p)
/-- d.get(k, x): k, x and what is found whole numbers -/
theorem ax_dget {f : Expr} (hu : X.A.units + 1 < cLine) (h : Ax X T o ρ cs fun d cs1 => ∃ l, d = .cell l ∧ (∃ (k : Nat) (kvs : List (Key × V)), cs1[k]? = some (l, .k kvs)) ∧ Ax X T e ρ cs1 fun y cs2 => Ax X T f ρ cs2 fun z cs3 => ∃ (k : Nat) (kvs : List (Key × V)) (i j n : Int), y = .int i ∧ z = .int j ∧ cs3[k]? = some (l, .k kvs) ∧
      (valV kvs (Sum.inl i)).getD (.int j) = .int n ∧ P (.int n) cs3) (m : M2 X o "get" apos e f pos := by exact ⟨rfl, rfl, rfl, rfl⟩) : Ax X T (.Call (.Attribute o "get" apos) [e, f] [] pos) ρ cs P := fun σ F H he hh =>
  wE_of (pe_dget2 hu pe_w pe_w pe_w m) (wE_mono (h σ F H he hh) fun v H1 ⟨F1, d, cs1, e1, h1, r1, l, hd, ⟨k, kvs, hk⟩, q⟩ => by
    subst hd
    obtain rfl := (show v = V.ref l from r1)
    obtain ⟨_, _, o, g1, g2⟩ := h1.cell _ (List.mem_of_getElem? hk)
    obtain rfl := (show o = .dK kvs from g2)
    refine ⟨l, rfl, .inl ⟨kvs, .inl g1⟩, wE_mono (q σ F1 H1 (he.mono e1) h1) fun y H2 ⟨F2, d2, cs2, e2, h2, r2, q2⟩ => wE_mono (q2 σ F2 H2 ((he.mono e1).mono e2) h2) fun z H3 ⟨F3, d3, cs3, e3, h3, r3, k3, kvs3, i, j, n, hd2, hd3, hk3, hn, q3⟩ => ?_⟩
    subst hd2
    subst hd3
    obtain rfl := (show y = V.int i from r2)
    obtain rfl := (show z = V.int j from r3)
    obtain ⟨_, _, o, g3, g4⟩ := h3.cell _ (List.mem_of_getElem? hk3)
    obtain rfl := (show o = .dK kvs3 from g4)
    refine ⟨_, DGet.k (k := Sum.inl i) g3, ?_⟩
    rw [hn]
    exact .flat (d := .int n) ((e1.trans e2).trans e3) h3 rfl q3)
/-- d[k] = v: whole numbers -/
theorem a1_dput {E : AE} {i : Expr} {p' : Pos} (hu : X.A.units + 1 < cLine) (h : Ax X T e ρ cs fun y cs1 => Ax X T o ρ cs1 fun d cs2 => Ax X T i ρ cs2 fun z cs3 => ∃ (k : Nat) (l : Addr) (kvs : List (Key × V)) (m n : Int), y = .int m ∧ d = .cell l ∧ z = .int n ∧ cs3[k]? = some (l, .k kvs) ∧ kvs.length < 90000 ∧
      E.nx ρ (cs3.set k (l, .k (putK kvs (Sum.inl n) (.int m))))) (hs : swapsWith e (some (.Subscript o i p')) pos.line X.env = pure false := by rfl) : A1 X T (.Assign [.Subscript o i p'] e pos) ρ cs E := fun σ F H he hh =>
  wS_of (ps_dput hu pe_w pe_w pe_w hs) (wE_mono (h σ F H he hh) fun v H1 ⟨F1, d1, cs1, e1, h1, r1, q1⟩ => wE_mono (q1 σ F1 H1 (he.mono e1) h1) fun y H2 ⟨F2, d2, cs2, e2, h2, r2, q2⟩ => wE_mono (q2 σ F2 H2 ((he.mono e1).mono e2) h2) fun z H3 ⟨F3, d3, cs3, e3, h3, r3, k, l, kvs, m, n, hd1, hd2, hd3, hk, hl, q⟩ => by
    subst hd1
    subst hd2
    subst hd3
    obtain rfl := (show v = V.int m from r1)
    obtain rfl := (show y = V.ref l from r2)
    obtain rfl := (show z = V.int n from r3)
    obtain ⟨_, _, o, g3, g4⟩ := h3.cell _ (List.mem_of_getElem? hk)
    obtain rfl := (show o = .dK kvs from g4)
    exact ⟨l, _, rfl, DPut.k (k := Sum.inl n) g3 (sz_lt (by omega)), F3, ρ, _, (e1.trans e2).trans e3, he.mono ((e1.trans e2).trans e3), h3.write hk (c' := .k _) rfl, q⟩)

/-! ### isinstance -/
/-- the type's name -/
def tyD : Dt → Option String
  | .int _ => some "int"
  | .bl _ => some "bool"
  | .str _ => some "str"
  | .non => some "NoneType"
  | .tup _ => some "tuple"
  | .lst _ => some "list"
  | _ => none
theorem tyD_ok {K : PySem.W.Frag} {F H : Hp} {d : Dt} {x : V} {t : String} (h : tyD d = some t) (e : Ex F H) (r : Rp K F d x) : TyX K H x (.type t) := by
  cases d with
  | int i => cases h; obtain rfl := (show x = V.int i from r); exact .base (.int i)
  | bl i => cases h; obtain rfl := (show x = V.bl i from r); exact .base (.bl i)
  | str i => cases h; obtain rfl := (show x = V.str i from r); exact .base (.str i)
  | non => cases h; obtain rfl := (show x = V.non from r); exact .base .non
  | tup _ => cases h; obtain ⟨a, xs, rfl, h1, _⟩ := r; exact .base (.tup (e _ _ h1))
  | lst _ => cases h; obtain ⟨a, xs, rfl, h1, _⟩ := r; exact .base (.lst (e _ _ h1))
  | ins _ _ _ => cases h
  | cell _ => cases h
  | scr _ => cases h
/-- isinstance(e, T), T a built-in class by its name -/
theorem ax_isi {c : Str} {p2 : Pos} {u : String} (hm : X.mg "isinstance" = none) (hm2 : X.mg c = none) (hv : bootBuiltins c = some (.type u)) (h : Ax X T e ρ cs fun d cs1 => ∃ t k, tyD d = some t ∧ kitB t u = some k ∧ P (.bl k) cs1) (hg : Gl X "isinstance" := by rfl) (hg2 : Gl X c := by rfl) (hn : c ≠ "__name__" := by decide) (hdb : (c == ("__debug__" : Str)) = false := by decide)
    (he : starEach [e, .Name c p2] X.env = (false, eval e X.env) :: starEach [.Name c p2] X.env := by rfl) (he2 : starEach [.Name c p2] X.env = (false, eval (.Name c p2) X.env) :: starEach [] X.env := by rfl) (hpl : (backTo pos (starEach [.Name c p2] X.env)).any (·.1) = false := by rfl) :
    Ax X T (.Call (.Name "isinstance" p) [e, .Name c p2] [] pos) ρ cs P := fun σ F H hen hh =>
  wE_of (pe_callB call_isi hg hm (by decide +kernel) (pa_cons pe_w (pa_cons (pe_bltn (v := .ty u) hg2 hm2 hv rfl hn hdb) pa_nil he2) he) (by decide) (by decide) he hpl) (wE_mono (h σ F H hen hh) fun v H1 ⟨F1, d, cs1, e1, h1, r1, t, k, ht, hk, q⟩ =>
    ⟨v, .ty u, .type t, .type u, k, rfl, .ty u, tyD_ok ht h1.exH r1, kit_ty hk, .flat (d := .bl k) e1 h1 rfl q⟩)
/-- isinstance(e, (T, U)) -/
theorem ax_isi2 {c1 c2 : Str} {p2 p3 p4 : Pos} {kk : Nat} {u1 u2 : String} (hm : X.mg "isinstance" = none) (hm1 : X.mg c1 = none) (hm2 : X.mg c2 = none) (hv1 : bootBuiltins c1 = some (.type u1)) (hv2 : bootBuiltins c2 = some (.type u2))
    (h : Ax X T e ρ cs fun d cs1 => ∃ t k1 k2, tyD d = some t ∧ kitB t u1 = some k1 ∧ kitB t u2 = some k2 ∧ P (.bl (k1 || k2)) cs1) (hg : Gl X "isinstance" := by rfl) (hg1 : Gl X c1 := by rfl) (hg2 : Gl X c2 := by rfl) (hn1 : c1 ≠ "__name__" := by decide) (hdb1 : (c1 == ("__debug__" : Str)) = false := by decide) (hn2 : c2 ≠ "__name__" := by decide) (hdb2 : (c2 == ("__debug__" : Str)) = false := by decide)
    (he : starEach [e, .Tuple [.Name c1 p2, .Name c2 p3] kk p4] X.env = (false, eval e X.env) :: starEach [.Tuple [.Name c1 p2, .Name c2 p3] kk p4] X.env := by rfl) (he2 : starEach [.Tuple [.Name c1 p2, .Name c2 p3] kk p4] X.env = (false, eval (.Tuple [.Name c1 p2, .Name c2 p3] kk p4) X.env) :: starEach [] X.env := by rfl)
    (he3 : starEach [.Name c1 p2, .Name c2 p3] X.env = (false, eval (.Name c1 p2) X.env) :: starEach [.Name c2 p3] X.env := by rfl) (he4 : starEach [.Name c2 p3] X.env = (false, eval (.Name c2 p3) X.env) :: starEach [] X.env := by rfl)
    (hpl : (backTo pos (starEach [.Tuple [.Name c1 p2, .Name c2 p3] kk p4] X.env)).any (·.1) = false := by rfl) :
    Ax X T (.Call (.Name "isinstance" p) [e, .Tuple [.Name c1 p2, .Name c2 p3] kk p4] [] pos) ρ cs P := fun σ F H hen hh =>
  wE_of (pe_callB call_isiT hg hm (by decide +kernel) (pa_cons pe_w (pa_cons (pe_tup (pa_cons (pe_bltn (v := .ty u1) hg1 hm1 hv1 rfl hn1 hdb1) (pa_cons (pe_bltn (v := .ty u2) hg2 hm2 hv2 rfl hn2 hdb2) pa_nil he4) he3)) pa_nil he2) he) (by decide) (by decide) he hpl)
    (wE_mono (h σ F H hen hh) fun v H1 ⟨F1, d, cs1, e1, h1, r1, t, k1, k2, ht, hk1, hk2, q⟩ => by
      refine ⟨by show 2 ≤ sizeLine; decide, fun tp htp => ?_⟩
      obtain ⟨e2, h2⟩ := h1.laid htp (.tup [.ty u1, .ty u2])
      refine ⟨v, tp, _, .type t, _, k1 || k2, rfl, upd_same, .cons (.ty u1) (.cons (.ty u2) .nil), tyD_ok ht (h1.exH.trans (Ex.new htp)) r1, ?_, .flat (d := .bl (k1 || k2)) (e1.trans e2) h2 rfl q⟩
      refine kitAny_cons (kit_ty hk1) (fun h => ?_) fun h => by rw [h, Bool.true_or]
      subst h
      rw [Bool.false_or]
      refine kitAny_cons (kit_ty hk2) (fun h => ?_) fun h => h
      rw [h]
      exact kitAny_nil)
/-- what of the class an isinstance asks -/
structure IsC (K : PySem.W.Frag) (C : Addr) : Prop where
  cl : Cls K C
  ha : PySem.W.findIn K (.ref C) "__class__" = some (some (.builtin "object.__class__"))
  hn : PySem.W.specialIn K (.builtin "object.__class__") "__get__" = some (some (.builtin "getset_descriptor.__get__"))
  htk : PySem.W.takesIn K (.builtin "object.__class__") = some true
  hm : PySem.W.mroIn K C (.type "object") = some true
  self : PySem.W.kitOne K (.ref C) (.ref C) = some true
/-- isinstance(e, C), an instance of the very class -/
theorem ax_isiC {c : Str} {p2 : Pos} {C : Addr} (hm : X.mg "isinstance" = none) (hm2 : X.mg c = some (.ref C)) (hC : IsC X.K C) (h : Ax X T e ρ cs fun d cs1 => ∃ ns ws, d = .ins C ns ws ∧ P (.bl true) cs1) (hg : Gl X "isinstance" := by rfl) (hg2 : Gl X c := by rfl) (hdb : (c == ("__debug__" : Str)) = false := by decide)
    (he : starEach [e, .Name c p2] X.env = (false, eval e X.env) :: starEach [.Name c p2] X.env := by rfl) (he2 : starEach [.Name c p2] X.env = (false, eval (.Name c p2) X.env) :: starEach [] X.env := by rfl) (hpl : (backTo pos (starEach [.Name c p2] X.env)).any (·.1) = false := by rfl) :
    Ax X T (.Call (.Name "isinstance" p) [e, .Name c p2] [] pos) ρ cs P := fun σ F H hen hh =>
  wE_of (pe_callB call_isi hg hm (by decide +kernel) (pa_cons pe_w (pa_cons (pe_glob (v := .ref C) hg2 hm2 rfl hdb) pa_nil he2) he) (by decide) (by decide) he hpl) (wE_mono (h σ F H hen hh) fun v H1 ⟨F1, d, cs1, e1, h1, r1, ns, ws, hd, q⟩ => by
    subst hd
    obtain ⟨a, dx, xs, rfl, g1, g2⟩ := r1
    exact ⟨_, .ref C, .ref C, .ref C, true, rfl, .own C, .base (.ins (h1.exH _ _ g1) hC.cl hC.ha hC.hn hC.htk hC.hm), hC.self, .flat (d := .bl true) e1 h1 rfl q⟩)

/-! ### pairs in a sequence of pairs; tuples of whole numbers compared -/
def pairP (q : Int × Int) : PyData := .tuple [.int q.1, .int q.2]
theorem pair_dp {K : PySem.W.Frag} {F H : Hp} {q : Int × Int} {x : V} (e : Ex F H) (r : Rp K F (pairD q) x) : Dp K H x (pairP q) := by
  obtain ⟨a, xs, rfl, h1, h2⟩ := r
  obtain ⟨u, w, rfl, r1, r2⟩ := h2.of_two
  obtain rfl := (show u = V.int q.1 from r1)
  obtain rfl := (show w = V.int q.2 from r2)
  exact .tup (SqT.of (e _ _ h1)) (.cons (.int _) (.cons (.int _) .nil))
theorem pairs_dp {K : PySem.W.Frag} {F H : Hp} (e : Ex F H) : ∀ {ps : List (Int × Int)} {xs : List V}, RpL K F (ps.map pairD) xs → DpAll K H xs (ps.map pairP)
  | [], _, h => by
    obtain rfl := (show _ = [] from h)
    exact .nil
  | q :: ps, _, ⟨x, ys, h1, h2, h3⟩ => by
    subst h1
    exact .cons (pair_dp e h2) (pairs_dp e h3)
theorem ints_dp {K : PySem.W.Frag} {H : Hp} : ∀ {ns : List Int}, DpAll K H (ns.map V.int) (ns.map PyData.int)
  | [] => .nil
  | _ :: _ => .cons (.int _) ints_dp
theorem pairP_eqv (q r : Int × Int) : PyData.eqv (pairP q) (pairP r) = decide (q = r) := by
  obtain ⟨a, b⟩ := q
  obtain ⟨c, d⟩ := r
  have e : PyData.eqv (pairP (a, b)) (pairP (c, d)) = ((a == c) && ((b == d) && true)) := by simp only [pairP, PyData.eqv, PyData.eqvAll]
  rw [e, Bool.and_true, Bool.eq_iff_iff]
  simp
theorem pairP_lay (q : Int × Int) : (pairP q).canLay0 = true := by simp [pairP, PyData.canLay0, PyData.canLayAll0]
theorem pairP_depth (q : Int × Int) : (pairP q).depth = 1 := by simp [pairP, PyData.depth, PyData.depthAll]
theorem pairsP_lay : ∀ ps : List (Int × Int), PyData.canLayAll0 (ps.map pairP) = true
  | [] => rfl
  | q :: ps => by
    rw [List.map_cons]
    simp only [PyData.canLayAll0, pairP_lay, pairsP_lay ps, Bool.and_self]
theorem pairsP_any (q : Int × Int) (ps : List (Int × Int)) : ((ps.map pairP).any fun z => PyData.eqv z (pairP q)) = decide (q ∈ ps) := by
  rw [List.any_map, Bool.eq_iff_iff, List.any_eq_true, decide_eq_true_iff]
  constructor
  · rintro ⟨r, hr, e⟩
    have e : PyData.eqv (pairP r) (pairP q) = true := e
    rw [pairP_eqv, decide_eq_true_iff] at e
    rw [← e]
    exact hr
  · intro h
    exact ⟨q, h, by show PyData.eqv (pairP q) (pairP q) = true; rw [pairP_eqv, decide_eq_true_iff]⟩
def rInP (K : PySem.W.Frag) : R2 := fun x y H Q => ∃ (q : Int × Int) (ps : List (Int × Int)), Dp K H x (pairP q) ∧ (Dp K H y (.list (ps.map pairP)) ∨ Dp K H y (.tuple (ps.map pairP))) ∧ Q (.bl (decide (q ∈ ps))) H
theorem op_inP (hu : X.A.units + 65 < cLine) : OpR X (compareOp .In) (rInP X.K) := by
  intro pins s σ H x y v u Q I rx ry h
  obtain ⟨q, ps, hd, he, k⟩ := h
  have hsh : SeqAt.shaped (pairP q) = true := by
    unfold SeqAt.shaped
    rw [pairP_lay, pairP_depth]
    rfl
  obtain ⟨as, r1⟩ := Dp.reads I (pairP q) x v hd rx
  have fin : EP X pins σ Q (.bool ((ps.map pairP).any fun z => PyData.eqv z (pairP q))) s := ⟨.bl _, H, I, rfl, by rw [pairsP_any]; exact k⟩
  have hroom : X.A.units + 1 + min (PyData.depthAll (ps.map pairP)) (pairP q).depth < cLine := by
    rw [pairP_depth]
    have := Nat.min_le_right (PyData.depthAll (ps.map pairP)) 1
    omega
  rcases he with he | he
  · obtain ⟨bs, r2⟩ := Dp.reads I (.list (ps.map pairP)) y u he ry
    exact SeqAt.in_list_reads r2 r1 (pairsP_lay ps) (pairP_lay q) hroom fin
  · obtain ⟨bs, r2⟩ := Dp.reads I (.tuple (ps.map pairP)) y u he ry
    exact SeqAt.in_tuple_reads r2 r1 (pairsP_lay ps) (pairP_lay q) hroom fin
/-- a pair in a list or a tuple of pairs -/
def RInP : Dt → Dt → Cs → (Bool → Prop) → Prop := fun d e _ Q => ∃ (q : Int × Int) (ps : List (Int × Int)), d = pairD q ∧ (e = .lst (ps.map pairD) ∨ e = .tup (ps.map pairD)) ∧ Q (decide (q ∈ ps))
theorem cmp_inP (hu : X.A.units + 65 < cLine) (hm : behindInMarks .In b = false) : CmpR X T .In b RInP := ⟨rInP X.K, op_inP hu, hm, fun x y H Q Q' k ⟨q, ps, h1, h2, z⟩ => ⟨q, ps, h1, h2, k _ _ z⟩, fun d e cs Q ⟨q, ps, hd, he, z⟩ F H x y Q' hh rx ry k => by
  subst hd
  refine ⟨q, ps, pair_dp hh.exH rx, ?_, k _ z⟩
  rcases he with rfl | rfl
  · obtain ⟨a, xs, rfl, h1, h2⟩ := ry
    exact .inl (.lst (SqL.of (hh.exH _ _ h1)) (pairs_dp hh.exH h2))
  · obtain ⟨a, xs, rfl, h1, h2⟩ := ry
    exact .inr (.tup (SqT.of (hh.exH _ _ h1)) (pairs_dp hh.exH h2))⟩
theorem intsP_lay : ∀ ns : List Int, PyData.canLayAll0 (ns.map PyData.int) = true
  | [] => rfl
  | n :: ns => by
    rw [List.map_cons]
    simp only [PyData.canLayAll0, PyData.canLay0, intsP_lay ns, Bool.and_self]
theorem intsP_depth : ∀ ns : List Int, PyData.depthAll (ns.map PyData.int) = 0
  | [] => rfl
  | n :: ns => by
    rw [List.map_cons]
    simp only [PyData.depthAll, PyData.depth, intsP_depth ns, Nat.max_self]
theorem intsP_shaped (ns : List Int) : SeqAt.shaped (.tuple (ns.map PyData.int)) = true := by
  unfold SeqAt.shaped
  have h1 : (PyData.tuple (ns.map PyData.int)).canLay0 = true := by simp only [PyData.canLay0, intsP_lay]
  have h2 : (PyData.tuple (ns.map PyData.int)).depth ≤ 64 := by simp only [PyData.depth, intsP_depth]; decide
  rw [h1, decide_eq_true h2]
  rfl
/-- two tuples of the same whole numbers -/
def REqT : Dt → Dt → Cs → (Bool → Prop) → Prop := fun d e _ Q => ∃ ns : List Int, d = .tup (ns.map .int) ∧ e = .tup (ns.map .int) ∧ Q true
def RNeT : Dt → Dt → Cs → (Bool → Prop) → Prop := fun d e _ Q => ∃ ns : List Int, d = .tup (ns.map .int) ∧ e = .tup (ns.map .int) ∧ Q false
theorem tup_dp {K : PySem.W.Frag} {F H : Hp} {ns : List Int} {x : V} (e : Ex F H) (r : Rp K F (.tup (ns.map .int)) x) : Dp K H x (.tuple (ns.map PyData.int)) := by
  obtain ⟨a, xs, rfl, h1, h2⟩ := r
  obtain rfl := h2.of_ints
  exact .tup (SqT.of (e _ _ h1)) ints_dp
theorem cmp_eqT (hu : X.A.units + 64 < cLine) : CmpR X T .Eq b REqT := ⟨rEqD X.K, op_eqD hu, nomark _, fun x y H Q Q' k ⟨d, e, h1, h2, h3, h4, z⟩ => ⟨d, e, h1, h2, h3, h4, k _ _ z⟩, fun d e cs Q ⟨ns, hd, he, z⟩ F H x y Q' hh rx ry k => by
  subst hd
  subst he
  refine ⟨_, _, tup_dp hh.exH rx, tup_dp hh.exH ry, intsP_shaped ns, intsP_shaped ns, ?_⟩
  rw [SeqAt.eqv_refl _ (SeqAt.canLay_of_shaped (intsP_shaped ns))]
  exact k _ z⟩
theorem cmp_neT (hu : X.A.units + 64 < cLine) : CmpR X T .NotEq b RNeT := ⟨rNeD X.K, op_neD hu, nomark _, fun x y H Q Q' k ⟨d, e, h1, h2, h3, h4, z⟩ => ⟨d, e, h1, h2, h3, h4, k _ _ z⟩, fun d e cs Q ⟨ns, hd, he, z⟩ F H x y Q' hh rx ry k => by
  subst hd
  subst he
  refine ⟨_, _, tup_dp hh.exH rx, tup_dp hh.exH ry, intsP_shaped ns, intsP_shaped ns, ?_⟩
  rw [SeqAt.eqv_refl _ (SeqAt.canLay_of_shaped (intsP_shaped ns))]
  exact k _ z⟩
/-- the script's first n items: a new list that stands for good -/
theorem ax_slice {hi : Expr} {p2 : Pos} (h : Ax X T a ρ cs fun d cs1 => Ax X T hi ρ cs1 fun e cs2 => ∃ (ns : List Int) (n : Nat), d = .scr ns ∧ e = .int n ∧ P (.lst ((ns.take n).map .int)) cs2) : Ax X T (.Subscript a (.Slice none (some hi) none p2) pos) ρ cs P := fun σ F H he hh =>
  wE_of (pe_slice sl_list pe_w po_none (po_some pe_w)) (wE_mono (h σ F H he hh) fun v H1 ⟨F1, d, cs1, e1, h1, r1, q1⟩ => wE_mono (q1 σ F1 H1 (he.mono e1) h1) fun u H2 ⟨F2, d2, cs2, e2, h2, r2, ns, n, hd, hn, q⟩ => by
    subst hd
    subst hn
    obtain rfl := (show u = V.int n from r2)
    obtain ⟨p, rfl, g1⟩ := r1.mono e2
    refine ⟨n, rfl, p, _, rfl, ex_l h2.exH g1, fun l hl => .new (d := .lst ((ns.take n).map .int)) (e1.trans e2) h2 hl ⟨l, _, rfl, upd_same, ?_⟩ q⟩
    have e : cutV (ns.map V.int) none (some (n : Int)) = (ns.take n).map V.int := by
      unfold cutV
      rw [HT.sIx_none, HT.sIx_nat, List.drop_zero, Nat.sub_zero, List.length_map, List.map_take]
      refine List.ext_getElem? fun i => ?_
      rw [List.getElem?_take, List.getElem?_take]
      by_cases hi : i < ns.length
      · have z : (i < min n ns.length) ↔ i < n := by omega
        simp only [z]
      · have z : (ns.map V.int)[i]? = none := List.getElem?_eq_none (by simp; omega)
        rw [z]
        split <;> split <;> rfl
    rw [e]
    exact .ints)
end
end
end G
namespace G
open PySem PySem.Spec PyProof.Rows L2 Evl
--nomac
/-! P0: the text by places, what the module holds -/
def topS (i : Nat) : Stmt := PySem.Challenge.pw_orderforms_k22_whole_lattices_and_their.main.body.getD i (.Pass ⟨0, 0, 0, 0⟩)
/-- what of the module's names the walks ask -/
structure Mods (mg : Str → Option Value) : Prop where
  len : mg "len" = none
  range : mg "range" = none
  tuple : mg "tuple" = none
  list : mg "list" = none
  int : mg "int" = none
  bool : mg "bool" = none
  abs : mg "abs" = none
  isinstance : mg "isinstance" = none
  sorted : mg "sorted" = none
  most : ∃ t, mg "MOST" = some (.int 10 t)
  members : ∃ t, mg "MOST_MEMBERS" = some (.int 64 t)
section
variable {X : Cx} {T : Ent} {ρ : Rho} {cs : Cs}
theorem ax_w (i : Nat) {x : Str} {pos : Pos} {d : Dt} {P : Dt → Cs → Prop} (hN : X.N[i]? = some x) (hr : ρ[i]? = some (some d)) (h : P d cs) (hv : Vis X.env.scope x := by first | exact .inl rfl | exact .inr (.inl rfl) | exact .inr (.inr rfl))
    (hd : (x == ("__debug__" : Str)) = false := by decide) (hcd : (x == ("__classdict__" : Str)) = false := by decide) : Ax X T (.Name x pos) ρ cs P := ax_v i hN hr hv hd hcd h
end
/-- the place of a name -/
inductive AtN : List Str → Nat → Str → Prop
  | z {x : Str} {l : List Str} : AtN (x :: l) 0 x
  | s {x y : Str} {l : List Str} {i : Nat} : AtN l i x → AtN (y :: l) (i + 1) x
theorem AtN.get : ∀ {l : List Str} {i : Nat} {x : Str}, AtN l i x → l[i]? = some x
  | _, _, _, .z => rfl
  | _, _, _, .s h => by rw [List.getElem?_cons_succ]; exact h.get
section
variable {X : Cx} {T : Ent} {ρ : Rho} {cs : Cs}
theorem ax_u {N0 : List Str} {i : Nat} {x : Str} {pos : Pos} {d : Dt} {P : Dt → Cs → Prop} (hN : X.N = N0) (ha : AtN N0 i x) (hr : ρ[i]? = some (some d)) (h : P d cs) (hv : Vis X.env.scope x := by first | exact .inl rfl | exact .inr (.inl rfl) | exact .inr (.inr rfl))
    (hd : (x == ("__debug__" : Str)) = false := by decide) (hcd : (x == ("__classdict__" : Str)) = false := by decide) : Ax X T (.Name x pos) ρ cs P := ax_v i (by rw [hN]; exact ha.get) hr hv hd hcd h
theorem a1_setU {N0 : List Str} {i : Nat} {x : Str} {px pos : Pos} {e : Expr} {E : AE} (hN : X.N = N0) (ha : AtN N0 i x) (hnd : N0.Nodup) (h : Ax X T e ρ cs fun d cs1 => E.nx (ρ.set i (some d)) cs1) (hx : Loc X.env.scope x := by first | exact .inl rfl | exact .inr rfl) (hf : X.fn x = true ∨ X.env.scope.names.lookup x = some .local := by first | exact .inl rfl | exact .inr rfl)
    (hs : swapsWith e (some (.Name x px)) pos.line X.env = pure false := by rfl) : A1 X T (.Assign [.Name x px] e pos) ρ cs E := a1_set i (by rw [hN]; exact hnd) (by rw [hN]; exact ha.get) hx h hs hf
theorem as_setU {N0 : List Str} {i : Nat} {x : Str} {px pos : Pos} {e : Expr} {rest : List Stmt} {E : AE} (hN : X.N = N0) (ha : AtN N0 i x) (hnd : N0.Nodup) (h : Ax X T e ρ cs fun d cs1 => As X T rest (ρ.set i (some d)) cs1 E) (hx : Loc X.env.scope x := by first | exact .inl rfl | exact .inr rfl) (hf : X.fn x = true ∨ X.env.scope.names.lookup x = some .local := by first | exact .inl rfl | exact .inr rfl)
    (hs : swapsWith e (some (.Name x px)) pos.line X.env = pure false := by rfl) : As X T (.Assign [.Name x px] e pos :: rest) ρ cs E := as_cons (a1_setU hN ha hnd h hx hf hs)
theorem ag_nameU {N0 : List Str} {i : Nat} {x : Str} {pos : Pos} {d : Dt} {P : Rho → Cs → Prop} (hN : X.N = N0) (ha : AtN N0 i x) (hnd : N0.Nodup) (h : P (ρ.set i (some d)) cs) (hx : Loc X.env.scope x := by first | exact .inl rfl | exact .inr rfl) (hf : X.fn x = true ∨ X.env.scope.names.lookup x = some .local := by first | exact .inl rfl | exact .inr rfl) : Ag X T (.Name x pos) d ρ cs P :=
  ag_name i (by rw [hN]; exact hnd) (by rw [hN]; exact ha.get) hx h hf
theorem ag_pairU {N0 : List Str} {i j : Nat} {x y : Str} {p1 p2 pos : Pos} {k : Nat} {d d1 d2 : Dt} {P : Rho → Cs → Prop} (hN : X.N = N0) (ha : AtN N0 i x) (hb : AtN N0 j y) (hnd : N0.Nodup) (hd : d = .tup [d1, d2]) (h : P ((ρ.set i (some d1)).set j (some d2)) cs)
    (hc : X.calm = true := by rfl) (hx : Loc X.env.scope x := by first | exact .inl rfl | exact .inr rfl) (hy : Loc X.env.scope y := by first | exact .inl rfl | exact .inr rfl) (hf : X.fn x = true ∨ X.env.scope.names.lookup x = some .local := by first | exact .inl rfl | exact .inr rfl) (hf2 : X.fn y = true ∨ X.env.scope.names.lookup y = some .local := by first | exact .inl rfl | exact .inr rfl)
    (hs1 : (assignEach [.Name x p1, .Name y p2] X.env).map (·.2) = assign (.Name x p1) X.env :: (assignEach [.Name y p2] X.env).map (·.2) := by rfl) (hs2 : (assignEach [.Name y p2] X.env).map (·.2) = assign (.Name y p2) X.env :: (assignEach [] X.env).map (·.2) := by rfl)
    (hn : (assignEach [.Name x p1, .Name y p2] X.env).length = 2 := by rfl) (hst : (assignEach [.Name x p1, .Name y p2] X.env).findIdx? (·.1) = none := by rfl) : Ag X T (.Tuple [.Name x p1, .Name y p2] k pos) d ρ cs P :=
  ag_pair i j hc (by rw [hN]; exact hnd) (by rw [hN]; exact ha.get) (by rw [hN]; exact hb.get) hx hy hd h hf hf2 hs1 hs2 hn hst
end
theorem cx_N (CX : CXT) (P : Program) (w : World) (K : PySem.W.Frag) (mg : Str → Option Value) (base : Heap) (N : List Str) (qual : Str) (sc : Scope) (f : Addr) (cdv : Value) (A : Around) (outer : List Env) (s : Shared) (H : Hp) (E : XK) : (cxOf CX P w K mg base N qual sc f cdv A outer s H E).N = N := rfl
/-- what may change stands last -/
def Sfx (T : Ent) (cs : Cs) : Prop := ∃ j, (cs.map (·.1)).drop j = T.mu
theorem Sfx.pre {T : Ent} {cs : Cs} (h : Sfx T cs) (p : Addr × Ct) : Pre T (p :: cs) 0 := let ⟨j, e⟩ := h; ⟨j + 1, by omega, e⟩
section
variable {X : Cx} {T : Ent} {ρ : Rho} {cs : Cs} {elt iter : Expr} {ifs : List Expr} {scope sc : Scope} {pos : Pos} {N0 : List Str}
/-- a turn of a comprehension that changes nothing: what it gives is told by g -/
def TurnQ (X : Cx) (T : Ent) (scope : Scope) (elt : Expr) (ifs : List Expr) (ρ : Rho) (cs : Cs) (g : Option Dt) : Prop :=
  ∀ s H0 C cl fp D acc, Ats (Bk X scope s H0 C cl fp) T ifs ρ ((D, .l acc) :: cs) fun b cs3 => cs3 = (D, .l acc) :: cs ∧
    (b = true → ∀ s H0 C cl fp, Ax (Bk X scope s H0 C cl fp) T elt ρ ((D, .l acc) :: cs) fun y cs4 => cs4 = (D, .l acc) :: cs ∧ g = some y) ∧ (b = false → g = none)
theorem TurnQ.turn {g : Option Dt} {ρ : Rho} {cs : Cs} {D : Addr} {acc : List Dt} {N : List Dt → Cs → Prop} (h : TurnQ X T scope elt ifs ρ cs g) (hN : N (acc ++ g.toList) cs) : Turn1 X T scope elt ifs ρ cs D acc N := fun s H0 C cl fp => by
  intro σ F H he hh
  refine wTs_mono (h s H0 C cl fp D acc σ F H he hh) fun b H' q => RB.up (Ex.refl _) (fun b cs3 ⟨e, q1, q2⟩ => ⟨fun hb s H0 C cl fp => ?_, fun hb => ⟨cs, e, ?_⟩⟩) q
  · rw [e]
    refine (q1 hb s H0 C cl fp).imp fun y cs4 ⟨e4, hg⟩ => ⟨cs, e4, ?_⟩
    rw [hg] at hN
    exact hN
  · rw [q2 hb] at hN
    simpa using hN
theorem fm_succ (g : Nat → Option Dt) (i : Nat) : (List.range (i + 1)).filterMap g = (List.range i).filterMap g ++ (g i).toList := by
  rw [List.range_succ, List.filterMap_append]
  cases h : g i with
  | none => simp [h]
  | some y => simp [h]
/-- [elt for x in iter if ..], nothing changed; let be -/
theorem ax_lcQ {j : Nat} {x : Str} {px : Pos} {P : Dt → Cs → Prop} (hN : X.N = N0) (ha : AtN N0 j x) (hnd : N0.Nodup) (hok : BlkOk N0 sc scope [(x, j)]) (hsc : X.env.scope = sc)
    (h : Ai X T (.Name x px) iter ρ cs fun src cs1 => src.len ≤ 90000 ∧ Sfx T cs1 ∧ ∃ g : Nat → Option Dt, (∀ i d, src.item i = some d → TurnQ X T scope elt ifs ((ρ.set j none).set j (some d)) cs1 (g i)) ∧ P (.lst ((List.range src.len).filterMap g)) cs1)
    (hx : LocB scope X.env.scope x := by first | exact .inl rfl | exact .inr ⟨rfl, rfl⟩) (hc : X.calm = true := by rfl) (hs : ∀ x, foldedSetIterable iter X.env x = pure x := by intro _; rfl) :
    Ax X T (.ListComp elt [⟨.Name x px, iter, ifs, 0⟩] scope pos) ρ cs P :=
  ax_freeze (ax_lc j (by rw [hN]; exact hnd) (by rw [hN]; exact ha.get) (by rw [hN, hsc]; exact hok) (fun σ F H he hh => wI_mono (h σ F H he hh) fun J H' ⟨F', src, cs', e, h', sk, hl, hp, g, q1, q2⟩ => ⟨F', src, cs', e, h', sk, hl,
    fun i acc cs2 => cs2 = cs' ∧ acc = (List.range i).filterMap g, ⟨rfl, rfl⟩, fun i d acc cs2 D hd ⟨e1, e2⟩ => by
      subst e1
      subst e2
      exact (q1 i d hd).turn ⟨rfl, (fm_succ g i).symm⟩, fun acc cs2 D ⟨e1, e2⟩ => by
      subst e1
      subst e2
      exact ⟨0, D, _, rfl, rfl, hp.pre _, q2⟩⟩) hx hc hs)
/-- the same, a new cell -/
theorem ax_lcC {j : Nat} {x : Str} {px : Pos} {P : Dt → Cs → Prop} (hN : X.N = N0) (ha : AtN N0 j x) (hnd : N0.Nodup) (hok : BlkOk N0 sc scope [(x, j)]) (hsc : X.env.scope = sc)
    (h : Ai X T (.Name x px) iter ρ cs fun src cs1 => src.len ≤ 90000 ∧ ∃ g : Nat → Option Dt, (∀ i d, src.item i = some d → TurnQ X T scope elt ifs ((ρ.set j none).set j (some d)) cs1 (g i)) ∧ ∀ D, P (.cell D) ((D, .l ((List.range src.len).filterMap g)) :: cs1))
    (hx : LocB scope X.env.scope x := by first | exact .inl rfl | exact .inr ⟨rfl, rfl⟩) (hc : X.calm = true := by rfl) (hs : ∀ x, foldedSetIterable iter X.env x = pure x := by intro _; rfl) :
    Ax X T (.ListComp elt [⟨.Name x px, iter, ifs, 0⟩] scope pos) ρ cs P :=
  ax_lc j (by rw [hN]; exact hnd) (by rw [hN]; exact ha.get) (by rw [hN, hsc]; exact hok) (fun σ F H he hh => wI_mono (h σ F H he hh) fun J H' ⟨F', src, cs', e, h', sk, hl, g, q1, q2⟩ => ⟨F', src, cs', e, h', sk, hl,
    fun i acc cs2 => cs2 = cs' ∧ acc = (List.range i).filterMap g, ⟨rfl, rfl⟩, fun i d acc cs2 D hd ⟨e1, e2⟩ => by
      subst e1
      subst e2
      exact (q1 i d hd).turn ⟨rfl, (fm_succ g i).symm⟩, fun acc cs2 D ⟨e1, e2⟩ => by
      subst e1
      subst e2
      exact q2 D⟩) hx hc hs
/-- name = [elt for x in iter if ..], a new cell -/
theorem a1_lcC {t j : Nat} {x y : Str} {px py spos : Pos} {E : AE} (hN : X.N = N0) (ha : AtN N0 j x) (hnd : N0.Nodup) (hok : BlkOk N0 sc scope [(x, j)]) (hsc : X.env.scope = sc) (ht : AtN N0 t y) (hk : sc.kind = .function) (hyl : sc.names.lookup y = some .local) (hl : (py.line == pos.line) = true) (hany : (scope.names.any fun (n, k) => n == y && (k == .local || k == .cell)) = false)
    (h : Ai X T (.Name x px) iter ρ cs fun src cs1 => src.len ≤ 90000 ∧ ∃ g : Nat → Option Dt, (∀ i d, src.item i = some d → TurnQ X T scope elt ifs ((ρ.set j none).set j (some d)) cs1 (g i)) ∧ ∀ D, E.nx (ρ.set t (some (.cell D))) ((D, .l ((List.range src.len).filterMap g)) :: cs1))
    (hx : LocB scope X.env.scope x := by first | exact .inl rfl | exact .inr ⟨rfl, rfl⟩) (hc : X.calm = true := by rfl) (hs : ∀ x, foldedSetIterable iter X.env x = pure x := by intro _; rfl) :
    A1 X T (.Assign [.Name y py] (.ListComp elt [⟨.Name x px, iter, ifs, 0⟩] scope pos) spos) ρ cs E :=
  a1_setLc t j (by rw [hN]; exact hnd) (by rw [hN]; exact ha.get) (by rw [hN, hsc]; exact hok) (by rw [hN]; exact ht.get) (fun σ F H he hh => wI_mono (h σ F H he hh) fun J H' ⟨F', src, cs', e, h', sk, hl, g, q1, q2⟩ => ⟨F', src, cs', e, h', sk, hl,
    fun i acc cs2 => cs2 = cs' ∧ acc = (List.range i).filterMap g, ⟨rfl, rfl⟩, fun i d acc cs2 D hd ⟨e1, e2⟩ => by
      subst e1
      subst e2
      exact (q1 i d hd).turn ⟨rfl, (fm_succ g i).symm⟩, fun acc cs2 D ⟨e1, e2⟩ => by
      subst e1
      subst e2
      exact q2 D⟩) (sw_true (by rw [hsc]; exact hk) (by rw [hsc]; exact hyl) hl hany) (by rw [hsc]; exact hyl) hx hc hs
/-- .. a list over pairs -/
theorem ax_lcPQ {i j : Nat} {x y : Str} {px py pt : Pos} {kt : Nat} {P : Dt → Cs → Prop} (hN : X.N = N0) (ha : AtN N0 i x) (hb : AtN N0 j y) (hij : i ≠ j) (hnd : N0.Nodup) (hok : BlkOk N0 sc scope [(x, i), (y, j)]) (hsc : X.env.scope = sc)
    (h : Ai X T (.Tuple [.Name x px, .Name y py] kt pt) iter ρ cs fun src cs1 => src.len ≤ 90000 ∧ Sfx T cs1 ∧ ∃ g : Nat → Option Dt, (∀ n d, src.item n = some d → ∃ d1 d2, d = .tup [d1, d2] ∧ TurnQ X T scope elt ifs ((((ρ.set j none).set i none).set i (some d1)).set j (some d2)) cs1 (g n)) ∧ P (.lst ((List.range src.len).filterMap g)) cs1)
    (hx : LocB scope X.env.scope x := by first | exact .inl rfl | exact .inr ⟨rfl, rfl⟩) (hy : LocB scope X.env.scope y := by first | exact .inl rfl | exact .inr ⟨rfl, rfl⟩) (hc : X.calm = true := by rfl) (hs : ∀ x, foldedSetIterable iter X.env x = pure x := by intro _; rfl) :
    Ax X T (.ListComp elt [⟨.Tuple [.Name x px, .Name y py] kt pt, iter, ifs, 0⟩] scope pos) ρ cs P :=
  ax_freeze (ax_lcP i j (by rw [hN]; exact hnd) (by rw [hN]; exact ha.get) (by rw [hN]; exact hb.get) hij (by rw [hN, hsc]; exact hok) (fun σ F H he hh => wI_mono (h σ F H he hh) fun J H' ⟨F', src, cs', e, h', sk, hl, hp, g, q1, q2⟩ => ⟨F', src, cs', e, h', sk, hl,
    fun i acc cs2 => cs2 = cs' ∧ acc = (List.range i).filterMap g, ⟨rfl, rfl⟩, fun n d acc cs2 D hd ⟨e1, e2⟩ => by
      subst e1
      subst e2
      obtain ⟨d1, d2, hd2, tq⟩ := q1 n d hd
      exact ⟨d1, d2, hd2, tq.turn ⟨rfl, (fm_succ g n).symm⟩⟩, fun acc cs2 D ⟨e1, e2⟩ => by
      subst e1
      subst e2
      exact ⟨0, D, _, rfl, rfl, hp.pre _, q2⟩⟩) hx hy hc hs)
theorem a1_lcPC {t i j : Nat} {x y z : Str} {px py pz pt spos : Pos} {kt : Nat} {E : AE} (hN : X.N = N0) (ha : AtN N0 i x) (hb : AtN N0 j y) (hij : i ≠ j) (hnd : N0.Nodup) (hok : BlkOk N0 sc scope [(x, i), (y, j)]) (hsc : X.env.scope = sc) (ht : AtN N0 t z) (hk : sc.kind = .function) (hyl : sc.names.lookup z = some .local) (hl : (pz.line == pos.line) = true) (hany : (scope.names.any fun (n, k) => n == z && (k == .local || k == .cell)) = false)
    (h : Ai X T (.Tuple [.Name x px, .Name y py] kt pt) iter ρ cs fun src cs1 => src.len ≤ 90000 ∧ ∃ g : Nat → Option Dt, (∀ n d, src.item n = some d → ∃ d1 d2, d = .tup [d1, d2] ∧ TurnQ X T scope elt ifs ((((ρ.set j none).set i none).set i (some d1)).set j (some d2)) cs1 (g n)) ∧ ∀ D, E.nx (ρ.set t (some (.cell D))) ((D, .l ((List.range src.len).filterMap g)) :: cs1))
    (hx : LocB scope X.env.scope x := by first | exact .inl rfl | exact .inr ⟨rfl, rfl⟩) (hy : LocB scope X.env.scope y := by first | exact .inl rfl | exact .inr ⟨rfl, rfl⟩) (hc : X.calm = true := by rfl) (hs : ∀ x, foldedSetIterable iter X.env x = pure x := by intro _; rfl) :
    A1 X T (.Assign [.Name z pz] (.ListComp elt [⟨.Tuple [.Name x px, .Name y py] kt pt, iter, ifs, 0⟩] scope pos) spos) ρ cs E :=
  a1_setLcP t i j (by rw [hN]; exact hnd) (by rw [hN]; exact ha.get) (by rw [hN]; exact hb.get) hij (by rw [hN, hsc]; exact hok) (by rw [hN]; exact ht.get) (fun σ F H he hh => wI_mono (h σ F H he hh) fun J H' ⟨F', src, cs', e, h', sk, hl, g, q1, q2⟩ => ⟨F', src, cs', e, h', sk, hl,
    fun i acc cs2 => cs2 = cs' ∧ acc = (List.range i).filterMap g, ⟨rfl, rfl⟩, fun n d acc cs2 D hd ⟨e1, e2⟩ => by
      subst e1
      subst e2
      obtain ⟨d1, d2, hd2, tq⟩ := q1 n d hd
      exact ⟨d1, d2, hd2, tq.turn ⟨rfl, (fm_succ g n).symm⟩⟩, fun acc cs2 D ⟨e1, e2⟩ => by
      subst e1
      subst e2
      exact q2 D⟩) (sw_true (by rw [hsc]; exact hk) (by rw [hsc]; exact hyl) hl hany) (by rw [hsc]; exact hyl) hx hy hc hs
end
theorem kit_ii : kitB "int" "int" = some true := by decide +kernel
theorem kit_ib : kitB "int" "bool" = some false := by decide +kernel
theorem kit_tt : kitB "tuple" "tuple" = some true := by decide +kernel
theorem kit_ll : kitB "list" "list" = some true := by decide +kernel
theorem kit_lt : kitB "list" "tuple" = some false := by decide +kernel
theorem kit_tl : kitB "tuple" "list" = some false := by decide +kernel

end G
/-! M0: bits of numbers, the closure of a relation by Warshall -/
namespace G
/-- the number whose bits below n are f -/
def bitsOf : Nat → (Nat → Bool) → Nat
  | 0, _ => 0
  | n + 1, f => bitsOf n f ||| (if f n then 2 ^ n else 0)
theorem bitsOf_lt (n : Nat) (f : Nat → Bool) : bitsOf n f < 2 ^ n := by
  induction n with
  | zero => exact Nat.one_pos
  | succ n ih =>
    show bitsOf n f ||| (if f n then 2 ^ n else 0) < 2 ^ (n + 1)
    refine Nat.or_lt_two_pow (Nat.lt_trans ih (Nat.pow_lt_pow_right (by omega) (by omega))) ?_
    split
    · exact Nat.pow_lt_pow_right (by omega) (by omega)
    · exact Nat.two_pow_pos _
theorem testBit_bitsOf (n : Nat) (f : Nat → Bool) (y : Nat) : (bitsOf n f).testBit y = (decide (y < n) && f y) := by
  induction n with
  | zero =>
    show Nat.testBit 0 y = _
    rw [Nat.zero_testBit, decide_eq_false (by omega)]
    rfl
  | succ n ih =>
    show Nat.testBit (bitsOf n f ||| (if f n then 2 ^ n else 0)) y = _
    rw [Nat.testBit_or, ih]
    by_cases hyn : y = n
    · subst hyn
      rw [decide_eq_false (show ¬ y < y by omega), decide_eq_true (show y < y + 1 by omega), Bool.false_and, Bool.false_or, Bool.true_and]
      by_cases hf : f y = true
      · rw [if_pos hf, Nat.testBit_two_pow_self, hf]
      · rw [if_neg hf, Nat.zero_testBit]
        simpa using hf
    · have h1 : Nat.testBit (if f n = true then 2 ^ n else 0) y = false := by
        split
        · exact Nat.testBit_two_pow_of_ne (fun e => hyn e.symm)
        · exact Nat.zero_testBit y
      rw [h1, Bool.or_false]
      have h2 : decide (y < n) = decide (y < n + 1) := by
        rw [Bool.eq_iff_iff, decide_eq_true_iff, decide_eq_true_iff]
        omega
      rw [h2]
theorem bitsOf_eq {n m : Nat} {f : Nat → Bool} (h : ∀ y, m.testBit y = (decide (y < n) && f y)) : bitsOf n f = m := Nat.eq_of_testBit_eq fun y => by rw [testBit_bitsOf, h]
theorem bitsOf_congr {n : Nat} {f g : Nat → Bool} (h : ∀ y, y < n → f y = g y) : bitsOf n f = bitsOf n g := bitsOf_eq fun y => by
  rw [testBit_bitsOf]
  by_cases hy : y < n
  · rw [h y hy]
  · rw [decide_eq_false hy, Bool.false_and, Bool.false_and]
theorem bitsOf_inj {n : Nat} {f g : Nat → Bool} (h : bitsOf n f = bitsOf n g) {y : Nat} (hy : y < n) : f y = g y := by
  have e : (bitsOf n f).testBit y = (bitsOf n g).testBit y := by rw [h]
  rw [testBit_bitsOf, testBit_bitsOf, decide_eq_true hy, Bool.true_and, Bool.true_and] at e
  exact e
theorem bitsOf_or (n : Nat) (f g : Nat → Bool) : bitsOf n f ||| bitsOf n g = bitsOf n fun y => f y || g y := (bitsOf_eq fun y => by
  rw [Nat.testBit_or, testBit_bitsOf, testBit_bitsOf, Bool.and_or_distrib_left]).symm
theorem bitsOf_and (n : Nat) (f g : Nat → Bool) : bitsOf n f &&& bitsOf n g = bitsOf n fun y => f y && g y := (bitsOf_eq fun y => by
  rw [Nat.testBit_and, testBit_bitsOf, testBit_bitsOf]
  cases decide (y < n) <;> simp).symm
theorem bitsOf_one {n x : Nat} (hx : x < n) (f : Nat → Bool) : bitsOf n f ||| 2 ^ x = bitsOf n fun y => f y || decide (y = x) := (bitsOf_eq fun y => by
  rw [Nat.testBit_or, testBit_bitsOf]
  by_cases hyx : y = x
  · subst hyx
    rw [Nat.testBit_two_pow_self, decide_eq_true hx]
    simp
  · rw [Nat.testBit_two_pow_of_ne (fun e => hyx e.symm), decide_eq_false hyx, Bool.or_false, Bool.or_false]).symm
theorem bitsOf_none (n : Nat) : bitsOf n (fun _ => false) = 0 := bitsOf_eq fun y => by rw [Nat.zero_testBit, Bool.and_false]

/-! ### Warshall -/
abbrev Rl := Nat → Nat → Bool
def phase (k : Nat) (R : Rl) : Rl := fun x y => R x y || (R x k && R k y)
def war : Nat → Rl → Rl
  | 0, R => R
  | k + 1, R => phase k (war k R)
/-- the relation of a list of pairs -/
def rel (ps : List (Nat × Nat)) : Rl := fun x y => decide ((x, y) ∈ ps)
/-- in the midst of phase k: rows before x done -/
def mid (k x : Nat) (R : Rl) : Rl := fun a b => if a < x then phase k R a b else R a b
theorem mid_zero (k : Nat) (R : Rl) : mid k 0 R = R := by
  funext a b
  unfold mid
  rw [if_neg (by omega)]
theorem phase_row (k : Nat) (R : Rl) (b : Nat) : phase k R k b = R k b := by
  unfold phase
  cases R k b <;> cases R k k <;> rfl
theorem phase_col (k : Nat) (R : Rl) (a : Nat) : phase k R a k = R a k := by
  unfold phase
  cases R a k <;> rfl
/-- row k does not change in phase k -/
theorem mid_row (k x : Nat) (R : Rl) (b : Nat) : mid k x R k b = R k b := by
  unfold mid
  split
  · exact phase_row k R b
  · rfl
theorem mid_self (k x : Nat) (R : Rl) (b : Nat) : mid k x R x b = R x b := by
  unfold mid
  rw [if_neg (by omega)]
theorem mid_full {k n : Nat} {R : Rl} {a : Nat} (ha : a < n) (b : Nat) : mid k n R a b = phase k R a b := by
  unfold mid
  rw [if_pos ha]
theorem phase_mono {k : Nat} {R : Rl} {x y : Nat} (h : R x y = true) : phase k R x y = true := by
  unfold phase
  rw [h]
  rfl
theorem war_mono {R : Rl} {x y : Nat} (h : R x y = true) : ∀ k, war k R x y = true
  | 0 => h
  | k + 1 => phase_mono (war_mono h k)
/-- closed under ways through the points before k -/
def Thru (k : Nat) (R : Rl) : Prop := ∀ j, j < k → ∀ x y, R x j = true → R j y = true → R x y = true
theorem phase_thru {k : Nat} {R : Rl} (h : Thru k R) : Thru (k + 1) (phase k R) := by
  intro j hj x y h1 h2
  unfold phase at h1 h2 ⊢
  rw [Bool.or_eq_true, Bool.and_eq_true] at h1 h2 ⊢
  by_cases hjk : j < k
  · have t := h j hjk
    rcases h1 with h1 | ⟨h1, h1'⟩
    · rcases h2 with h2 | ⟨h2, h2'⟩
      · exact .inl (t x y h1 h2)
      · exact .inr ⟨t x k h1 h2, h2'⟩
    · rcases h2 with h2 | ⟨h2, h2'⟩
      · exact .inr ⟨h1, t k y h1' h2⟩
      · exact .inr ⟨h1, h2'⟩
  · have e : j = k := by omega
    subst e
    have g1 : R x j = true := by
      rcases h1 with h1 | h1
      · exact h1
      · exact h1.1
    have g2 : R j y = true := by
      rcases h2 with h2 | h2
      · exact h2
      · exact h2.2
    exact .inr ⟨g1, g2⟩
theorem war_thru (R : Rl) : ∀ k, Thru k (war k R)
  | 0 => fun j hj => absurd hj (by omega)
  | k + 1 => phase_thru (war_thru R k)
/-- it lies within every transitive relation above -/
theorem war_least {R S : Rl} (hs : ∀ x y, R x y = true → S x y = true) (ht : ∀ x y z, S x y = true → S y z = true → S x z = true) : ∀ k x y, war k R x y = true → S x y = true
  | 0, x, y, h => hs x y h
  | k + 1, x, y, h => by
    have h : phase k (war k R) x y = true := h
    unfold phase at h
    rw [Bool.or_eq_true, Bool.and_eq_true] at h
    rcases h with h | ⟨h1, h2⟩
    · exact war_least hs ht k x y h
    · exact ht x k y (war_least hs ht k x k h1) (war_least hs ht k k y h2)
/-- no pair beyond the points -/
theorem war_within {R : Rl} {n : Nat} (h : ∀ x y, R x y = true → x < n ∧ y < n) : ∀ k x y, war k R x y = true → x < n ∧ y < n
  | 0, x, y, q => h x y q
  | k + 1, x, y, q => by
    have q : phase k (war k R) x y = true := q
    unfold phase at q
    rw [Bool.or_eq_true, Bool.and_eq_true] at q
    rcases q with q | ⟨h1, h2⟩
    · exact war_within h k x y q
    · exact ⟨(war_within h k _ _ h1).1, (war_within h k _ _ h2).2⟩
theorem war_trans {R : Rl} {n : Nat} (h : ∀ x y, R x y = true → x < n ∧ y < n) (x y z : Nat) (h1 : war n R x y = true) (h2 : war n R y z = true) : war n R x z = true :=
  war_thru R n y (war_within h n x y h1).2 x z h1 h2
/-- a transitive relation is its own closure -/
theorem war_fix {R : Rl} (ht : ∀ x y z, R x y = true → R y z = true → R x z = true) (k x y : Nat) : war k R x y = R x y := by
  rw [Bool.eq_iff_iff]
  exact ⟨war_least (fun _ _ h => h) ht k x y, fun h => war_mono h k⟩
/-- the rows as a list -/
def rowsOf (n : Nat) (R : Rl) : List Nat := (List.range n).map fun x => bitsOf n (R x)
theorem map_range_set {α : Type} {n x : Nat} (g : Nat → α) (v : α) : ((List.range n).map g).set x v = (List.range n).map fun i => if i = x then v else g i := by
  refine List.ext_getElem? fun i => ?_
  rw [List.getElem?_map]
  by_cases hi : i < n
  · rw [List.getElem?_range hi]
    by_cases hx : x = i
    · subst hx
      rw [List.getElem?_set_self (by simpa using hi)]
      show some v = some (if x = x then v else g x)
      rw [if_pos rfl]
    · rw [List.getElem?_set_ne hx, List.getElem?_map, List.getElem?_range hi]
      show some (g i) = some (if i = x then v else g i)
      rw [if_neg (fun e => hx e.symm)]
  · have h1 : (List.range n)[i]? = none := List.getElem?_eq_none (by simpa using hi)
    rw [h1]
    exact List.getElem?_eq_none (by simpa using hi)
theorem map_range_congr {α : Type} {n : Nat} {g h : Nat → α} (e : ∀ i, i < n → g i = h i) : (List.range n).map g = (List.range n).map h := List.map_congr_left fun i hi => e i (List.mem_range.mp hi)
theorem map_range_get {α : Type} {n i : Nat} {g : Nat → α} (hi : i < n) : ((List.range n).map g)[i]? = some (g i) := by
  rw [List.getElem?_map, List.getElem?_range hi]
  rfl
end G
namespace G
open PySem PySem.Spec PyProof.Rows L2 Evl
local macro_rules | `(tactic| walk_at "ix") => `(tactic| with_reducible (first
  | exact AtN.z | exact AtN.s AtN.z | exact AtN.s (AtN.s AtN.z) | exact AtN.s (AtN.s (AtN.s AtN.z)) | exact AtN.s (AtN.s (AtN.s (AtN.s AtN.z)))
  | exact AtN.s (AtN.s (AtN.s (AtN.s (AtN.s AtN.z)))) | exact AtN.s (AtN.s (AtN.s (AtN.s (AtN.s (AtN.s AtN.z))))) | exact AtN.s (AtN.s (AtN.s (AtN.s (AtN.s (AtN.s (AtN.s AtN.z))))))
  | exact AtN.s (AtN.s (AtN.s (AtN.s (AtN.s (AtN.s (AtN.s (AtN.s AtN.z))))))) | exact AtN.s (AtN.s (AtN.s (AtN.s (AtN.s (AtN.s (AtN.s (AtN.s (AtN.s AtN.z)))))))) | exact AtN.s (AtN.s (AtN.s (AtN.s (AtN.s (AtN.s (AtN.s (AtN.s (AtN.s (AtN.s AtN.z)))))))))
  | exact AtN.s (AtN.s (AtN.s (AtN.s (AtN.s (AtN.s (AtN.s (AtN.s (AtN.s (AtN.s (AtN.s AtN.z))))))))))
  | exact AtN.s (AtN.s (AtN.s (AtN.s (AtN.s (AtN.s (AtN.s (AtN.s (AtN.s (AtN.s (AtN.s (AtN.s AtN.z)))))))))))
  | exact AtN.s (AtN.s (AtN.s (AtN.s (AtN.s (AtN.s (AtN.s (AtN.s (AtN.s (AtN.s (AtN.s (AtN.s (AtN.s AtN.z))))))))))))
  | exact AtN.s (AtN.s (AtN.s (AtN.s (AtN.s (AtN.s (AtN.s (AtN.s (AtN.s (AtN.s (AtN.s (AtN.s (AtN.s (AtN.s AtN.z)))))))))))))
  | exact AtN.s (AtN.s (AtN.s (AtN.s (AtN.s (AtN.s (AtN.s (AtN.s (AtN.s (AtN.s (AtN.s (AtN.s (AtN.s (AtN.s (AtN.s AtN.z))))))))))))))))
local macro_rules | `(tactic| walk_at "ev1") => `(tactic| first
  | with_reducible refine ax_int ?_ | with_reducible refine ax_bl ?_ | with_reducible refine ax_non ?_ | with_reducible refine ax_str ?_
  | ((with_reducible show Ax _ _ (Expr.Name _ _) _ _ _); refine ax_u $(Lean.mkIdent `hN) (by walk_at "ix") rfl ?_)
  | ((with_reducible show Ax _ _ (Expr.Compare _ _ _ _) _ _ _); first | (with_reducible refine ax_cmpR cmp_lt ?_) | (with_reducible refine ax_cmpR cmp_le ?_) | (with_reducible refine ax_cmpR cmp_gt ?_) | (with_reducible refine ax_cmpR cmp_ge ?_) | (with_reducible refine ax_cmpR cmp_eq ?_) | (with_reducible refine ax_cmpR cmp_ne ?_) | (with_reducible refine ax_cmpR cmp_is ?_) | (with_reducible refine ax_cmpR cmp_isN ?_))
  | ((with_reducible show At _ _ (Expr.Compare _ _ _ _) _ _ _); first | (with_reducible refine at_cmpR cmp_lt ?_) | (with_reducible refine at_cmpR cmp_le ?_) | (with_reducible refine at_cmpR cmp_gt ?_) | (with_reducible refine at_cmpR cmp_ge ?_) | (with_reducible refine at_cmpR cmp_eq ?_) | (with_reducible refine at_cmpR cmp_ne ?_) | (with_reducible refine at_cmpR cmp_is ?_) | (with_reducible refine at_cmpR cmp_isN ?_))
  | with_reducible refine ax_add ?_ | with_reducible refine ax_sub ?_ | with_reducible refine ax_mul ?_ | with_reducible refine ax_fdiv ?_ | with_reducible refine ax_mod ?_ | with_reducible refine ax_shl ?_ | with_reducible refine ax_shr ?_ | with_reducible refine ax_and ?_ | with_reducible refine ax_or ?_ | with_reducible refine ax_neg ?_
  | with_reducible refine ax_one ?_ | with_reducible refine ax_andv ?_ | with_reducible refine ax_orv ?_ | with_reducible refine ax_notv ?_ | with_reducible refine at_one ?_ | with_reducible refine at_and ?_ | with_reducible refine at_or ?_ | with_reducible refine at_not ?_ | with_reducible refine ax_if ?_
  | ((with_reducible show Ax _ _ (Expr.Subscript _ _ _) _ _ _); refine ax_ix ?_) | with_reducible refine ax_tup ?_ | ((with_reducible show Aa _ _ (_ :: _) _ _ _); refine aa_cons ?_) | with_reducible refine aa_nil ?_
  | ((with_reducible show Ax _ _ (Expr.Call (Expr.Name "len" _) _ _ _) _ _ _); refine ax_len (Mods.len $(Lean.mkIdent `M)) ?_)
  | ((with_reducible show Ax _ _ (Expr.Call (Expr.Name "int" _) _ _ _) _ _ _); refine ax_int1 (Mods.int $(Lean.mkIdent `M)) ?_)
  | ((with_reducible show Ax _ _ (Expr.Call (Expr.Name "abs" _) _ _ _) _ _ _); refine ax_abs (Mods.abs $(Lean.mkIdent `M)) ?_)
  | ((with_reducible show Ax _ _ (Expr.Call (Expr.Name "tuple" _) _ _ _) _ _ _); refine ax_tuple (Mods.tuple $(Lean.mkIdent `M)) ?_)
  | ((with_reducible show Ax _ _ (Expr.Call (Expr.Name "has" _) _ _ _) _ _ _); refine ax_call $(Lean.mkIdent `cHas) (Room.mono $(Lean.mkIdent `hr) (by decide)) pas0 ?_)
  | ((with_reducible show Ax _ _ (Expr.Call (Expr.Name "set_of" _) _ _ _) _ _ _); refine ax_call $(Lean.mkIdent `cSetOf) (Room.mono $(Lean.mkIdent `hr) (by decide)) pas0 ?_)
  | ((with_reducible show Ax _ _ (Expr.Call (Expr.Name "members" _) _ _ _) _ _ _); refine ax_call $(Lean.mkIdent `cMembers) (Room.mono $(Lean.mkIdent `hr) (by decide)) pas0 ?_)
  | ((with_reducible show Ax _ _ (Expr.Call (Expr.Name "is_integer" _) _ _ _) _ _ _); refine ax_call $(Lean.mkIdent `cIsInt) (Room.mono $(Lean.mkIdent `hr) (by decide)) pas0 ?_)
  | ((with_reducible show Ax _ _ (Expr.Call (Expr.Attribute _ "bit_length" _) _ _ _) _ _ _); refine ax_bits ?_)
  | ((with_reducible show Ax _ _ (Expr.Call (Expr.Name "isinstance" _) [_, Expr.Name "int" _] _ _) _ _ _); refine ax_isi (u := "int") (Mods.isinstance $(Lean.mkIdent `M)) (Mods.int $(Lean.mkIdent `M)) boot_int ?_)
  | ((with_reducible show Ax _ _ (Expr.Call (Expr.Name "isinstance" _) [_, Expr.Name "bool" _] _ _) _ _ _); refine ax_isi (u := "bool") (Mods.isinstance $(Lean.mkIdent `M)) (Mods.bool $(Lean.mkIdent `M)) boot_bool ?_)
  | ((with_reducible show Ax _ _ (Expr.Call (Expr.Name "isinstance" _) [_, Expr.Name "tuple" _] _ _) _ _ _); refine ax_isi (u := "tuple") (Mods.isinstance $(Lean.mkIdent `M)) (Mods.tuple $(Lean.mkIdent `M)) boot_tuple ?_)
  | ((with_reducible show Ax _ _ (Expr.Call (Expr.Name "isinstance" _) [_, Expr.Tuple [Expr.Name "list" _, Expr.Name "tuple" _] _ _] _ _) _ _ _); refine ax_isi2 (u1 := "list") (u2 := "tuple") (Mods.isinstance $(Lean.mkIdent `M)) (Mods.list $(Lean.mkIdent `M)) (Mods.tuple $(Lean.mkIdent `M)) boot_list boot_tuple ?_)
  | ((with_reducible show ∃ t k, tyD _ = some t ∧ kitB t _ = some k ∧ _); refine ⟨_, _, rfl, by with_reducible (first | exact kit_ii | exact kit_ib | exact kit_tt), ?_⟩)
  | ((with_reducible show S_isInt _ _ _); refine ⟨_, rfl, ?_⟩) | ((with_reducible show S_has _ _ _); refine ⟨_, _, rfl, ?_⟩)
  | ((with_reducible show REq _ _ _ _); refine ⟨_, rfl, ?_⟩) | ((with_reducible show RNe _ _ _ _); refine ⟨_, rfl, ?_⟩) | ((with_reducible show RI _ _ _ _ _); refine ⟨_, _, rfl, rfl, ?_⟩)
  | with_reducible refine ⟨_, _, rfl, rfl, ?_⟩
  | with_reducible refine ⟨_, rfl, ?_⟩
  | ((with_reducible show At _ _ (Expr.Name _ _) _ _ _); refine at_val ?_) | ((with_reducible show At _ _ (Expr.Call _ _ _ _) _ _ _); refine at_val ?_) | ((with_reducible show At _ _ (Expr.Subscript _ _ _) _ _ _); refine at_val ?_))
local macro_rules | `(tactic| walk_at "ev") => `(tactic| repeat walk_at "ev1")
local macro_rules | `(tactic| walk_at "st1") => `(tactic| first
    | ((with_reducible show A1 _ _ (Stmt.Return _ _) _ _ _); refine a1_ret ?_)
    | ((with_reducible show A1 _ _ (Stmt.If _ _ _ _) _ _ _); refine a1_if ?_)
    | ((with_reducible show A1 _ _ (Stmt.Expr _ _) _ _ _); refine a1_drop ?_)
    | ((with_reducible show A1 _ _ (Stmt.Assign [Expr.Name _ _] _ _) _ _ _); refine a1_setU $(Lean.mkIdent `hN) (by walk_at "ix") $(Lean.mkIdent `hnd) ?_)
    | ((with_reducible show A1 _ _ (Stmt.Assign _ _ _) _ _ _); refine a1_asg ?_))
local macro_rules | `(tactic| walk_at "st") => `(tactic| first
  | ((with_reducible show As _ _ [] _ _ _); refine as_nil ?_)
  | (refine as_cons ?_; walk_at "st1"))
local macro_rules | `(tactic| walk_at "newl") => `(tactic| refine as_setU $(Lean.mkIdent `hN) (by walk_at "ix") $(Lean.mkIdent `hnd) (ax_lstC (aa_nil ⟨by decide, ?_⟩)))
local macro_rules | `(tactic| walk_at "for") => `(tactic| (refine as_cons ?_; refine a1_for ?hp ?_ ?hc ?hs; (case hp => exact PassesOwn.never); (case hc => rfl); (case hs => intro _; rfl)))
local macro_rules | `(tactic| walk_at "tgt") => `(tactic| refine ag_nameU $(Lean.mkIdent `hN) (by walk_at "ix") $(Lean.mkIdent `hnd) ?_)
local macro_rules | `(tactic| walk_at "rng") => `(tactic| refine ai_range1 (Mods.range $(Lean.mkIdent `M)) ?_)
local macro_rules | `(tactic| walk_at "while") => `(tactic| (refine as_cons ?_; refine a1_while ?hp ?I ?h0 ?hs; (case hp => exact PassesOwn.never)))
local macro_rules | `(tactic| walk_at "pair") => `(tactic| refine ag_pairU $(Lean.mkIdent `hN) (by walk_at "ix") (by walk_at "ix") $(Lean.mkIdent `hnd) ?hd ?_)
local macro_rules | `(tactic| walk_at "blk") => `(tactic| exact blkOk_by (by decide +kernel))
/-! P1: orderforms.bits -/
abbrev natD (n : Nat) : Dt := .int (n : Int)
section
variable {P : Program} {w : World} {K : PySem.W.Frag} {mg : Str → Option Value} {base : Heap} {CR : Addr}
/-! ### has -/
abbrev sHas : Stmt := topS 10
abbrev nHas : List Str := ["bits", "x"]
theorem scHas : FnScope nHas ["bits", "x"] (defScope sHas) := ⟨rfl, rfl, rfl, by decide +kernel, rfl, by decide +kernel, by decide +kernel⟩
def S_has : List Dt → (Dt → Prop) → (Str → Prop) → Prop := fun ds P _ => ∃ n x : Nat, ds = [.int n, .int x] ∧ P (.bl (n.testBit x))
theorem bit_test (n x : Nat) : decide (((n >>> x &&& 1 : Nat) : Int) = 1) = n.testBit x := by
  rw [Nat.testBit, Bool.eq_iff_iff, decide_eq_true_iff, bne_iff_ne]
  have h : (n >>> x &&& 1) = (n >>> x) % 2 := Nat.and_one_is_mod _
  have h2 : (1 &&& n >>> x) = (n >>> x) % 2 := by rw [Nat.and_comm]; exact h
  rw [h, h2]
  omega
theorem ok_has {f : Addr} {fd : FuncData} (F : Fun K "has" "has" sHas f fd) : FnOk P w K mg base CX0 1 f fd ["bits", "x"] (spOf K CR (pureS S_has)) := by
  refine def_ok F scHas (fun ds cs Pd R ⟨_, n, x, h, _⟩ => by rw [h]; rfl) fun cdv A outer s F H E ds cs Pd R hr ⟨hcs, n, x, hd, k⟩ => ?_
  subst hcs
  subst hd
  have hnd := scHas.nd
  have hN := cx_N CX0 P w K mg base nHas "has" (defScope sHas) f cdv A outer s H E
  walk_at "st"
  walk_at "ev"
  rw [bit_test]
  exact k
/-! ### is_integer -/
abbrev sIsInt : Stmt := topS 6
abbrev nIsInt : List Str := ["value"]
theorem scIsInt : FnScope nIsInt ["value"] (defScope sIsInt) := ⟨rfl, rfl, rfl, by decide +kernel, rfl, by decide +kernel, by decide +kernel⟩
def S_isInt : List Dt → (Dt → Prop) → (Str → Prop) → Prop := fun ds P _ => ∃ n : Int, ds = [.int n] ∧ P (.bl true)
theorem ok_isInt {f : Addr} {fd : FuncData} (F : Fun K "is_integer" "is_integer" sIsInt f fd) (M : Mods mg) : FnOk P w K mg base CX0 1 f fd ["value"] (spOf K CR (pureS S_isInt)) := by
  refine def_ok F scIsInt (fun ds cs Pd R ⟨_, n, h, _⟩ => by rw [h]; rfl) fun cdv A outer s F H E ds cs Pd R hr ⟨hcs, n, hd, k⟩ => ?_
  subst hcs
  subst hd
  have hnd := scIsInt.nd
  have hN := cx_N CX0 P w K mg base nIsInt "is_integer" (defScope sIsInt) f cdv A outer s H E
  walk_at "st"
  walk_at "ev"
  refine ⟨fun _ => ?_, fun h => nomatch h⟩
  walk_at "ev"
  exact k
/-! ### set_of -/
abbrev sSetOf : Stmt := topS 9
abbrev nSetOf : List Str := ["points", "out", "x"]
theorem scSetOf : FnScope nSetOf ["points"] (defScope sSetOf) := ⟨rfl, rfl, rfl, by decide +kernel, rfl, by decide +kernel, by decide +kernel⟩
def setOf (ns : List Nat) : Nat := ns.foldl (fun o x => o ||| 2 ^ x) 0
def S_setOf : List Dt → (Dt → Prop) → (Str → Prop) → Prop := fun ds P _ => ∃ ns : List Nat, ds = [.lst (ns.map natD)] ∧ (∀ x ∈ ns, x ≤ 1000) ∧ P (natD (setOf ns))
theorem foldl_take {α β : Type} (f : β → α → β) (b : β) (l : List α) (i : Nat) (a : α) (h : l[i]? = some a) : (l.take (i + 1)).foldl f b = f ((l.take i).foldl f b) a := by
  rw [List.take_add_one, h, List.foldl_append]
  rfl
theorem ok_setOf {f : Addr} {fd : FuncData} (F : Fun K "set_of" "set_of" sSetOf f fd) : FnOk P w K mg base CX0 1 f fd ["points"] (spOf K CR (pureS S_setOf)) := by
  refine def_ok F scSetOf (fun ds cs Pd R ⟨_, n, h, _⟩ => by rw [h]; rfl) fun cdv A outer s F H E ds cs Pd R hr ⟨hcs, ns, hd, hle, k⟩ => ?_
  subst hcs
  subst hd
  have hnd := scSetOf.nd
  have hN := cx_N CX0 P w K mg base nSetOf "set_of" (defScope sSetOf) f cdv A outer s H E
  walk_at "st"
  walk_at "ev"
  refine as_cons (a1_for PassesOwn.never (ai_seq ?_))
  walk_at "ev"
  refine ⟨_, .inl rfl, fun i ρ cs => cs = [] ∧ ∃ z, ρ = [some (.lst (ns.map natD)), some (natD (setOf (ns.take i))), z], ⟨rfl, _, rfl⟩, ?_, ?_⟩
  · rintro i d ρ' cs' hi ⟨rfl, z, rfl⟩
    obtain ⟨x, hx, rfl⟩ : ∃ x, ns[i]? = some x ∧ natD x = d := by
      have hi : (ns.map natD)[i]? = some d := hi
      rw [List.getElem?_map, Option.map_eq_some_iff] at hi
      exact hi
    refine ag_nameU hN (by walk_at "ix") hnd ?_
    walk_at "st"
    walk_at "ev"
    refine ⟨x, rfl, rfl, hle x (List.mem_of_getElem? hx), ?_⟩
    refine ⟨setOf (ns.take i), 2 ^ x, rfl, rfl, ?_⟩
    walk_at "st"
    refine ⟨rfl, some (natD x), ?_⟩
    have e : setOf (ns.take (i + 1)) = setOf (ns.take i) ||| 2 ^ x := foldl_take _ _ _ _ _ hx
    rw [e]
    rfl
  · rintro ρ' cs' ⟨rfl, z, rfl⟩
    have hk : (ns.map natD).length = ns.length := List.length_map _
    walk_at "st"
    walk_at "ev"
    have e : ns.take (Src.len (.seq (ns.map natD))) = ns := by
      show ns.take (ns.map natD).length = ns
      rw [hk, List.take_length]
    rw [e]
    exact k
/-! ### members -/
abbrev sMembers : Stmt := topS 8
abbrev nMembers : List Str := ["bits", "x"]
theorem scMembers : FnScope nMembers ["bits"] (defScope sMembers) := ⟨rfl, rfl, rfl, by decide +kernel, rfl, by decide +kernel, by decide +kernel⟩
def membersN (m : Nat) : List Nat := (List.range (Builtin.Int.intBits m)).filter m.testBit
def S_members : List Dt → (Dt → Prop) → (Str → Prop) → Prop := fun ds P _ => ∃ m : Nat, ds = [.int m] ∧ m < 2 ^ 1000 ∧ P (.tup ((membersN m).map natD))
theorem intBits_nat (m : Nat) : m < 2 ^ Builtin.Int.intBits m := by
  unfold Builtin.Int.intBits
  by_cases h : m = 0
  · subst h
    decide
  · have h1 : ((m : Int) == 0) = false := by rw [beq_eq_false_iff_ne]; omega
    rw [h1]
    show m < 2 ^ ((m : Int).natAbs.log2 + 1)
    rw [Int.natAbs_natCast]
    exact Nat.lt_log2_self
theorem intBits_le {m k : Nat} (h : m < 2 ^ k) : Builtin.Int.intBits m ≤ k := by
  unfold Builtin.Int.intBits
  by_cases h0 : m = 0
  · subst h0
    exact Nat.zero_le _
  · have h1 : ((m : Int) == 0) = false := by rw [beq_eq_false_iff_ne]; omega
    rw [h1]
    show (m : Int).natAbs.log2 + 1 ≤ k
    rw [Int.natAbs_natCast]
    have := (Nat.log2_lt h0).mpr h
    omega
theorem fm_filter {α : Type} (n : Nat) (p : Nat → Bool) (f : Nat → α) : ((List.range n).filterMap fun i => if p i then some (f i) else none) = ((List.range n).filter p).map f := by
  generalize List.range n = l
  induction l with
  | nil => rfl
  | cons a l ih =>
    rw [List.filterMap_cons]
    by_cases h : p a = true
    · rw [if_pos h, List.filter_cons, if_pos h, List.map_cons, ← ih]
    · rw [if_neg h, List.filter_cons, if_neg h, ← ih]
theorem ok_members {f : Addr} {fd : FuncData} (F : Fun K "members" "members" sMembers f fd) (M : Mods mg) : FnOk P w K mg base CX0 1 f fd ["bits"] (spOf K CR (pureS S_members)) := by
  refine def_ok F scMembers (fun ds cs Pd R ⟨_, n, h, _⟩ => by rw [h]; rfl) fun cdv A outer s F H E ds cs Pd R hr ⟨hcs, m, hd, hm, k⟩ => ?_
  subst hcs
  subst hd
  have hnd := scMembers.nd
  have hN := cx_N CX0 P w K mg base nMembers "members" (defScope sMembers) f cdv A outer s H E
  walk_at "st"
  walk_at "ev"
  refine ax_lcQ hN (by walk_at "ix") hnd (blkOk_by (sc := defScope sMembers) (by decide +kernel)) rfl (ai_range1 M.range ?_)
  walk_at "ev"
  have hb := intBits_le hm
  refine ⟨by omega, by show Builtin.Int.intBits m ≤ 90000; omega, ⟨0, rfl⟩, fun i => if m.testBit i then some (natD i) else none, fun i d hi => ?_, ?_⟩
  · have hi : (if i < Builtin.Int.intBits m then some (Dt.int (0 + (i : Int))) else none) = some d := hi
    split at hi
    · cases hi
      intro s0 H0 C cl fp D acc
      refine ats_one ?_
      rw [Int.zero_add]
      walk_at "ev"
      rw [bit_test]
      refine ⟨rfl, fun hk _ _ _ _ _ => ?_, fun hk => if_neg (by rw [hk]; exact Bool.false_ne_true)⟩
      walk_at "ev"
      exact ⟨rfl, if_pos hk⟩
    · cases hi
  · refine ⟨_, .inl rfl, ?_⟩
    show Pd (.tup ((List.range (Builtin.Int.intBits m)).filterMap fun i => if m.testBit i then some (natD i) else none)) []
    rw [fm_filter]
    exact k
end

end G
namespace G
open PySem PySem.Spec PyProof.Rows L2 Evl
local macro_rules | `(tactic| walk_at "ix") => `(tactic| with_reducible (first
  | exact AtN.z | exact AtN.s AtN.z | exact AtN.s (AtN.s AtN.z) | exact AtN.s (AtN.s (AtN.s AtN.z)) | exact AtN.s (AtN.s (AtN.s (AtN.s AtN.z)))
  | exact AtN.s (AtN.s (AtN.s (AtN.s (AtN.s AtN.z)))) | exact AtN.s (AtN.s (AtN.s (AtN.s (AtN.s (AtN.s AtN.z))))) | exact AtN.s (AtN.s (AtN.s (AtN.s (AtN.s (AtN.s (AtN.s AtN.z))))))
  | exact AtN.s (AtN.s (AtN.s (AtN.s (AtN.s (AtN.s (AtN.s (AtN.s AtN.z))))))) | exact AtN.s (AtN.s (AtN.s (AtN.s (AtN.s (AtN.s (AtN.s (AtN.s (AtN.s AtN.z)))))))) | exact AtN.s (AtN.s (AtN.s (AtN.s (AtN.s (AtN.s (AtN.s (AtN.s (AtN.s (AtN.s AtN.z)))))))))
  | exact AtN.s (AtN.s (AtN.s (AtN.s (AtN.s (AtN.s (AtN.s (AtN.s (AtN.s (AtN.s (AtN.s AtN.z))))))))))
  | exact AtN.s (AtN.s (AtN.s (AtN.s (AtN.s (AtN.s (AtN.s (AtN.s (AtN.s (AtN.s (AtN.s (AtN.s AtN.z)))))))))))
  | exact AtN.s (AtN.s (AtN.s (AtN.s (AtN.s (AtN.s (AtN.s (AtN.s (AtN.s (AtN.s (AtN.s (AtN.s (AtN.s AtN.z))))))))))))
  | exact AtN.s (AtN.s (AtN.s (AtN.s (AtN.s (AtN.s (AtN.s (AtN.s (AtN.s (AtN.s (AtN.s (AtN.s (AtN.s (AtN.s AtN.z)))))))))))))
  | exact AtN.s (AtN.s (AtN.s (AtN.s (AtN.s (AtN.s (AtN.s (AtN.s (AtN.s (AtN.s (AtN.s (AtN.s (AtN.s (AtN.s (AtN.s AtN.z))))))))))))))))
local macro_rules | `(tactic| walk_at "ev1") => `(tactic| first
  | with_reducible refine ax_int ?_ | with_reducible refine ax_bl ?_ | with_reducible refine ax_non ?_ | with_reducible refine ax_str ?_
  | ((with_reducible show Ax _ _ (Expr.Name _ _) _ _ _); refine ax_u $(Lean.mkIdent `hN) (by walk_at "ix") rfl ?_)
  | ((with_reducible show Ax _ _ (Expr.Compare _ _ _ _) _ _ _); first | (with_reducible refine ax_cmpR cmp_lt ?_) | (with_reducible refine ax_cmpR cmp_le ?_) | (with_reducible refine ax_cmpR cmp_gt ?_) | (with_reducible refine ax_cmpR cmp_ge ?_) | (with_reducible refine ax_cmpR cmp_eq ?_) | (with_reducible refine ax_cmpR cmp_ne ?_) | (with_reducible refine ax_cmpR cmp_is ?_) | (with_reducible refine ax_cmpR cmp_isN ?_))
  | ((with_reducible show At _ _ (Expr.Compare _ _ _ _) _ _ _); first | (with_reducible refine at_cmpR cmp_lt ?_) | (with_reducible refine at_cmpR cmp_le ?_) | (with_reducible refine at_cmpR cmp_gt ?_) | (with_reducible refine at_cmpR cmp_ge ?_) | (with_reducible refine at_cmpR cmp_eq ?_) | (with_reducible refine at_cmpR cmp_ne ?_) | (with_reducible refine at_cmpR cmp_is ?_) | (with_reducible refine at_cmpR cmp_isN ?_))
  | with_reducible refine ax_add ?_ | with_reducible refine ax_sub ?_ | with_reducible refine ax_mul ?_ | with_reducible refine ax_fdiv ?_ | with_reducible refine ax_mod ?_ | with_reducible refine ax_shl ?_ | with_reducible refine ax_shr ?_ | with_reducible refine ax_and ?_ | with_reducible refine ax_or ?_ | with_reducible refine ax_neg ?_
  | with_reducible refine ax_one ?_ | with_reducible refine ax_andv ?_ | with_reducible refine ax_orv ?_ | with_reducible refine ax_notv ?_ | with_reducible refine at_one ?_ | with_reducible refine at_and ?_ | with_reducible refine at_or ?_ | with_reducible refine at_not ?_ | with_reducible refine ax_if ?_
  | ((with_reducible show Ax _ _ (Expr.Subscript _ _ _) _ _ _); refine ax_ix ?_) | with_reducible refine ax_tup ?_ | ((with_reducible show Aa _ _ (_ :: _) _ _ _); refine aa_cons ?_) | with_reducible refine aa_nil ?_
  | ((with_reducible show Ax _ _ (Expr.Call (Expr.Name "len" _) _ _ _) _ _ _); refine ax_len (Mods.len $(Lean.mkIdent `M)) ?_)
  | ((with_reducible show Ax _ _ (Expr.Call (Expr.Name "int" _) _ _ _) _ _ _); refine ax_int1 (Mods.int $(Lean.mkIdent `M)) ?_)
  | ((with_reducible show Ax _ _ (Expr.Call (Expr.Name "abs" _) _ _ _) _ _ _); refine ax_abs (Mods.abs $(Lean.mkIdent `M)) ?_)
  | ((with_reducible show Ax _ _ (Expr.Call (Expr.Name "tuple" _) _ _ _) _ _ _); refine ax_tuple (Mods.tuple $(Lean.mkIdent `M)) ?_)
  | ((with_reducible show Ax _ _ (Expr.Call (Expr.Name "has" _) _ _ _) _ _ _); refine ax_call $(Lean.mkIdent `cHas) (Room.mono $(Lean.mkIdent `hr) (by decide)) pas0 ?_)
  | ((with_reducible show Ax _ _ (Expr.Call (Expr.Name "set_of" _) _ _ _) _ _ _); refine ax_call $(Lean.mkIdent `cSetOf) (Room.mono $(Lean.mkIdent `hr) (by decide)) pas0 ?_)
  | ((with_reducible show Ax _ _ (Expr.Call (Expr.Name "members" _) _ _ _) _ _ _); refine ax_call $(Lean.mkIdent `cMembers) (Room.mono $(Lean.mkIdent `hr) (by decide)) pas0 ?_)
  | ((with_reducible show Ax _ _ (Expr.Call (Expr.Name "is_integer" _) _ _ _) _ _ _); refine ax_call $(Lean.mkIdent `cIsInt) (Room.mono $(Lean.mkIdent `hr) (by decide)) pas0 ?_)
  | ((with_reducible show Ax _ _ (Expr.Call (Expr.Attribute _ "bit_length" _) _ _ _) _ _ _); refine ax_bits ?_)
  | ((with_reducible show Ax _ _ (Expr.Call (Expr.Name "isinstance" _) [_, Expr.Name "int" _] _ _) _ _ _); refine ax_isi (u := "int") (Mods.isinstance $(Lean.mkIdent `M)) (Mods.int $(Lean.mkIdent `M)) boot_int ?_)
  | ((with_reducible show Ax _ _ (Expr.Call (Expr.Name "isinstance" _) [_, Expr.Name "bool" _] _ _) _ _ _); refine ax_isi (u := "bool") (Mods.isinstance $(Lean.mkIdent `M)) (Mods.bool $(Lean.mkIdent `M)) boot_bool ?_)
  | ((with_reducible show Ax _ _ (Expr.Call (Expr.Name "isinstance" _) [_, Expr.Name "tuple" _] _ _) _ _ _); refine ax_isi (u := "tuple") (Mods.isinstance $(Lean.mkIdent `M)) (Mods.tuple $(Lean.mkIdent `M)) boot_tuple ?_)
  | ((with_reducible show Ax _ _ (Expr.Call (Expr.Name "isinstance" _) [_, Expr.Tuple [Expr.Name "list" _, Expr.Name "tuple" _] _ _] _ _) _ _ _); refine ax_isi2 (u1 := "list") (u2 := "tuple") (Mods.isinstance $(Lean.mkIdent `M)) (Mods.list $(Lean.mkIdent `M)) (Mods.tuple $(Lean.mkIdent `M)) boot_list boot_tuple ?_)
  | ((with_reducible show ∃ t k, tyD _ = some t ∧ kitB t _ = some k ∧ _); refine ⟨_, _, rfl, by with_reducible (first | exact kit_ii | exact kit_ib | exact kit_tt), ?_⟩)
  | ((with_reducible show S_isInt _ _ _); refine ⟨_, rfl, ?_⟩) | ((with_reducible show S_has _ _ _); refine ⟨_, _, rfl, ?_⟩)
  | ((with_reducible show REq _ _ _ _); refine ⟨_, rfl, ?_⟩) | ((with_reducible show RNe _ _ _ _); refine ⟨_, rfl, ?_⟩) | ((with_reducible show RI _ _ _ _ _); refine ⟨_, _, rfl, rfl, ?_⟩)
  | with_reducible refine ⟨_, _, rfl, rfl, ?_⟩
  | with_reducible refine ⟨_, rfl, ?_⟩
  | ((with_reducible show At _ _ (Expr.Name _ _) _ _ _); refine at_val ?_) | ((with_reducible show At _ _ (Expr.Call _ _ _ _) _ _ _); refine at_val ?_) | ((with_reducible show At _ _ (Expr.Subscript _ _ _) _ _ _); refine at_val ?_))
local macro_rules | `(tactic| walk_at "ev") => `(tactic| repeat walk_at "ev1")
local macro_rules | `(tactic| walk_at "st1") => `(tactic| first
    | ((with_reducible show A1 _ _ (Stmt.Return _ _) _ _ _); refine a1_ret ?_)
    | ((with_reducible show A1 _ _ (Stmt.If _ _ _ _) _ _ _); refine a1_if ?_)
    | ((with_reducible show A1 _ _ (Stmt.Expr _ _) _ _ _); refine a1_drop ?_)
    | ((with_reducible show A1 _ _ (Stmt.Assign [Expr.Name _ _] _ _) _ _ _); refine a1_setU $(Lean.mkIdent `hN) (by walk_at "ix") $(Lean.mkIdent `hnd) ?_)
    | ((with_reducible show A1 _ _ (Stmt.Assign _ _ _) _ _ _); refine a1_asg ?_))
local macro_rules | `(tactic| walk_at "st") => `(tactic| first
  | ((with_reducible show As _ _ [] _ _ _); refine as_nil ?_)
  | (refine as_cons ?_; walk_at "st1"))
local macro_rules | `(tactic| walk_at "newl") => `(tactic| refine as_setU $(Lean.mkIdent `hN) (by walk_at "ix") $(Lean.mkIdent `hnd) (ax_lstC (aa_nil ⟨by decide, ?_⟩)))
local macro_rules | `(tactic| walk_at "for") => `(tactic| (refine as_cons ?_; refine a1_for ?hp ?_ ?hc ?hs; (case hp => exact PassesOwn.never); (case hc => rfl); (case hs => intro _; rfl)))
local macro_rules | `(tactic| walk_at "tgt") => `(tactic| refine ag_nameU $(Lean.mkIdent `hN) (by walk_at "ix") $(Lean.mkIdent `hnd) ?_)
local macro_rules | `(tactic| walk_at "rng") => `(tactic| refine ai_range1 (Mods.range $(Lean.mkIdent `M)) ?_)
local macro_rules | `(tactic| walk_at "while") => `(tactic| (refine as_cons ?_; refine a1_while ?hp ?I ?h0 ?hs; (case hp => exact PassesOwn.never)))
local macro_rules | `(tactic| walk_at "pair") => `(tactic| refine ag_pairU $(Lean.mkIdent `hN) (by walk_at "ix") (by walk_at "ix") $(Lean.mkIdent `hnd) ?hd ?_)
local macro_rules | `(tactic| walk_at "blk") => `(tactic| exact blkOk_by (by decide +kernel))
/-! P2: pairs looked at, closures -/
abbrev pairN (q : Nat × Nat) : Dt := .tup [natD q.1, natD q.2]
def rowsD (n : Nat) (R : Rl) : List Dt := (List.range n).map fun x => natD (bitsOf n (R x))
theorem rowsD_get {n x : Nat} {R : Rl} (h : x < n) : (rowsD n R)[x]? = some (natD (bitsOf n (R x))) := map_range_get h
theorem rowsD_len (n : Nat) (R : Rl) : (rowsD n R).length = n := by unfold rowsD; rw [List.length_map, List.length_range]
theorem rowsD_congr {n : Nat} {R S : Rl} (h : ∀ x y, x < n → y < n → R x y = S x y) : rowsD n R = rowsD n S := map_range_congr fun x hx => congrArg natD (bitsOf_congr fun y hy => h x y hx hy)
theorem rowsD_set {n x : Nat} {R : Rl} {f : Nat → Bool} : (rowsD n R).set x (natD (bitsOf n f)) = rowsD n (fun a b => if a = x then f b else R a b) := by
  unfold rowsD
  rw [map_range_set]
  refine map_range_congr fun i _ => ?_
  by_cases h : i = x
  · simp only [h, if_true]
  · simp only [h, if_false]
theorem rel_take {ps : List (Nat × Nat)} {i : Nat} {q : Nat × Nat} (h : ps[i]? = some q) (a b : Nat) : rel (ps.take (i + 1)) a b = (rel (ps.take i) a b || (decide (a = q.1) && decide (b = q.2))) := by
  unfold rel
  rw [List.take_add_one, h, Bool.eq_iff_iff]
  simp only [Option.toList_some, List.mem_append, List.mem_singleton, decide_eq_true_iff, Bool.or_eq_true, Bool.and_eq_true, Prod.ext_iff]
def InR (n : Nat) (ps : List (Nat × Nat)) : Prop := ∀ q ∈ ps, q.1 < n ∧ q.2 < n
section
variable {P : Program} {w : World} {K : PySem.W.Frag} {mg : Str → Option Value} {base : Heap} {CR : Addr}
/-! ### checked_pairs of the lattice -/
abbrev sChkL : Stmt := topS 18
abbrev nChkL : List Str := ["n", "pairs", "pair", "x"]
theorem scChkL : FnScope nChkL ["n", "pairs"] (defScope sChkL) := ⟨rfl, rfl, rfl, by decide +kernel, rfl, by decide +kernel, by decide +kernel⟩
def S_chkL : List Dt → (Dt → Prop) → (Str → Prop) → Prop := fun ds P _ => ∃ (n : Nat) (ps : List (Nat × Nat)) (d : Dt), ds = [natD n, d] ∧ (d = .lst (ps.map pairN) ∨ d = .tup (ps.map pairN)) ∧ InR n ps ∧ P d
theorem item_map {α : Type} {f : α → Dt} {l : List α} {i : Nat} {d : Dt} (h : (Src.seq (l.map f)).item i = some d) : ∃ x, l[i]? = some x ∧ f x = d := by
  have h : (l.map f)[i]? = some d := h
  rw [List.getElem?_map, Option.map_eq_some_iff] at h
  exact h
theorem item_two {a b : Dt} {i : Nat} {d : Dt} (h : (Src.seq [a, b]).item i = some d) : d = a ∨ d = b := by
  have h : ([a, b] : List Dt)[i]? = some d := h
  match i, h with
  | 0, h => exact .inl (Option.some.inj h).symm
  | 1, h => exact .inr (Option.some.inj h).symm
  | i + 2, h => simp at h
theorem ok_chkL {f : Addr} {fd : FuncData} (F : Fun K "checked_pairs" "checked_pairs" sChkL f fd) (M : Mods mg) (cIsInt : Fo P w K mg base CX0 CR 1 "is_integer" (pureS S_isInt)) : FnOk P w K mg base CX0 2 f fd ["n", "pairs"] (spOf K CR (pureS S_chkL)) := by
  refine def_ok F scChkL (fun ds cs Pd R ⟨_, n, ps, d, h, _⟩ => by rw [h]; rfl) fun cdv A outer s F H E ds cs Pd R hr ⟨hcs, n, ps, d, hd, hdd, hin, k⟩ => ?_
  subst hcs
  subst hd
  have hnd := scChkL.nd
  have hN := cx_N CX0 P w K mg base nChkL "checked_pairs" (defScope sChkL) f cdv A outer s H E
  have hty : ∃ t, tyD d = some t ∧ (kitB t "list" = some true ∧ kitB t "tuple" = some false ∨ kitB t "list" = some false ∧ kitB t "tuple" = some true) := by
    rcases hdd with rfl | rfl
    · exact ⟨"list", rfl, .inl ⟨kit_ll, kit_lt⟩⟩
    · exact ⟨"tuple", rfl, .inr ⟨kit_tl, kit_tt⟩⟩
  obtain ⟨t, ht, hk⟩ := hty
  have hki : ∃ k1 k2, kitB t "list" = some k1 ∧ kitB t "tuple" = some k2 ∧ (k1 || k2) = true := by
    rcases hk with ⟨a, b⟩ | ⟨a, b⟩
    · exact ⟨_, _, a, b, rfl⟩
    · exact ⟨_, _, a, b, rfl⟩
  obtain ⟨k1, k2, hk1, hk2, hk3⟩ := hki
  walk_at "st"
  walk_at "ev"
  refine ⟨t, k1, k2, ht, hk1, hk2, _, rfl, fun h => ?_, fun _ => ?_⟩
  · rw [hk3] at h
    cases h
  walk_at "st"
  walk_at "for"
  refine ai_seq ?_
  walk_at "ev"
  refine ⟨ps.map pairN, by rcases hdd with h | h; exact .inl h; exact .inr (.inl h), fun i ρ cs => cs = [] ∧ ∃ z1 z2, ρ = [some (natD n), some d, z1, z2], ⟨rfl, none, none, rfl⟩, ?_, ?_⟩
  · rintro i e ρ' cs' hi ⟨rfl, z1, z2, rfl⟩
    obtain ⟨q, hq, rfl⟩ := item_map hi
    have hq1 := hin q (List.mem_of_getElem? hq)
    walk_at "tgt"
    walk_at "st"
    walk_at "ev"
    refine ⟨fun h => (nomatch h), fun _ => ?_⟩
    walk_at "ev"
    refine ⟨_, .inr (.inl rfl), ?_⟩
    walk_at "ev"
    refine ⟨fun h => (nomatch h), fun _ => ?_⟩
    walk_at "st"
    walk_at "for"
    refine ai_seq ?_
    walk_at "ev"
    refine ⟨_, .inr (.inl rfl), fun i ρ cs => cs = [] ∧ ∃ z2, ρ = [some (natD n), some d, some (pairN q), z2], ⟨rfl, z2, rfl⟩, ?_, ?_⟩
    · rintro j e ρ' cs' hj ⟨rfl, z3, rfl⟩
      obtain ⟨x, hx, rfl⟩ : ∃ x : Nat, x < n ∧ natD x = e := by
        rcases item_two hj with rfl | rfl
        · exact ⟨_, hq1.1, rfl⟩
        · exact ⟨_, hq1.2, rfl⟩
      walk_at "tgt"
      walk_at "st"
      walk_at "ev"
      refine ⟨fun h => (nomatch h), fun _ => ?_⟩
      walk_at "ev"
      refine ⟨fun h => absurd (of_decide_eq_true h) (by omega), fun _ => ?_⟩
      walk_at "ev"
      refine ⟨fun h => absurd (of_decide_eq_true h) (by omega), fun _ => ?_⟩
      walk_at "st"
      walk_at "st"
      exact ⟨rfl, _, rfl⟩
    · rintro ρ' cs' ⟨rfl, z3, rfl⟩
      walk_at "st"
      exact ⟨rfl, _, _, rfl⟩
  · rintro ρ' cs' ⟨rfl, z1, z2, rfl⟩
    walk_at "st"
    walk_at "ev"
    exact k
/-! ### _checked_pairs of the order -/
abbrev sChkO : Stmt := topS 13
abbrev nChkO : List Str := ["n", "pairs", "out", "pair", "x"]
theorem scChkO : FnScope nChkO ["n", "pairs"] (defScope sChkO) := ⟨rfl, rfl, rfl, by decide +kernel, rfl, by decide +kernel, by decide +kernel⟩
def S_chkO : List Dt → (Dt → Prop) → (Str → Prop) → Prop := fun ds P _ => ∃ (n : Nat) (ps : List (Nat × Nat)), ds = [natD n, .lst (ps.map pairN)] ∧ InR n ps ∧ ps.length ≤ 10000 ∧ P (.lst (ps.map pairN))
theorem take_map_succ {α β : Type} (f : α → β) {l : List α} {i : Nat} {a : α} (h : l[i]? = some a) : (l.take (i + 1)).map f = (l.take i).map f ++ [f a] := by
  rw [List.take_add_one, h, List.map_append]
  rfl
theorem ok_chkO {f : Addr} {fd : FuncData} (F : Fun K "_checked_pairs" "_checked_pairs" sChkO f fd) (M : Mods mg) (cIsInt : Fo P w K mg base CX0 CR 1 "is_integer" (pureS S_isInt)) : FnOk P w K mg base CX0 2 f fd ["n", "pairs"] (spOf K CR (pureS S_chkO)) := by
  refine def_ok F scChkO (fun ds cs Pd R ⟨_, n, ps, h, _⟩ => by rw [h]; rfl) fun cdv A outer s F H E ds cs Pd R hr ⟨hcs, n, ps, hd, hin, hlen, k⟩ => ?_
  subst hcs
  subst hd
  have hnd := scChkO.nd
  have hN := cx_N CX0 P w K mg base nChkO "_checked_pairs" (defScope sChkO) f cdv A outer s H E
  walk_at "st"
  walk_at "ev"
  refine ⟨"list", true, false, rfl, kit_ll, kit_lt, _, rfl, fun h => (nomatch h), fun _ => ?_⟩
  walk_at "st"
  walk_at "newl"
  intro p
  walk_at "for"
  refine ai_seq ?_
  walk_at "ev"
  refine ⟨ps.map pairN, .inl rfl, fun i ρ cs => cs = [(p, .l ((ps.take i).map pairN))] ∧ ∃ z1 z2, ρ = [some (natD n), some (.lst (ps.map pairN)), some (.cell p), z1, z2], ⟨rfl, none, none, rfl⟩, ?_, ?_⟩
  · rintro i e ρ' cs' hi ⟨rfl, z1, z2, rfl⟩
    obtain ⟨q, hq, rfl⟩ := item_map hi
    have hq1 := hin q (List.mem_of_getElem? hq)
    have hil := (List.getElem?_eq_some_iff.mp hq).1
    walk_at "tgt"
    walk_at "st"
    walk_at "ev"
    refine ⟨fun h => (nomatch h), fun _ => ?_⟩
    walk_at "ev"
    refine ⟨_, .inr (.inl rfl), ?_⟩
    walk_at "ev"
    refine ⟨fun h => (nomatch h), fun _ => ?_⟩
    walk_at "st"
    walk_at "for"
    refine ai_seq ?_
    walk_at "ev"
    refine ⟨_, .inr (.inl rfl), fun _ ρ cs => cs = [(p, .l ((ps.take i).map pairN))] ∧ ∃ z2, ρ = [some (natD n), some (.lst (ps.map pairN)), some (.cell p), some (pairN q), z2], ⟨rfl, z2, rfl⟩, ?_, ?_⟩
    · rintro j e ρ' cs' hj ⟨rfl, z3, rfl⟩
      obtain ⟨x, hx, rfl⟩ : ∃ x : Nat, x < n ∧ natD x = e := by
        rcases item_two hj with rfl | rfl
        · exact ⟨_, hq1.1, rfl⟩
        · exact ⟨_, hq1.2, rfl⟩
      walk_at "tgt"
      walk_at "st"
      walk_at "ev"
      refine ⟨fun h => (nomatch h), fun _ => ?_⟩
      walk_at "ev"
      refine ⟨fun h => absurd (of_decide_eq_true h) (by omega), fun _ => ?_⟩
      walk_at "ev"
      refine ⟨fun h => absurd (of_decide_eq_true h) (by omega), fun _ => ?_⟩
      walk_at "st"
      walk_at "st"
      exact ⟨rfl, _, rfl⟩
    · rintro ρ' cs' ⟨rfl, z3, rfl⟩
      walk_at "st"
      refine ax_append ?_
      walk_at "ev"
      refine ⟨⟨0, _, rfl⟩, ?_⟩
      walk_at "ev"
      refine ⟨0, _, rfl, by rw [List.length_map, List.length_take]; omega, ?_⟩
      walk_at "st"
      refine ⟨?_, _, _, rfl⟩
      rw [take_map_succ pairN hq]
      rfl
  · rintro ρ' cs' ⟨rfl, z1, z2, rfl⟩
    refine as_cons (a1_ret (ax_freeze ?_))
    walk_at "ev"
    refine ⟨0, p, _, rfl, rfl, ⟨1, by decide, rfl⟩, ?_⟩
    have e : ps.take (Src.len (.seq (ps.map pairN))) = ps := by
      show ps.take (ps.map pairN).length = ps
      rw [List.length_map, List.take_length]
    rw [e]
    exact k
end

end G
namespace G
open PySem PySem.Spec PyProof.Rows L2 Evl
local macro_rules | `(tactic| walk_at "ix") => `(tactic| with_reducible (first
  | exact AtN.z | exact AtN.s AtN.z | exact AtN.s (AtN.s AtN.z) | exact AtN.s (AtN.s (AtN.s AtN.z)) | exact AtN.s (AtN.s (AtN.s (AtN.s AtN.z)))
  | exact AtN.s (AtN.s (AtN.s (AtN.s (AtN.s AtN.z)))) | exact AtN.s (AtN.s (AtN.s (AtN.s (AtN.s (AtN.s AtN.z))))) | exact AtN.s (AtN.s (AtN.s (AtN.s (AtN.s (AtN.s (AtN.s AtN.z))))))
  | exact AtN.s (AtN.s (AtN.s (AtN.s (AtN.s (AtN.s (AtN.s (AtN.s AtN.z))))))) | exact AtN.s (AtN.s (AtN.s (AtN.s (AtN.s (AtN.s (AtN.s (AtN.s (AtN.s AtN.z)))))))) | exact AtN.s (AtN.s (AtN.s (AtN.s (AtN.s (AtN.s (AtN.s (AtN.s (AtN.s (AtN.s AtN.z)))))))))
  | exact AtN.s (AtN.s (AtN.s (AtN.s (AtN.s (AtN.s (AtN.s (AtN.s (AtN.s (AtN.s (AtN.s AtN.z))))))))))
  | exact AtN.s (AtN.s (AtN.s (AtN.s (AtN.s (AtN.s (AtN.s (AtN.s (AtN.s (AtN.s (AtN.s (AtN.s AtN.z)))))))))))
  | exact AtN.s (AtN.s (AtN.s (AtN.s (AtN.s (AtN.s (AtN.s (AtN.s (AtN.s (AtN.s (AtN.s (AtN.s (AtN.s AtN.z))))))))))))
  | exact AtN.s (AtN.s (AtN.s (AtN.s (AtN.s (AtN.s (AtN.s (AtN.s (AtN.s (AtN.s (AtN.s (AtN.s (AtN.s (AtN.s AtN.z)))))))))))))
  | exact AtN.s (AtN.s (AtN.s (AtN.s (AtN.s (AtN.s (AtN.s (AtN.s (AtN.s (AtN.s (AtN.s (AtN.s (AtN.s (AtN.s (AtN.s AtN.z))))))))))))))))
local macro_rules | `(tactic| walk_at "ev1") => `(tactic| first
  | with_reducible refine ax_int ?_ | with_reducible refine ax_bl ?_ | with_reducible refine ax_non ?_ | with_reducible refine ax_str ?_
  | ((with_reducible show Ax _ _ (Expr.Name _ _) _ _ _); refine ax_u $(Lean.mkIdent `hN) (by walk_at "ix") rfl ?_)
  | ((with_reducible show Ax _ _ (Expr.Compare _ _ _ _) _ _ _); first | (with_reducible refine ax_cmpR cmp_lt ?_) | (with_reducible refine ax_cmpR cmp_le ?_) | (with_reducible refine ax_cmpR cmp_gt ?_) | (with_reducible refine ax_cmpR cmp_ge ?_) | (with_reducible refine ax_cmpR cmp_eq ?_) | (with_reducible refine ax_cmpR cmp_ne ?_) | (with_reducible refine ax_cmpR cmp_is ?_) | (with_reducible refine ax_cmpR cmp_isN ?_))
  | ((with_reducible show At _ _ (Expr.Compare _ _ _ _) _ _ _); first | (with_reducible refine at_cmpR cmp_lt ?_) | (with_reducible refine at_cmpR cmp_le ?_) | (with_reducible refine at_cmpR cmp_gt ?_) | (with_reducible refine at_cmpR cmp_ge ?_) | (with_reducible refine at_cmpR cmp_eq ?_) | (with_reducible refine at_cmpR cmp_ne ?_) | (with_reducible refine at_cmpR cmp_is ?_) | (with_reducible refine at_cmpR cmp_isN ?_))
  | with_reducible refine ax_add ?_ | with_reducible refine ax_sub ?_ | with_reducible refine ax_mul ?_ | with_reducible refine ax_fdiv ?_ | with_reducible refine ax_mod ?_ | with_reducible refine ax_shl ?_ | with_reducible refine ax_shr ?_ | with_reducible refine ax_and ?_ | with_reducible refine ax_or ?_ | with_reducible refine ax_neg ?_
  | with_reducible refine ax_one ?_ | with_reducible refine ax_andv ?_ | with_reducible refine ax_orv ?_ | with_reducible refine ax_notv ?_ | with_reducible refine at_one ?_ | with_reducible refine at_and ?_ | with_reducible refine at_or ?_ | with_reducible refine at_not ?_ | with_reducible refine ax_if ?_
  | ((with_reducible show Ax _ _ (Expr.Subscript _ _ _) _ _ _); refine ax_ix ?_) | with_reducible refine ax_tup ?_ | ((with_reducible show Aa _ _ (_ :: _) _ _ _); refine aa_cons ?_) | with_reducible refine aa_nil ?_
  | ((with_reducible show Ax _ _ (Expr.Call (Expr.Name "len" _) _ _ _) _ _ _); refine ax_len (Mods.len $(Lean.mkIdent `M)) ?_)
  | ((with_reducible show Ax _ _ (Expr.Call (Expr.Name "int" _) _ _ _) _ _ _); refine ax_int1 (Mods.int $(Lean.mkIdent `M)) ?_)
  | ((with_reducible show Ax _ _ (Expr.Call (Expr.Name "abs" _) _ _ _) _ _ _); refine ax_abs (Mods.abs $(Lean.mkIdent `M)) ?_)
  | ((with_reducible show Ax _ _ (Expr.Call (Expr.Name "tuple" _) _ _ _) _ _ _); refine ax_tuple (Mods.tuple $(Lean.mkIdent `M)) ?_)
  | ((with_reducible show Ax _ _ (Expr.Call (Expr.Name "has" _) _ _ _) _ _ _); refine ax_call $(Lean.mkIdent `cHas) (Room.mono $(Lean.mkIdent `hr) (by decide)) pas0 ?_)
  | ((with_reducible show Ax _ _ (Expr.Call (Expr.Name "set_of" _) _ _ _) _ _ _); refine ax_call $(Lean.mkIdent `cSetOf) (Room.mono $(Lean.mkIdent `hr) (by decide)) pas0 ?_)
  | ((with_reducible show Ax _ _ (Expr.Call (Expr.Name "members" _) _ _ _) _ _ _); refine ax_call $(Lean.mkIdent `cMembers) (Room.mono $(Lean.mkIdent `hr) (by decide)) pas0 ?_)
  | ((with_reducible show Ax _ _ (Expr.Call (Expr.Name "is_integer" _) _ _ _) _ _ _); refine ax_call $(Lean.mkIdent `cIsInt) (Room.mono $(Lean.mkIdent `hr) (by decide)) pas0 ?_)
  | ((with_reducible show Ax _ _ (Expr.Call (Expr.Attribute _ "bit_length" _) _ _ _) _ _ _); refine ax_bits ?_)
  | ((with_reducible show Ax _ _ (Expr.Call (Expr.Name "isinstance" _) [_, Expr.Name "int" _] _ _) _ _ _); refine ax_isi (u := "int") (Mods.isinstance $(Lean.mkIdent `M)) (Mods.int $(Lean.mkIdent `M)) boot_int ?_)
  | ((with_reducible show Ax _ _ (Expr.Call (Expr.Name "isinstance" _) [_, Expr.Name "bool" _] _ _) _ _ _); refine ax_isi (u := "bool") (Mods.isinstance $(Lean.mkIdent `M)) (Mods.bool $(Lean.mkIdent `M)) boot_bool ?_)
  | ((with_reducible show Ax _ _ (Expr.Call (Expr.Name "isinstance" _) [_, Expr.Name "tuple" _] _ _) _ _ _); refine ax_isi (u := "tuple") (Mods.isinstance $(Lean.mkIdent `M)) (Mods.tuple $(Lean.mkIdent `M)) boot_tuple ?_)
  | ((with_reducible show Ax _ _ (Expr.Call (Expr.Name "isinstance" _) [_, Expr.Tuple [Expr.Name "list" _, Expr.Name "tuple" _] _ _] _ _) _ _ _); refine ax_isi2 (u1 := "list") (u2 := "tuple") (Mods.isinstance $(Lean.mkIdent `M)) (Mods.list $(Lean.mkIdent `M)) (Mods.tuple $(Lean.mkIdent `M)) boot_list boot_tuple ?_)
  | ((with_reducible show ∃ t k, tyD _ = some t ∧ kitB t _ = some k ∧ _); refine ⟨_, _, rfl, by with_reducible (first | exact kit_ii | exact kit_ib | exact kit_tt), ?_⟩)
  | ((with_reducible show S_isInt _ _ _); refine ⟨_, rfl, ?_⟩) | ((with_reducible show S_has _ _ _); refine ⟨_, _, rfl, ?_⟩)
  | ((with_reducible show REq _ _ _ _); refine ⟨_, rfl, ?_⟩) | ((with_reducible show RNe _ _ _ _); refine ⟨_, rfl, ?_⟩) | ((with_reducible show RI _ _ _ _ _); refine ⟨_, _, rfl, rfl, ?_⟩)
  | with_reducible refine ⟨_, _, rfl, rfl, ?_⟩
  | with_reducible refine ⟨_, rfl, ?_⟩
  | ((with_reducible show At _ _ (Expr.Name _ _) _ _ _); refine at_val ?_) | ((with_reducible show At _ _ (Expr.Call _ _ _ _) _ _ _); refine at_val ?_) | ((with_reducible show At _ _ (Expr.Subscript _ _ _) _ _ _); refine at_val ?_))
local macro_rules | `(tactic| walk_at "ev") => `(tactic| repeat walk_at "ev1")
local macro_rules | `(tactic| walk_at "st1") => `(tactic| first
    | ((with_reducible show A1 _ _ (Stmt.Return _ _) _ _ _); refine a1_ret ?_)
    | ((with_reducible show A1 _ _ (Stmt.If _ _ _ _) _ _ _); refine a1_if ?_)
    | ((with_reducible show A1 _ _ (Stmt.Expr _ _) _ _ _); refine a1_drop ?_)
    | ((with_reducible show A1 _ _ (Stmt.Assign [Expr.Name _ _] _ _) _ _ _); refine a1_setU $(Lean.mkIdent `hN) (by walk_at "ix") $(Lean.mkIdent `hnd) ?_)
    | ((with_reducible show A1 _ _ (Stmt.Assign _ _ _) _ _ _); refine a1_asg ?_))
local macro_rules | `(tactic| walk_at "st") => `(tactic| first
  | ((with_reducible show As _ _ [] _ _ _); refine as_nil ?_)
  | (refine as_cons ?_; walk_at "st1"))
local macro_rules | `(tactic| walk_at "newl") => `(tactic| refine as_setU $(Lean.mkIdent `hN) (by walk_at "ix") $(Lean.mkIdent `hnd) (ax_lstC (aa_nil ⟨by decide, ?_⟩)))
local macro_rules | `(tactic| walk_at "for") => `(tactic| (refine as_cons ?_; refine a1_for ?hp ?_ ?hc ?hs; (case hp => exact PassesOwn.never); (case hc => rfl); (case hs => intro _; rfl)))
local macro_rules | `(tactic| walk_at "tgt") => `(tactic| refine ag_nameU $(Lean.mkIdent `hN) (by walk_at "ix") $(Lean.mkIdent `hnd) ?_)
local macro_rules | `(tactic| walk_at "rng") => `(tactic| refine ai_range1 (Mods.range $(Lean.mkIdent `M)) ?_)
local macro_rules | `(tactic| walk_at "while") => `(tactic| (refine as_cons ?_; refine a1_while ?hp ?I ?h0 ?hs; (case hp => exact PassesOwn.never)))
local macro_rules | `(tactic| walk_at "pair") => `(tactic| refine ag_pairU $(Lean.mkIdent `hN) (by walk_at "ix") (by walk_at "ix") $(Lean.mkIdent `hnd) ?hd ?_)
local macro_rules | `(tactic| walk_at "blk") => `(tactic| exact blkOk_by (by decide +kernel))
/-! P3: closures -/
theorem mid_true {n x y : Nat} {R : Rl} (h : R x y = true) : rowsD n (fun a b => if a = x then (R x b || R y b) else mid y x R a b) = rowsD n (mid y (x + 1) R) := rowsD_congr fun a b _ _ => by
  unfold mid phase
  by_cases e : a = x
  · subst e
    rw [if_pos rfl, if_pos (by omega), h, Bool.true_and]
  · rw [if_neg e]
    by_cases l : a < x
    · rw [if_pos l, if_pos (by omega)]
    · rw [if_neg l, if_neg (by omega)]
theorem mid_false {n x y : Nat} {R : Rl} (h : R x y = false) : rowsD n (mid y x R) = rowsD n (mid y (x + 1) R) := rowsD_congr fun a b _ _ => by
  unfold mid phase
  by_cases e : a = x
  · subst e
    rw [if_neg (by omega), if_pos (by omega), h, Bool.false_and, Bool.or_false]
  · by_cases l : a < x
    · rw [if_pos l, if_pos (by omega)]
    · rw [if_neg l, if_neg (by omega)]
theorem rows_pair {n i : Nat} {ps : List (Nat × Nat)} {q : Nat × Nat} (h : ps[i]? = some q) (h2 : q.2 < n) : (rowsD n (rel (ps.take i))).set q.1 (natD (bitsOf n (rel (ps.take i) q.1) ||| 2 ^ q.2)) = rowsD n (rel (ps.take (i + 1))) := by
  rw [bitsOf_one h2, rowsD_set]
  refine rowsD_congr fun a b _ _ => ?_
  rw [rel_take h]
  by_cases e : a = q.1
  · rw [if_pos e, decide_eq_true e, Bool.true_and, e]
  · rw [if_neg e, decide_eq_false e, Bool.false_and, Bool.or_false]
theorem bit_row {n y : Nat} {f : Nat → Bool} (h : y < n) : (bitsOf n f).testBit y = f y := by rw [testBit_bitsOf, decide_eq_true h, Bool.true_and]
theorem fm_some {α : Type} (f : Nat → α) (l : List Nat) : (l.filterMap fun i => some (f i)) = l.map f := by
  rw [← List.filterMap_eq_map]
  rfl
theorem rows_zero (n : Nat) : List.replicate n (Dt.int 0) = rowsD n (rel []) := by
  unfold rowsD
  rw [List.map_congr_left (g := fun _ => Dt.int 0)]
  · rw [List.map_const', List.length_range]
  · intro x _
    show natD (bitsOf n fun y => decide ((x, y) ∈ ([] : List (Nat × Nat)))) = Dt.int 0
    rw [bitsOf_congr (g := fun _ => false) (fun y _ => decide_eq_false (by simp)), bitsOf_none]
    rfl
theorem rng_item {n i : Nat} {d : Dt} (h : (Src.rng 0 n).item i = some d) : i < n ∧ d = natD i := by
  have h : (if i < n then some (Dt.int (0 + (i : Int))) else none) = some d := h
  split at h
  · rename_i hl
    cases h
    exact ⟨hl, by rw [Int.zero_add]⟩
  · cases h
section
variable {P : Program} {w : World} {K : PySem.W.Frag} {mg : Str → Option Value} {base : Heap} {CR : Addr}
abbrev sClosA : Stmt := topS 19
abbrev nClosA : List Str := ["n", "pairs", "above", "_", "x", "y"]
theorem scClosA : FnScope nClosA ["n", "pairs"] (defScope sClosA) := ⟨rfl, rfl, rfl, by decide +kernel, rfl, by decide +kernel, by decide +kernel⟩
def S_closA : List Dt → (Dt → Prop) → (Str → Prop) → Prop := fun ds P _ => ∃ (n : Nat) (ps : List (Nat × Nat)) (d : Dt), ds = [natD n, d] ∧ n ≤ 900 ∧ (d = .lst (ps.map pairN) ∨ d = .tup (ps.map pairN)) ∧ InR n ps ∧ (∀ x, x < n → war n (rel ps) x x = false) ∧ P (.tup (rowsD n (war n (rel ps))))
theorem ok_closA {f : Addr} {fd : FuncData} (F : Fun K "closed_above" "closed_above" sClosA f fd) (M : Mods mg) (cHas : Fo P w K mg base CX0 CR 1 "has" (pureS S_has)) : FnOk P w K mg base CX0 2 f fd ["n", "pairs"] (spOf K CR (pureS S_closA)) := by
  refine def_ok F scClosA (fun ds cs Pd R ⟨_, n, ps, d, h, _⟩ => by rw [h]; rfl) fun cdv A outer s F H E ds cs Pd R hr ⟨hcs, n, ps, d, hd, hn9, hdd, hin, hirr, k⟩ => ?_
  subst hcs
  subst hd
  have hnd := scClosA.nd
  have hN := cx_N CX0 P w K mg base nClosA "closed_above" (defScope sClosA) f cdv A outer s H E
  refine as_cons (a1_lcC hN (by walk_at "ix") hnd (blkOk_by (sc := defScope sClosA) (by decide +kernel)) rfl (by walk_at "ix") rfl rfl rfl rfl (ai_range1 M.range ?_))
  walk_at "ev"
  refine ⟨by omega, by show n ≤ 90000; omega, fun _ => some (natD 0), fun i d hi => fun s0 H0 C cl fp D acc => ats_nil ⟨rfl, fun _ _ _ _ _ _ => ?_, fun h => (nomatch h)⟩, fun p => ?_⟩
  · walk_at "ev"
    exact ⟨rfl, rfl⟩
  have e0 : (List.range (Src.len (.rng 0 n))).filterMap (fun _ => some (natD 0)) = rowsD n (rel (ps.take 0)) := by
    show _ = rowsD n (rel [])
    rw [← rows_zero, fm_some, List.map_const', List.length_range]
    rfl
  rw [e0]
  walk_at "for"
  refine ai_seq ?_
  walk_at "ev"
  refine ⟨ps.map pairN, by rcases hdd with h | h; exact .inl h; exact .inr (.inl h), fun i ρ cs => cs = [(p, .l (rowsD n (rel (ps.take i))))] ∧ ∃ z1 z2 z3, ρ = [some (natD n), some d, some (.cell p), z1, z2, z3], ⟨rfl, _, _, _, rfl⟩, ?_, ?_⟩
  · rintro i e ρ' cs' hi ⟨rfl, z1, z2, z3, rfl⟩
    obtain ⟨q, hq, rfl⟩ := item_map hi
    have hq1 := hin q (List.mem_of_getElem? hq)
    refine ag_pairU hN (by walk_at "ix") (by walk_at "ix") hnd rfl ?_
    walk_at "st"
    walk_at "ev"
    refine ⟨_, _, _, .inr (.inr ⟨0, p, rfl, rfl⟩), rfl, rowsD_get hq1.1, ?_⟩
    walk_at "ev"
    refine ⟨q.2, rfl, rfl, by omega, ?_⟩
    walk_at "ev"
    refine ag_sub ?_
    walk_at "ev"
    refine ⟨0, p, _, q.1, rfl, rfl, rfl, by rw [rowsD_len]; exact hq1.1, ?_⟩
    walk_at "st"
    rw [rows_pair hq hq1.2]
    exact ⟨rfl, _, _, _, rfl⟩
  rintro ρ' cs' ⟨rfl, z1, z2, z3, rfl⟩
  have e1 : ps.take (Src.len (.seq (ps.map pairN))) = ps := by
    show ps.take (ps.map pairN).length = ps
    rw [List.length_map, List.take_length]
  rw [e1]
  walk_at "for"
  walk_at "rng"
  walk_at "ev"
  refine ⟨by omega, fun y ρ cs => cs = [(p, .l (rowsD n (war y (rel ps))))] ∧ ∃ z1 z2 z3, ρ = [some (natD n), some d, some (.cell p), z1, z2, z3], ⟨rfl, _, _, _, rfl⟩, ?_, ?_⟩
  · rintro y e ρ' cs' hi ⟨rfl, z1, z2, z3, rfl⟩
    obtain ⟨hy, rfl⟩ := rng_item hi
    walk_at "tgt"
    walk_at "for"
    walk_at "rng"
    walk_at "ev"
    refine ⟨by omega, fun x ρ cs => cs = [(p, .l (rowsD n (mid y x (war y (rel ps)))))] ∧ ∃ z1 z2, ρ = [some (natD n), some d, some (.cell p), z1, z2, some (natD y)], ⟨by rw [mid_zero], _, _, rfl⟩, ?_, ?_⟩
    · rintro x e ρ' cs' hi ⟨rfl, z1, z2, rfl⟩
      obtain ⟨hx, rfl⟩ := rng_item hi
      walk_at "tgt"
      walk_at "st"
      walk_at "ev"
      refine ⟨_, _, _, .inr (.inr ⟨0, p, rfl, rfl⟩), rfl, rowsD_get hx, ?_⟩
      walk_at "ev"
      rw [bit_row hy, mid_self]
      refine ⟨fun ht => ?_, fun hf => ?_⟩
      · walk_at "st"
        walk_at "ev"
        refine ⟨_, _, _, .inr (.inr ⟨0, p, rfl, rfl⟩), rfl, rowsD_get hx, ?_⟩
        walk_at "ev"
        refine ⟨_, _, _, .inr (.inr ⟨0, p, rfl, rfl⟩), rfl, rowsD_get hy, ?_⟩
        walk_at "ev"
        refine ag_sub ?_
        walk_at "ev"
        refine ⟨0, p, _, x, rfl, rfl, rfl, by rw [rowsD_len]; exact hx, ?_⟩
        walk_at "st"
        walk_at "st"
        refine ⟨?_, _, _, rfl⟩
        show [(p, Ct.l ((rowsD n (mid y x (war y (rel ps)))).set x (natD (bitsOf n (mid y x (war y (rel ps)) x) ||| bitsOf n (mid y x (war y (rel ps)) y)))))] = _
        rw [bitsOf_or, rowsD_set, ← mid_true ht]
        simp only [mid_self, mid_row]
      · walk_at "st"
        walk_at "st"
        exact ⟨by rw [mid_false hf], _, _, rfl⟩
    · rintro ρ' cs' ⟨rfl, z1, z2, rfl⟩
      walk_at "st"
      refine ⟨?_, _, _, _, rfl⟩
      have e2 : rowsD n (mid y (Src.len (.rng 0 n)) (war y (rel ps))) = rowsD n (war (y + 1) (rel ps)) := rowsD_congr fun a b ha _ => mid_full ha b
      rw [e2]
  rintro ρ' cs' ⟨rfl, z1, z2, z3, rfl⟩
  walk_at "for"
  walk_at "rng"
  walk_at "ev"
  refine ⟨by omega, fun y ρ cs => cs = [(p, .l (rowsD n (war n (rel ps))))] ∧ ∃ z1 z2 z3, ρ = [some (natD n), some d, some (.cell p), z1, z2, z3], ⟨rfl, _, _, _, rfl⟩, ?_, ?_⟩
  · rintro x e ρ' cs' hi ⟨rfl, z1, z2, z3, rfl⟩
    obtain ⟨hx, rfl⟩ := rng_item hi
    walk_at "tgt"
    walk_at "st"
    walk_at "ev"
    refine ⟨_, _, _, .inr (.inr ⟨0, p, rfl, rfl⟩), rfl, rowsD_get hx, ?_⟩
    walk_at "ev"
    rw [bit_row hx, hirr x hx]
    refine ⟨fun h => (nomatch h), fun _ => ?_⟩
    walk_at "st"
    walk_at "st"
    exact ⟨rfl, _, _, _, rfl⟩
  rintro ρ' cs' ⟨rfl, z1, z2, z3, rfl⟩
  refine as_freeze 2 0 rfl rfl ⟨1, by decide, rfl⟩ ?_
  walk_at "st"
  walk_at "ev"
  exact ⟨_, .inl rfl, k⟩
end

end G
namespace G
open PySem PySem.Spec PyProof.Rows L2 Evl
local macro_rules | `(tactic| walk_at "ix") => `(tactic| with_reducible (first
  | exact AtN.z | exact AtN.s AtN.z | exact AtN.s (AtN.s AtN.z) | exact AtN.s (AtN.s (AtN.s AtN.z)) | exact AtN.s (AtN.s (AtN.s (AtN.s AtN.z)))
  | exact AtN.s (AtN.s (AtN.s (AtN.s (AtN.s AtN.z)))) | exact AtN.s (AtN.s (AtN.s (AtN.s (AtN.s (AtN.s AtN.z))))) | exact AtN.s (AtN.s (AtN.s (AtN.s (AtN.s (AtN.s (AtN.s AtN.z))))))
  | exact AtN.s (AtN.s (AtN.s (AtN.s (AtN.s (AtN.s (AtN.s (AtN.s AtN.z))))))) | exact AtN.s (AtN.s (AtN.s (AtN.s (AtN.s (AtN.s (AtN.s (AtN.s (AtN.s AtN.z)))))))) | exact AtN.s (AtN.s (AtN.s (AtN.s (AtN.s (AtN.s (AtN.s (AtN.s (AtN.s (AtN.s AtN.z)))))))))
  | exact AtN.s (AtN.s (AtN.s (AtN.s (AtN.s (AtN.s (AtN.s (AtN.s (AtN.s (AtN.s (AtN.s AtN.z))))))))))
  | exact AtN.s (AtN.s (AtN.s (AtN.s (AtN.s (AtN.s (AtN.s (AtN.s (AtN.s (AtN.s (AtN.s (AtN.s AtN.z)))))))))))
  | exact AtN.s (AtN.s (AtN.s (AtN.s (AtN.s (AtN.s (AtN.s (AtN.s (AtN.s (AtN.s (AtN.s (AtN.s (AtN.s AtN.z))))))))))))
  | exact AtN.s (AtN.s (AtN.s (AtN.s (AtN.s (AtN.s (AtN.s (AtN.s (AtN.s (AtN.s (AtN.s (AtN.s (AtN.s (AtN.s AtN.z)))))))))))))
  | exact AtN.s (AtN.s (AtN.s (AtN.s (AtN.s (AtN.s (AtN.s (AtN.s (AtN.s (AtN.s (AtN.s (AtN.s (AtN.s (AtN.s (AtN.s AtN.z))))))))))))))))
local macro_rules | `(tactic| walk_at "ev1") => `(tactic| first
  | with_reducible refine ax_int ?_ | with_reducible refine ax_bl ?_ | with_reducible refine ax_non ?_ | with_reducible refine ax_str ?_
  | ((with_reducible show Ax _ _ (Expr.Name _ _) _ _ _); refine ax_u $(Lean.mkIdent `hN) (by walk_at "ix") rfl ?_)
  | ((with_reducible show Ax _ _ (Expr.Compare _ _ _ _) _ _ _); first | (with_reducible refine ax_cmpR cmp_lt ?_) | (with_reducible refine ax_cmpR cmp_le ?_) | (with_reducible refine ax_cmpR cmp_gt ?_) | (with_reducible refine ax_cmpR cmp_ge ?_) | (with_reducible refine ax_cmpR cmp_eq ?_) | (with_reducible refine ax_cmpR cmp_ne ?_) | (with_reducible refine ax_cmpR cmp_is ?_) | (with_reducible refine ax_cmpR cmp_isN ?_))
  | ((with_reducible show At _ _ (Expr.Compare _ _ _ _) _ _ _); first | (with_reducible refine at_cmpR cmp_lt ?_) | (with_reducible refine at_cmpR cmp_le ?_) | (with_reducible refine at_cmpR cmp_gt ?_) | (with_reducible refine at_cmpR cmp_ge ?_) | (with_reducible refine at_cmpR cmp_eq ?_) | (with_reducible refine at_cmpR cmp_ne ?_) | (with_reducible refine at_cmpR cmp_is ?_) | (with_reducible refine at_cmpR cmp_isN ?_))
  | with_reducible refine ax_add ?_ | with_reducible refine ax_sub ?_ | with_reducible refine ax_mul ?_ | with_reducible refine ax_fdiv ?_ | with_reducible refine ax_mod ?_ | with_reducible refine ax_shl ?_ | with_reducible refine ax_shr ?_ | with_reducible refine ax_and ?_ | with_reducible refine ax_or ?_ | with_reducible refine ax_neg ?_
  | with_reducible refine ax_one ?_ | with_reducible refine ax_andv ?_ | with_reducible refine ax_orv ?_ | with_reducible refine ax_notv ?_ | with_reducible refine at_one ?_ | with_reducible refine at_and ?_ | with_reducible refine at_or ?_ | with_reducible refine at_not ?_ | with_reducible refine ax_if ?_
  | ((with_reducible show Ax _ _ (Expr.Subscript _ _ _) _ _ _); refine ax_ix ?_) | with_reducible refine ax_tup ?_ | ((with_reducible show Aa _ _ (_ :: _) _ _ _); refine aa_cons ?_) | with_reducible refine aa_nil ?_
  | ((with_reducible show Ax _ _ (Expr.Call (Expr.Name "len" _) _ _ _) _ _ _); refine ax_len (Mods.len $(Lean.mkIdent `M)) ?_)
  | ((with_reducible show Ax _ _ (Expr.Call (Expr.Name "int" _) _ _ _) _ _ _); refine ax_int1 (Mods.int $(Lean.mkIdent `M)) ?_)
  | ((with_reducible show Ax _ _ (Expr.Call (Expr.Name "abs" _) _ _ _) _ _ _); refine ax_abs (Mods.abs $(Lean.mkIdent `M)) ?_)
  | ((with_reducible show Ax _ _ (Expr.Call (Expr.Name "tuple" _) _ _ _) _ _ _); refine ax_tuple (Mods.tuple $(Lean.mkIdent `M)) ?_)
  | ((with_reducible show Ax _ _ (Expr.Call (Expr.Name "has" _) _ _ _) _ _ _); refine ax_call $(Lean.mkIdent `cHas) (Room.mono $(Lean.mkIdent `hr) (by decide)) pas0 ?_)
  | ((with_reducible show Ax _ _ (Expr.Call (Expr.Name "set_of" _) _ _ _) _ _ _); refine ax_call $(Lean.mkIdent `cSetOf) (Room.mono $(Lean.mkIdent `hr) (by decide)) pas0 ?_)
  | ((with_reducible show Ax _ _ (Expr.Call (Expr.Name "members" _) _ _ _) _ _ _); refine ax_call $(Lean.mkIdent `cMembers) (Room.mono $(Lean.mkIdent `hr) (by decide)) pas0 ?_)
  | ((with_reducible show Ax _ _ (Expr.Call (Expr.Name "is_integer" _) _ _ _) _ _ _); refine ax_call $(Lean.mkIdent `cIsInt) (Room.mono $(Lean.mkIdent `hr) (by decide)) pas0 ?_)
  | ((with_reducible show Ax _ _ (Expr.Call (Expr.Attribute _ "bit_length" _) _ _ _) _ _ _); refine ax_bits ?_)
  | ((with_reducible show Ax _ _ (Expr.Call (Expr.Name "isinstance" _) [_, Expr.Name "int" _] _ _) _ _ _); refine ax_isi (u := "int") (Mods.isinstance $(Lean.mkIdent `M)) (Mods.int $(Lean.mkIdent `M)) boot_int ?_)
  | ((with_reducible show Ax _ _ (Expr.Call (Expr.Name "isinstance" _) [_, Expr.Name "bool" _] _ _) _ _ _); refine ax_isi (u := "bool") (Mods.isinstance $(Lean.mkIdent `M)) (Mods.bool $(Lean.mkIdent `M)) boot_bool ?_)
  | ((with_reducible show Ax _ _ (Expr.Call (Expr.Name "isinstance" _) [_, Expr.Name "tuple" _] _ _) _ _ _); refine ax_isi (u := "tuple") (Mods.isinstance $(Lean.mkIdent `M)) (Mods.tuple $(Lean.mkIdent `M)) boot_tuple ?_)
  | ((with_reducible show Ax _ _ (Expr.Call (Expr.Name "isinstance" _) [_, Expr.Tuple [Expr.Name "list" _, Expr.Name "tuple" _] _ _] _ _) _ _ _); refine ax_isi2 (u1 := "list") (u2 := "tuple") (Mods.isinstance $(Lean.mkIdent `M)) (Mods.list $(Lean.mkIdent `M)) (Mods.tuple $(Lean.mkIdent `M)) boot_list boot_tuple ?_)
  | ((with_reducible show ∃ t k, tyD _ = some t ∧ kitB t _ = some k ∧ _); refine ⟨_, _, rfl, by with_reducible (first | exact kit_ii | exact kit_ib | exact kit_tt), ?_⟩)
  | ((with_reducible show S_isInt _ _ _); refine ⟨_, rfl, ?_⟩) | ((with_reducible show S_has _ _ _); refine ⟨_, _, rfl, ?_⟩)
  | ((with_reducible show REq _ _ _ _); refine ⟨_, rfl, ?_⟩) | ((with_reducible show RNe _ _ _ _); refine ⟨_, rfl, ?_⟩) | ((with_reducible show RI _ _ _ _ _); refine ⟨_, _, rfl, rfl, ?_⟩)
  | with_reducible refine ⟨_, _, rfl, rfl, ?_⟩
  | with_reducible refine ⟨_, rfl, ?_⟩
  | ((with_reducible show At _ _ (Expr.Name _ _) _ _ _); refine at_val ?_) | ((with_reducible show At _ _ (Expr.Call _ _ _ _) _ _ _); refine at_val ?_) | ((with_reducible show At _ _ (Expr.Subscript _ _ _) _ _ _); refine at_val ?_))
local macro_rules | `(tactic| walk_at "ev") => `(tactic| repeat walk_at "ev1")
local macro_rules | `(tactic| walk_at "st1") => `(tactic| first
    | ((with_reducible show A1 _ _ (Stmt.Return _ _) _ _ _); refine a1_ret ?_)
    | ((with_reducible show A1 _ _ (Stmt.If _ _ _ _) _ _ _); refine a1_if ?_)
    | ((with_reducible show A1 _ _ (Stmt.Expr _ _) _ _ _); refine a1_drop ?_)
    | ((with_reducible show A1 _ _ (Stmt.Assign [Expr.Name _ _] _ _) _ _ _); refine a1_setU $(Lean.mkIdent `hN) (by walk_at "ix") $(Lean.mkIdent `hnd) ?_)
    | ((with_reducible show A1 _ _ (Stmt.Assign _ _ _) _ _ _); refine a1_asg ?_))
local macro_rules | `(tactic| walk_at "st") => `(tactic| first
  | ((with_reducible show As _ _ [] _ _ _); refine as_nil ?_)
  | (refine as_cons ?_; walk_at "st1"))
local macro_rules | `(tactic| walk_at "newl") => `(tactic| refine as_setU $(Lean.mkIdent `hN) (by walk_at "ix") $(Lean.mkIdent `hnd) (ax_lstC (aa_nil ⟨by decide, ?_⟩)))
local macro_rules | `(tactic| walk_at "for") => `(tactic| (refine as_cons ?_; refine a1_for ?hp ?_ ?hc ?hs; (case hp => exact PassesOwn.never); (case hc => rfl); (case hs => intro _; rfl)))
local macro_rules | `(tactic| walk_at "tgt") => `(tactic| refine ag_nameU $(Lean.mkIdent `hN) (by walk_at "ix") $(Lean.mkIdent `hnd) ?_)
local macro_rules | `(tactic| walk_at "rng") => `(tactic| refine ai_range1 (Mods.range $(Lean.mkIdent `M)) ?_)
local macro_rules | `(tactic| walk_at "while") => `(tactic| (refine as_cons ?_; refine a1_while ?hp ?I ?h0 ?hs; (case hp => exact PassesOwn.never)))
local macro_rules | `(tactic| walk_at "pair") => `(tactic| refine ag_pairU $(Lean.mkIdent `hN) (by walk_at "ix") (by walk_at "ix") $(Lean.mkIdent `hnd) ?hd ?_)
local macro_rules | `(tactic| walk_at "blk") => `(tactic| exact blkOk_by (by decide +kernel))
/-! P3b: the closure of the order -/
section
variable {P : Program} {w : World} {K : PySem.W.Frag} {mg : Str → Option Value} {base : Heap} {CR : Addr}
abbrev sClosO : Stmt := topS 14
abbrev nClosO : List Str := ["n", "pairs", "above", "x", "y"]
theorem scClosO : FnScope nClosO ["n", "pairs"] (defScope sClosO) := ⟨rfl, rfl, rfl, by decide +kernel, rfl, by decide +kernel, by decide +kernel⟩
def S_closO : List Dt → (Dt → Prop) → (Str → Prop) → Prop := fun ds P _ => ∃ (n : Nat) (ps : List (Nat × Nat)) (d : Dt), ds = [natD n, d] ∧ n ≤ 900 ∧ (d = .lst (ps.map pairN) ∨ d = .tup (ps.map pairN)) ∧ InR n ps ∧ (∀ x, x < n → war n (rel ps) x x = false) ∧ P (.tup (rowsD n (war n (rel ps))))
theorem ok_closO {f : Addr} {fd : FuncData} (F : Fun K "_closed" "_closed" sClosO f fd) (M : Mods mg) (cHas : Fo P w K mg base CX0 CR 1 "has" (pureS S_has)) : FnOk P w K mg base CX0 2 f fd ["n", "pairs"] (spOf K CR (pureS S_closO)) := by
  refine def_ok F scClosO (fun ds cs Pd R ⟨_, n, ps, d, h, _⟩ => by rw [h]; rfl) fun cdv A outer s F H E ds cs Pd R hr ⟨hcs, n, ps, d, hd, hn9, hdd, hin, hirr, k⟩ => ?_
  subst hcs
  subst hd
  have hnd := scClosO.nd
  have hN := cx_N CX0 P w K mg base nClosO "_closed" (defScope sClosO) f cdv A outer s H E
  refine as_setU hN (by walk_at "ix") hnd (ax_rep0 ?_)
  refine ax_lst ?_
  walk_at "ev"
  refine ⟨by decide, ?_⟩
  walk_at "ev"
  refine ⟨by omega, fun p => ?_⟩
  have e0 : List.replicate n (Dt.int 0) = rowsD n (rel (ps.take 0)) := rows_zero n
  rw [e0]
  walk_at "for"
  refine ai_seq ?_
  walk_at "ev"
  refine ⟨ps.map pairN, by rcases hdd with h | h; exact .inl h; exact .inr (.inl h), fun i ρ cs => cs = [(p, .l (rowsD n (rel (ps.take i))))] ∧ ∃ z2 z3, ρ = [some (natD n), some d, some (.cell p), z2, z3], ⟨rfl, _, _, rfl⟩, ?_, ?_⟩
  · rintro i e ρ' cs' hi ⟨rfl, z2, z3, rfl⟩
    obtain ⟨q, hq, rfl⟩ := item_map hi
    have hq1 := hin q (List.mem_of_getElem? hq)
    refine ag_pairU hN (by walk_at "ix") (by walk_at "ix") hnd rfl ?_
    walk_at "st"
    walk_at "ev"
    refine ⟨_, _, _, .inr (.inr ⟨0, p, rfl, rfl⟩), rfl, rowsD_get hq1.1, ?_⟩
    walk_at "ev"
    refine ⟨q.2, rfl, rfl, by omega, ?_⟩
    walk_at "ev"
    refine ag_sub ?_
    walk_at "ev"
    refine ⟨0, p, _, q.1, rfl, rfl, rfl, by rw [rowsD_len]; exact hq1.1, ?_⟩
    walk_at "st"
    rw [rows_pair hq hq1.2]
    exact ⟨rfl, _, _, rfl⟩
  rintro ρ' cs' ⟨rfl, z2, z3, rfl⟩
  have e1 : ps.take (Src.len (.seq (ps.map pairN))) = ps := by
    show ps.take (ps.map pairN).length = ps
    rw [List.length_map, List.take_length]
  rw [e1]
  walk_at "for"
  walk_at "rng"
  walk_at "ev"
  refine ⟨by omega, fun y ρ cs => cs = [(p, .l (rowsD n (war y (rel ps))))] ∧ ∃ z2 z3, ρ = [some (natD n), some d, some (.cell p), z2, z3], ⟨rfl, _, _, rfl⟩, ?_, ?_⟩
  · rintro y e ρ' cs' hi ⟨rfl, z2, z3, rfl⟩
    obtain ⟨hy, rfl⟩ := rng_item hi
    walk_at "tgt"
    walk_at "for"
    walk_at "rng"
    walk_at "ev"
    refine ⟨by omega, fun x ρ cs => cs = [(p, .l (rowsD n (mid y x (war y (rel ps)))))] ∧ ∃ z1, ρ = [some (natD n), some d, some (.cell p), z1, some (natD y)], ⟨by rw [mid_zero], _, rfl⟩, ?_, ?_⟩
    · rintro x e ρ' cs' hi ⟨rfl, z1, rfl⟩
      obtain ⟨hx, rfl⟩ := rng_item hi
      walk_at "tgt"
      walk_at "st"
      walk_at "ev"
      refine ⟨_, _, _, .inr (.inr ⟨0, p, rfl, rfl⟩), rfl, rowsD_get hx, ?_⟩
      walk_at "ev"
      rw [bit_row hy, mid_self]
      refine ⟨fun ht => ?_, fun hf => ?_⟩
      · walk_at "st"
        walk_at "ev"
        refine ⟨_, _, _, .inr (.inr ⟨0, p, rfl, rfl⟩), rfl, rowsD_get hx, ?_⟩
        walk_at "ev"
        refine ⟨_, _, _, .inr (.inr ⟨0, p, rfl, rfl⟩), rfl, rowsD_get hy, ?_⟩
        walk_at "ev"
        refine ag_sub ?_
        walk_at "ev"
        refine ⟨0, p, _, x, rfl, rfl, rfl, by rw [rowsD_len]; exact hx, ?_⟩
        walk_at "st"
        walk_at "st"
        refine ⟨?_, _, rfl⟩
        show [(p, Ct.l ((rowsD n (mid y x (war y (rel ps)))).set x (natD (bitsOf n (mid y x (war y (rel ps)) x) ||| bitsOf n (mid y x (war y (rel ps)) y)))))] = _
        rw [bitsOf_or, rowsD_set, ← mid_true ht]
        simp only [mid_self, mid_row]
      · walk_at "st"
        walk_at "st"
        exact ⟨by rw [mid_false hf], _, rfl⟩
    · rintro ρ' cs' ⟨rfl, z1, rfl⟩
      walk_at "st"
      refine ⟨?_, _, _, rfl⟩
      have e2 : rowsD n (mid y (Src.len (.rng 0 n)) (war y (rel ps))) = rowsD n (war (y + 1) (rel ps)) := rowsD_congr fun a b ha _ => mid_full ha b
      rw [e2]
  rintro ρ' cs' ⟨rfl, z2, z3, rfl⟩
  walk_at "for"
  walk_at "rng"
  walk_at "ev"
  refine ⟨by omega, fun y ρ cs => cs = [(p, .l (rowsD n (war n (rel ps))))] ∧ ∃ z2 z3, ρ = [some (natD n), some d, some (.cell p), z2, z3], ⟨rfl, _, _, rfl⟩, ?_, ?_⟩
  · rintro x e ρ' cs' hi ⟨rfl, z2, z3, rfl⟩
    obtain ⟨hx, rfl⟩ := rng_item hi
    walk_at "tgt"
    walk_at "st"
    walk_at "ev"
    refine ⟨_, _, _, .inr (.inr ⟨0, p, rfl, rfl⟩), rfl, rowsD_get hx, ?_⟩
    walk_at "ev"
    rw [bit_row hx, hirr x hx]
    refine ⟨fun h => (nomatch h), fun _ => ?_⟩
    walk_at "st"
    walk_at "st"
    exact ⟨rfl, _, _, rfl⟩
  rintro ρ' cs' ⟨rfl, z2, z3, rfl⟩
  refine as_freeze 2 0 rfl rfl ⟨1, by decide, rfl⟩ ?_
  walk_at "st"
  walk_at "ev"
  exact ⟨_, .inl rfl, k⟩
end

end G
namespace G
open PySem PySem.Spec PyProof.Rows L2 Evl
local macro_rules | `(tactic| walk_at "ix") => `(tactic| with_reducible (first
  | exact AtN.z | exact AtN.s AtN.z | exact AtN.s (AtN.s AtN.z) | exact AtN.s (AtN.s (AtN.s AtN.z)) | exact AtN.s (AtN.s (AtN.s (AtN.s AtN.z)))
  | exact AtN.s (AtN.s (AtN.s (AtN.s (AtN.s AtN.z)))) | exact AtN.s (AtN.s (AtN.s (AtN.s (AtN.s (AtN.s AtN.z))))) | exact AtN.s (AtN.s (AtN.s (AtN.s (AtN.s (AtN.s (AtN.s AtN.z))))))
  | exact AtN.s (AtN.s (AtN.s (AtN.s (AtN.s (AtN.s (AtN.s (AtN.s AtN.z))))))) | exact AtN.s (AtN.s (AtN.s (AtN.s (AtN.s (AtN.s (AtN.s (AtN.s (AtN.s AtN.z)))))))) | exact AtN.s (AtN.s (AtN.s (AtN.s (AtN.s (AtN.s (AtN.s (AtN.s (AtN.s (AtN.s AtN.z)))))))))
  | exact AtN.s (AtN.s (AtN.s (AtN.s (AtN.s (AtN.s (AtN.s (AtN.s (AtN.s (AtN.s (AtN.s AtN.z))))))))))
  | exact AtN.s (AtN.s (AtN.s (AtN.s (AtN.s (AtN.s (AtN.s (AtN.s (AtN.s (AtN.s (AtN.s (AtN.s AtN.z)))))))))))
  | exact AtN.s (AtN.s (AtN.s (AtN.s (AtN.s (AtN.s (AtN.s (AtN.s (AtN.s (AtN.s (AtN.s (AtN.s (AtN.s AtN.z))))))))))))
  | exact AtN.s (AtN.s (AtN.s (AtN.s (AtN.s (AtN.s (AtN.s (AtN.s (AtN.s (AtN.s (AtN.s (AtN.s (AtN.s (AtN.s AtN.z)))))))))))))
  | exact AtN.s (AtN.s (AtN.s (AtN.s (AtN.s (AtN.s (AtN.s (AtN.s (AtN.s (AtN.s (AtN.s (AtN.s (AtN.s (AtN.s (AtN.s AtN.z))))))))))))))))
local macro_rules | `(tactic| walk_at "ev1") => `(tactic| first
  | with_reducible refine ax_int ?_ | with_reducible refine ax_bl ?_ | with_reducible refine ax_non ?_ | with_reducible refine ax_str ?_
  | ((with_reducible show Ax _ _ (Expr.Name _ _) _ _ _); refine ax_u $(Lean.mkIdent `hN) (by walk_at "ix") rfl ?_)
  | ((with_reducible show Ax _ _ (Expr.Compare _ _ _ _) _ _ _); first | (with_reducible refine ax_cmpR cmp_lt ?_) | (with_reducible refine ax_cmpR cmp_le ?_) | (with_reducible refine ax_cmpR cmp_gt ?_) | (with_reducible refine ax_cmpR cmp_ge ?_) | (with_reducible refine ax_cmpR cmp_eq ?_) | (with_reducible refine ax_cmpR cmp_ne ?_) | (with_reducible refine ax_cmpR cmp_is ?_) | (with_reducible refine ax_cmpR cmp_isN ?_))
  | ((with_reducible show At _ _ (Expr.Compare _ _ _ _) _ _ _); first | (with_reducible refine at_cmpR cmp_lt ?_) | (with_reducible refine at_cmpR cmp_le ?_) | (with_reducible refine at_cmpR cmp_gt ?_) | (with_reducible refine at_cmpR cmp_ge ?_) | (with_reducible refine at_cmpR cmp_eq ?_) | (with_reducible refine at_cmpR cmp_ne ?_) | (with_reducible refine at_cmpR cmp_is ?_) | (with_reducible refine at_cmpR cmp_isN ?_))
  | with_reducible refine ax_add ?_ | with_reducible refine ax_sub ?_ | with_reducible refine ax_mul ?_ | with_reducible refine ax_fdiv ?_ | with_reducible refine ax_mod ?_ | with_reducible refine ax_shl ?_ | with_reducible refine ax_shr ?_ | with_reducible refine ax_and ?_ | with_reducible refine ax_or ?_ | with_reducible refine ax_neg ?_
  | with_reducible refine ax_one ?_ | with_reducible refine ax_andv ?_ | with_reducible refine ax_orv ?_ | with_reducible refine ax_notv ?_ | with_reducible refine at_one ?_ | with_reducible refine at_and ?_ | with_reducible refine at_or ?_ | with_reducible refine at_not ?_ | with_reducible refine ax_if ?_
  | ((with_reducible show Ax _ _ (Expr.Subscript _ _ _) _ _ _); refine ax_ix ?_) | with_reducible refine ax_tup ?_ | ((with_reducible show Aa _ _ (_ :: _) _ _ _); refine aa_cons ?_) | with_reducible refine aa_nil ?_
  | ((with_reducible show Ax _ _ (Expr.Call (Expr.Name "len" _) _ _ _) _ _ _); refine ax_len (Mods.len $(Lean.mkIdent `M)) ?_)
  | ((with_reducible show Ax _ _ (Expr.Call (Expr.Name "int" _) _ _ _) _ _ _); refine ax_int1 (Mods.int $(Lean.mkIdent `M)) ?_)
  | ((with_reducible show Ax _ _ (Expr.Call (Expr.Name "abs" _) _ _ _) _ _ _); refine ax_abs (Mods.abs $(Lean.mkIdent `M)) ?_)
  | ((with_reducible show Ax _ _ (Expr.Call (Expr.Name "tuple" _) _ _ _) _ _ _); refine ax_tuple (Mods.tuple $(Lean.mkIdent `M)) ?_)
  | ((with_reducible show Ax _ _ (Expr.Call (Expr.Name "has" _) _ _ _) _ _ _); refine ax_call $(Lean.mkIdent `cHas) (Room.mono $(Lean.mkIdent `hr) (by decide)) pas0 ?_)
  | ((with_reducible show Ax _ _ (Expr.Call (Expr.Name "set_of" _) _ _ _) _ _ _); refine ax_call $(Lean.mkIdent `cSetOf) (Room.mono $(Lean.mkIdent `hr) (by decide)) pas0 ?_)
  | ((with_reducible show Ax _ _ (Expr.Call (Expr.Name "members" _) _ _ _) _ _ _); refine ax_call $(Lean.mkIdent `cMembers) (Room.mono $(Lean.mkIdent `hr) (by decide)) pas0 ?_)
  | ((with_reducible show Ax _ _ (Expr.Call (Expr.Name "is_integer" _) _ _ _) _ _ _); refine ax_call $(Lean.mkIdent `cIsInt) (Room.mono $(Lean.mkIdent `hr) (by decide)) pas0 ?_)
  | ((with_reducible show Ax _ _ (Expr.Call (Expr.Attribute _ "bit_length" _) _ _ _) _ _ _); refine ax_bits ?_)
  | ((with_reducible show Ax _ _ (Expr.Call (Expr.Name "isinstance" _) [_, Expr.Name "int" _] _ _) _ _ _); refine ax_isi (u := "int") (Mods.isinstance $(Lean.mkIdent `M)) (Mods.int $(Lean.mkIdent `M)) boot_int ?_)
  | ((with_reducible show Ax _ _ (Expr.Call (Expr.Name "isinstance" _) [_, Expr.Name "bool" _] _ _) _ _ _); refine ax_isi (u := "bool") (Mods.isinstance $(Lean.mkIdent `M)) (Mods.bool $(Lean.mkIdent `M)) boot_bool ?_)
  | ((with_reducible show Ax _ _ (Expr.Call (Expr.Name "isinstance" _) [_, Expr.Name "tuple" _] _ _) _ _ _); refine ax_isi (u := "tuple") (Mods.isinstance $(Lean.mkIdent `M)) (Mods.tuple $(Lean.mkIdent `M)) boot_tuple ?_)
  | ((with_reducible show Ax _ _ (Expr.Call (Expr.Name "isinstance" _) [_, Expr.Tuple [Expr.Name "list" _, Expr.Name "tuple" _] _ _] _ _) _ _ _); refine ax_isi2 (u1 := "list") (u2 := "tuple") (Mods.isinstance $(Lean.mkIdent `M)) (Mods.list $(Lean.mkIdent `M)) (Mods.tuple $(Lean.mkIdent `M)) boot_list boot_tuple ?_)
  | ((with_reducible show ∃ t k, tyD _ = some t ∧ kitB t _ = some k ∧ _); refine ⟨_, _, rfl, by with_reducible (first | exact kit_ii | exact kit_ib | exact kit_tt), ?_⟩)
  | ((with_reducible show S_isInt _ _ _); refine ⟨_, rfl, ?_⟩) | ((with_reducible show S_has _ _ _); refine ⟨_, _, rfl, ?_⟩)
  | ((with_reducible show REq _ _ _ _); refine ⟨_, rfl, ?_⟩) | ((with_reducible show RNe _ _ _ _); refine ⟨_, rfl, ?_⟩) | ((with_reducible show RI _ _ _ _ _); refine ⟨_, _, rfl, rfl, ?_⟩)
  | with_reducible refine ⟨_, _, rfl, rfl, ?_⟩
  | with_reducible refine ⟨_, rfl, ?_⟩
  | ((with_reducible show At _ _ (Expr.Name _ _) _ _ _); refine at_val ?_) | ((with_reducible show At _ _ (Expr.Call _ _ _ _) _ _ _); refine at_val ?_) | ((with_reducible show At _ _ (Expr.Subscript _ _ _) _ _ _); refine at_val ?_))
local macro_rules | `(tactic| walk_at "ev") => `(tactic| repeat walk_at "ev1")
local macro_rules | `(tactic| walk_at "st1") => `(tactic| first
    | ((with_reducible show A1 _ _ (Stmt.Return _ _) _ _ _); refine a1_ret ?_)
    | ((with_reducible show A1 _ _ (Stmt.If _ _ _ _) _ _ _); refine a1_if ?_)
    | ((with_reducible show A1 _ _ (Stmt.Expr _ _) _ _ _); refine a1_drop ?_)
    | ((with_reducible show A1 _ _ (Stmt.Assign [Expr.Name _ _] _ _) _ _ _); refine a1_setU $(Lean.mkIdent `hN) (by walk_at "ix") $(Lean.mkIdent `hnd) ?_)
    | ((with_reducible show A1 _ _ (Stmt.Assign _ _ _) _ _ _); refine a1_asg ?_))
local macro_rules | `(tactic| walk_at "st") => `(tactic| first
  | ((with_reducible show As _ _ [] _ _ _); refine as_nil ?_)
  | (refine as_cons ?_; walk_at "st1"))
local macro_rules | `(tactic| walk_at "newl") => `(tactic| refine as_setU $(Lean.mkIdent `hN) (by walk_at "ix") $(Lean.mkIdent `hnd) (ax_lstC (aa_nil ⟨by decide, ?_⟩)))
local macro_rules | `(tactic| walk_at "for") => `(tactic| (refine as_cons ?_; refine a1_for ?hp ?_ ?hc ?hs; (case hp => exact PassesOwn.never); (case hc => rfl); (case hs => intro _; rfl)))
local macro_rules | `(tactic| walk_at "tgt") => `(tactic| refine ag_nameU $(Lean.mkIdent `hN) (by walk_at "ix") $(Lean.mkIdent `hnd) ?_)
local macro_rules | `(tactic| walk_at "rng") => `(tactic| refine ai_range1 (Mods.range $(Lean.mkIdent `M)) ?_)
local macro_rules | `(tactic| walk_at "while") => `(tactic| (refine as_cons ?_; refine a1_while ?hp ?I ?h0 ?hs; (case hp => exact PassesOwn.never)))
local macro_rules | `(tactic| walk_at "pair") => `(tactic| refine ag_pairU $(Lean.mkIdent `hN) (by walk_at "ix") (by walk_at "ix") $(Lean.mkIdent `hnd) ?hd ?_)
local macro_rules | `(tactic| walk_at "blk") => `(tactic| exact blkOk_by (by decide +kernel))
/-! P4: the tables of bounds -/
theorem Room.u1 {k : Nat} {A : Around} (r : Room k A) : A.units + 1 < cLine := by have := r.un; omega
theorem Room.u64 {k : Nat} {A : Around} (r : Room k A) : A.units + 64 < cLine := by have := r.un; omega
theorem Room.u65 {k : Nat} {A : Around} (r : Room k A) : A.units + 65 < cLine := by have := r.un; omega
/-- a cell is let be, its slot forgotten -/
theorem as_drop {X : Cx} {T : Ent} {ρ : Rho} {cs : Cs} {rest : List Stmt} {E : AE} (i k : Nat) {l : Addr} {c : Ct} (hk : cs[k]? = some (l, c)) (hp : Pre T cs k) (h : As X T rest (ρ.set i none) (cs.eraseIdx k) E) : As X T rest ρ cs E := fun σ F H he hh => by
  obtain ⟨o, g1, g2, e1, h1⟩ := hh.freeze hk hp
  refine wSs_mono (h σ _ H ((he.mono e1).weak (List.length_set ..) fun j d q => ?_) h1) (rE_le e1)
  by_cases hj : i = j
  · subst hj
    rw [List.getElem?_set] at q
    simp at q
  · rwa [List.getElem?_set_ne hj] at q
def rowD (n : Nat) (f : Nat → Nat) : List Dt := (List.range n).map fun y => natD (f y)
def tabD (n : Nat) (J : Nat → Nat → Nat) : List Dt := (List.range n).map fun x => .tup (rowD n (J x))
theorem rowD_get {n x : Nat} {f : Nat → Nat} (h : x < n) : (rowD n f)[x]? = some (natD (f x)) := map_range_get h
theorem tabD_get {n x : Nat} {f : Nat → Nat → Nat} (h : x < n) : (tabD n f)[x]? = some (.tup (rowD n (f x))) := map_range_get h
theorem rowD_len (n : Nat) (f : Nat → Nat) : (rowD n f).length = n := by unfold rowD; rw [List.length_map, List.length_range]
theorem tabD_len (n : Nat) (f : Nat → Nat → Nat) : (tabD n f).length = n := by unfold tabD; rw [List.length_map, List.length_range]
theorem tabD_succ (n i : Nat) (f : Nat → Nat → Nat) : (List.range (i + 1)).map (fun x => Dt.tup (rowD n (f x))) = (List.range i).map (fun x => Dt.tup (rowD n (f x))) ++ [.tup (rowD n (f i))] := by
  rw [List.range_succ, List.map_append]
  rfl
section
variable {P : Program} {w : World} {K : PySem.W.Frag} {mg : Str → Option Value} {base : Heap} {CR : Addr}
abbrev sBt : Stmt := topS 20
abbrev nBt : List Str := ["sets", "places", "x", "rows", "one", "row", "two"]
theorem scBt : FnScope nBt ["sets"] (defScope sBt) := ⟨rfl, rfl, rfl, by decide +kernel, rfl, by decide +kernel, by decide +kernel⟩
def S_bt : List Dt → (Dt → Prop) → (Str → Prop) → Prop := fun ds P _ => ∃ (n : Nat) (s : Nat → Nat) (J : Nat → Nat → Nat), ds = [.lst (rowD n s)] ∧ n ≤ 900 ∧ (∀ x y, x < n → y < n → s x = s y → x = y) ∧ (∀ x y, x < n → y < n → J x y < n ∧ s (J x y) = s x &&& s y) ∧ P (.tup (tabD n J))
theorem ok_bt {f : Addr} {fd : FuncData} (F : Fun K "bounds_table" "bounds_table" sBt f fd) (M : Mods mg) : FnOk P w K mg base CX0 2 f fd ["sets"] (spOf K CR (pureS S_bt)) := by
  refine def_ok F scBt (fun ds cs Pd R ⟨_, n, ps, d, h, _⟩ => by rw [h]; rfl) fun cdv A outer s F H E ds cs Pd R hr ⟨hcs, n, sv, J, hd, hn9, hnd2, hJ, k⟩ => ?_
  subst hcs
  subst hd
  have hnd := scBt.nd
  have hN := cx_N CX0 P w K mg base nBt "bounds_table" (defScope sBt) f cdv A outer s H E
  refine as_setU hN (by walk_at "ix") hnd (ax_dict fun pl => ?_)
  walk_at "for"
  walk_at "rng"
  walk_at "ev"
  refine ⟨_, .inl rfl, n, by rw [rowD_len], by omega, fun i ρ cs => (∃ kvs : List (Key × V), cs = [(pl, .k kvs)] ∧ kvs.length ≤ i ∧ ∀ j, j < i → valV kvs (Sum.inl ((sv j : Nat) : Int)) = some (.int j)) ∧ ∃ z1 z2 z3 z4 z5, ρ = [some (.lst (rowD n sv)), some (.cell pl), z1, z2, z3, z4, z5], ⟨⟨[], rfl, Nat.zero_le _, fun j hj => absurd hj (by omega)⟩, _, _, _, _, _, rfl⟩, ?_, ?_⟩
  · rintro i e ρ' cs' hi ⟨⟨kvs, rfl, hl, hv⟩, z1, z2, z3, z4, z5, rfl⟩
    obtain ⟨hx, rfl⟩ := rng_item hi
    walk_at "tgt"
    refine as_cons (a1_dput (Room.u1 hr) ?_)
    walk_at "ev"
    refine ⟨_, i, _, .inl rfl, rfl, rowD_get hx, 0, pl, kvs, _, _, rfl, rfl, rfl, rfl, by omega, ?_⟩
    walk_at "st"
    refine ⟨⟨_, rfl, by have := length_putK kvs (Sum.inl ((sv i : Nat) : Int)) (.int i); omega, fun j hj => ?_⟩, _, _, _, _, _, rfl⟩
    rw [valV_put]
    by_cases h : (Sum.inl ((sv j : Nat) : Int) : Key) = Sum.inl ((sv i : Nat) : Int)
    · rw [if_pos h]
      have h2 : sv j = sv i := by injection h with h; exact Int.ofNat.inj h
      rw [hnd2 j i (by omega) hx h2]
    · rw [if_neg h]
      refine hv j ?_
      have : j ≠ i := fun e => h (by rw [e])
      omega
  rintro ρ' cs' ⟨⟨kvs, rfl, hl, hv⟩, z1, z2, z3, z4, z5, rfl⟩
  have hv : ∀ j, j < n → valV kvs (Sum.inl ((sv j : Nat) : Int)) = some (.int j) := hv
  walk_at "newl"
  intro rs
  walk_at "for"
  refine ai_seq ?_
  walk_at "ev"
  refine ⟨_, .inl rfl, fun i ρ cs => cs = [(rs, .l ((List.range i).map fun x => Dt.tup (rowD n (J x)))), (pl, .k kvs)] ∧ ∃ z1 z3 z4 z5, ρ = [some (.lst (rowD n sv)), some (.cell pl), z1, some (.cell rs), z3, z4, z5], ⟨rfl, _, _, _, _, rfl⟩, ?_, ?_⟩
  · rintro i e ρ' cs' hi ⟨rfl, z1, z3, z4, z5, rfl⟩
    obtain ⟨hx, rfl⟩ : i < n ∧ natD (sv i) = e := by
      obtain ⟨x, hx, rfl⟩ := item_map hi
      have hx2 := (List.getElem?_eq_some_iff.mp hx).1
      rw [List.length_range] at hx2
      rw [List.getElem?_range hx2] at hx
      cases hx
      exact ⟨hx2, rfl⟩
    walk_at "tgt"
    refine as_cons (a1_lcC hN (by walk_at "ix") hnd (blkOk_by (sc := defScope sBt) (by decide +kernel)) rfl (by walk_at "ix") rfl rfl rfl rfl (ai_seq ?_))
    walk_at "ev"
    refine ⟨_, .inl rfl, by show (rowD n sv).length ≤ 90000; rw [rowD_len]; omega, fun j => some (natD (J i j)), fun j d hj => fun s0 H0 C cl fp D acc => ats_nil ⟨rfl, fun _ _ _ _ _ _ => ?_, fun h => (nomatch h)⟩, fun q => ?_⟩
    · obtain ⟨hy, rfl⟩ : j < n ∧ natD (sv j) = d := by
        obtain ⟨x, hx, rfl⟩ := item_map hj
        have hx2 := (List.getElem?_eq_some_iff.mp hx).1
        rw [List.length_range] at hx2
        rw [List.getElem?_range hx2] at hx
        cases hx
        exact ⟨hx2, rfl⟩
      refine ax_dget (Room.u1 hr) ?_
      walk_at "ev"
      refine ⟨⟨2, kvs, rfl⟩, ?_⟩
      walk_at "ev"
      obtain ⟨hJ1, hJ2⟩ := hJ i j hx hy
      refine ⟨2, kvs, _, _, (J i j : Nat), rfl, rfl, rfl, ?_, rfl, rfl⟩
      rw [← hJ2, hv _ hJ1]
      rfl
    have e0 : (List.range (Src.len (.seq (rowD n sv)))).filterMap (fun j => some (natD (J i j))) = rowD n (J i) := by
      show (List.range (rowD n sv).length).filterMap (fun j => some (natD (J i j))) = rowD n (J i)
      rw [rowD_len, fm_some]
      rfl
    rw [e0]
    refine as_freeze 5 0 rfl rfl ⟨3, by decide, rfl⟩ ?_
    walk_at "st"
    refine at_cmpR (cmp_in rfl) ?_
    walk_at "ev"
    refine ⟨_, (List.range n).map fun y => ((J i y : Nat) : Int), rfl, .inl ?_, ?_⟩
    · rw [List.map_map]
      rfl
    rw [if_neg Bool.false_ne_true]
    refine ⟨fun h => ?_, fun _ => ?_⟩
    · have h := of_decide_eq_true h
      rw [List.mem_map] at h
      obtain ⟨y, _, h⟩ := h
      omega
    walk_at "st"
    walk_at "st"
    refine ax_append ?_
    walk_at "ev"
    refine ⟨⟨0, _, rfl⟩, ?_⟩
    walk_at "ev"
    refine ⟨_, .inl rfl, 0, _, rfl, by rw [List.length_map, List.length_range]; omega, ?_⟩
    walk_at "st"
    refine ⟨?_, _, _, _, _, rfl⟩
    rw [tabD_succ]
    rfl
  rintro ρ' cs' ⟨rfl, z1, z3, z4, z5, rfl⟩
  have e1 : (List.range (Src.len (.seq (rowD n sv)))).map (fun x => Dt.tup (rowD n (J x))) = tabD n J := by
    show (List.range (rowD n sv).length).map (fun x => Dt.tup (rowD n (J x))) = tabD n J
    rw [rowD_len]
    rfl
  rw [e1]
  refine as_freeze 3 0 rfl rfl ⟨2, by decide, rfl⟩ ?_
  refine as_drop 1 0 rfl ⟨1, by decide, rfl⟩ ?_
  walk_at "st"
  walk_at "ev"
  exact ⟨_, .inl rfl, k⟩
end

end G
namespace G
open PySem PySem.Spec PyProof.Rows L2 Evl
local macro_rules | `(tactic| walk_at "ix") => `(tactic| with_reducible (first
  | exact AtN.z | exact AtN.s AtN.z | exact AtN.s (AtN.s AtN.z) | exact AtN.s (AtN.s (AtN.s AtN.z)) | exact AtN.s (AtN.s (AtN.s (AtN.s AtN.z)))
  | exact AtN.s (AtN.s (AtN.s (AtN.s (AtN.s AtN.z)))) | exact AtN.s (AtN.s (AtN.s (AtN.s (AtN.s (AtN.s AtN.z))))) | exact AtN.s (AtN.s (AtN.s (AtN.s (AtN.s (AtN.s (AtN.s AtN.z))))))
  | exact AtN.s (AtN.s (AtN.s (AtN.s (AtN.s (AtN.s (AtN.s (AtN.s AtN.z))))))) | exact AtN.s (AtN.s (AtN.s (AtN.s (AtN.s (AtN.s (AtN.s (AtN.s (AtN.s AtN.z)))))))) | exact AtN.s (AtN.s (AtN.s (AtN.s (AtN.s (AtN.s (AtN.s (AtN.s (AtN.s (AtN.s AtN.z)))))))))
  | exact AtN.s (AtN.s (AtN.s (AtN.s (AtN.s (AtN.s (AtN.s (AtN.s (AtN.s (AtN.s (AtN.s AtN.z))))))))))
  | exact AtN.s (AtN.s (AtN.s (AtN.s (AtN.s (AtN.s (AtN.s (AtN.s (AtN.s (AtN.s (AtN.s (AtN.s AtN.z)))))))))))
  | exact AtN.s (AtN.s (AtN.s (AtN.s (AtN.s (AtN.s (AtN.s (AtN.s (AtN.s (AtN.s (AtN.s (AtN.s (AtN.s AtN.z))))))))))))
  | exact AtN.s (AtN.s (AtN.s (AtN.s (AtN.s (AtN.s (AtN.s (AtN.s (AtN.s (AtN.s (AtN.s (AtN.s (AtN.s (AtN.s AtN.z)))))))))))))
  | exact AtN.s (AtN.s (AtN.s (AtN.s (AtN.s (AtN.s (AtN.s (AtN.s (AtN.s (AtN.s (AtN.s (AtN.s (AtN.s (AtN.s (AtN.s AtN.z))))))))))))))))
local macro_rules | `(tactic| walk_at "ev1") => `(tactic| first
  | with_reducible refine ax_int ?_ | with_reducible refine ax_bl ?_ | with_reducible refine ax_non ?_ | with_reducible refine ax_str ?_
  | ((with_reducible show Ax _ _ (Expr.Name _ _) _ _ _); refine ax_u $(Lean.mkIdent `hN) (by walk_at "ix") rfl ?_)
  | ((with_reducible show Ax _ _ (Expr.Compare _ _ _ _) _ _ _); first | (with_reducible refine ax_cmpR cmp_lt ?_) | (with_reducible refine ax_cmpR cmp_le ?_) | (with_reducible refine ax_cmpR cmp_gt ?_) | (with_reducible refine ax_cmpR cmp_ge ?_) | (with_reducible refine ax_cmpR cmp_eq ?_) | (with_reducible refine ax_cmpR cmp_ne ?_) | (with_reducible refine ax_cmpR cmp_is ?_) | (with_reducible refine ax_cmpR cmp_isN ?_))
  | ((with_reducible show At _ _ (Expr.Compare _ _ _ _) _ _ _); first | (with_reducible refine at_cmpR cmp_lt ?_) | (with_reducible refine at_cmpR cmp_le ?_) | (with_reducible refine at_cmpR cmp_gt ?_) | (with_reducible refine at_cmpR cmp_ge ?_) | (with_reducible refine at_cmpR cmp_eq ?_) | (with_reducible refine at_cmpR cmp_ne ?_) | (with_reducible refine at_cmpR cmp_is ?_) | (with_reducible refine at_cmpR cmp_isN ?_))
  | with_reducible refine ax_add ?_ | with_reducible refine ax_sub ?_ | with_reducible refine ax_mul ?_ | with_reducible refine ax_fdiv ?_ | with_reducible refine ax_mod ?_ | with_reducible refine ax_shl ?_ | with_reducible refine ax_shr ?_ | with_reducible refine ax_and ?_ | with_reducible refine ax_or ?_ | with_reducible refine ax_neg ?_
  | with_reducible refine ax_one ?_ | with_reducible refine ax_andv ?_ | with_reducible refine ax_orv ?_ | with_reducible refine ax_notv ?_ | with_reducible refine at_one ?_ | with_reducible refine at_and ?_ | with_reducible refine at_or ?_ | with_reducible refine at_not ?_ | with_reducible refine ax_if ?_
  | ((with_reducible show Ax _ _ (Expr.Subscript _ _ _) _ _ _); refine ax_ix ?_) | with_reducible refine ax_tup ?_ | ((with_reducible show Aa _ _ (_ :: _) _ _ _); refine aa_cons ?_) | with_reducible refine aa_nil ?_
  | ((with_reducible show Ax _ _ (Expr.Call (Expr.Name "len" _) _ _ _) _ _ _); refine ax_len (Mods.len $(Lean.mkIdent `M)) ?_)
  | ((with_reducible show Ax _ _ (Expr.Call (Expr.Name "int" _) _ _ _) _ _ _); refine ax_int1 (Mods.int $(Lean.mkIdent `M)) ?_)
  | ((with_reducible show Ax _ _ (Expr.Call (Expr.Name "abs" _) _ _ _) _ _ _); refine ax_abs (Mods.abs $(Lean.mkIdent `M)) ?_)
  | ((with_reducible show Ax _ _ (Expr.Call (Expr.Name "tuple" _) _ _ _) _ _ _); refine ax_tuple (Mods.tuple $(Lean.mkIdent `M)) ?_)
  | ((with_reducible show Ax _ _ (Expr.Call (Expr.Name "has" _) _ _ _) _ _ _); refine ax_call $(Lean.mkIdent `cHas) (Room.mono $(Lean.mkIdent `hr) (by decide)) pas0 ?_)
  | ((with_reducible show Ax _ _ (Expr.Call (Expr.Name "set_of" _) _ _ _) _ _ _); refine ax_call $(Lean.mkIdent `cSetOf) (Room.mono $(Lean.mkIdent `hr) (by decide)) pas0 ?_)
  | ((with_reducible show Ax _ _ (Expr.Call (Expr.Name "members" _) _ _ _) _ _ _); refine ax_call $(Lean.mkIdent `cMembers) (Room.mono $(Lean.mkIdent `hr) (by decide)) pas0 ?_)
  | ((with_reducible show Ax _ _ (Expr.Call (Expr.Name "is_integer" _) _ _ _) _ _ _); refine ax_call $(Lean.mkIdent `cIsInt) (Room.mono $(Lean.mkIdent `hr) (by decide)) pas0 ?_)
  | ((with_reducible show Ax _ _ (Expr.Call (Expr.Attribute _ "bit_length" _) _ _ _) _ _ _); refine ax_bits ?_)
  | ((with_reducible show Ax _ _ (Expr.Call (Expr.Name "isinstance" _) [_, Expr.Name "int" _] _ _) _ _ _); refine ax_isi (u := "int") (Mods.isinstance $(Lean.mkIdent `M)) (Mods.int $(Lean.mkIdent `M)) boot_int ?_)
  | ((with_reducible show Ax _ _ (Expr.Call (Expr.Name "isinstance" _) [_, Expr.Name "bool" _] _ _) _ _ _); refine ax_isi (u := "bool") (Mods.isinstance $(Lean.mkIdent `M)) (Mods.bool $(Lean.mkIdent `M)) boot_bool ?_)
  | ((with_reducible show Ax _ _ (Expr.Call (Expr.Name "isinstance" _) [_, Expr.Name "tuple" _] _ _) _ _ _); refine ax_isi (u := "tuple") (Mods.isinstance $(Lean.mkIdent `M)) (Mods.tuple $(Lean.mkIdent `M)) boot_tuple ?_)
  | ((with_reducible show Ax _ _ (Expr.Call (Expr.Name "isinstance" _) [_, Expr.Tuple [Expr.Name "list" _, Expr.Name "tuple" _] _ _] _ _) _ _ _); refine ax_isi2 (u1 := "list") (u2 := "tuple") (Mods.isinstance $(Lean.mkIdent `M)) (Mods.list $(Lean.mkIdent `M)) (Mods.tuple $(Lean.mkIdent `M)) boot_list boot_tuple ?_)
  | ((with_reducible show ∃ t k, tyD _ = some t ∧ kitB t _ = some k ∧ _); refine ⟨_, _, rfl, by with_reducible (first | exact kit_ii | exact kit_ib | exact kit_tt), ?_⟩)
  | ((with_reducible show S_isInt _ _ _); refine ⟨_, rfl, ?_⟩) | ((with_reducible show S_has _ _ _); refine ⟨_, _, rfl, ?_⟩)
  | ((with_reducible show REq _ _ _ _); refine ⟨_, rfl, ?_⟩) | ((with_reducible show RNe _ _ _ _); refine ⟨_, rfl, ?_⟩) | ((with_reducible show RI _ _ _ _ _); refine ⟨_, _, rfl, rfl, ?_⟩)
  | with_reducible refine ⟨_, _, rfl, rfl, ?_⟩
  | with_reducible refine ⟨_, rfl, ?_⟩
  | ((with_reducible show At _ _ (Expr.Name _ _) _ _ _); refine at_val ?_) | ((with_reducible show At _ _ (Expr.Call _ _ _ _) _ _ _); refine at_val ?_) | ((with_reducible show At _ _ (Expr.Subscript _ _ _) _ _ _); refine at_val ?_))
local macro_rules | `(tactic| walk_at "ev") => `(tactic| repeat walk_at "ev1")
local macro_rules | `(tactic| walk_at "st1") => `(tactic| first
    | ((with_reducible show A1 _ _ (Stmt.Return _ _) _ _ _); refine a1_ret ?_)
    | ((with_reducible show A1 _ _ (Stmt.If _ _ _ _) _ _ _); refine a1_if ?_)
    | ((with_reducible show A1 _ _ (Stmt.Expr _ _) _ _ _); refine a1_drop ?_)
    | ((with_reducible show A1 _ _ (Stmt.Assign [Expr.Name _ _] _ _) _ _ _); refine a1_setU $(Lean.mkIdent `hN) (by walk_at "ix") $(Lean.mkIdent `hnd) ?_)
    | ((with_reducible show A1 _ _ (Stmt.Assign _ _ _) _ _ _); refine a1_asg ?_))
local macro_rules | `(tactic| walk_at "st") => `(tactic| first
  | ((with_reducible show As _ _ [] _ _ _); refine as_nil ?_)
  | (refine as_cons ?_; walk_at "st1"))
local macro_rules | `(tactic| walk_at "newl") => `(tactic| refine as_setU $(Lean.mkIdent `hN) (by walk_at "ix") $(Lean.mkIdent `hnd) (ax_lstC (aa_nil ⟨by decide, ?_⟩)))
local macro_rules | `(tactic| walk_at "for") => `(tactic| (refine as_cons ?_; refine a1_for ?hp ?_ ?hc ?hs; (case hp => exact PassesOwn.never); (case hc => rfl); (case hs => intro _; rfl)))
local macro_rules | `(tactic| walk_at "tgt") => `(tactic| refine ag_nameU $(Lean.mkIdent `hN) (by walk_at "ix") $(Lean.mkIdent `hnd) ?_)
local macro_rules | `(tactic| walk_at "rng") => `(tactic| refine ai_range1 (Mods.range $(Lean.mkIdent `M)) ?_)
local macro_rules | `(tactic| walk_at "while") => `(tactic| (refine as_cons ?_; refine a1_while ?hp ?I ?h0 ?hs; (case hp => exact PassesOwn.never)))
local macro_rules | `(tactic| walk_at "pair") => `(tactic| refine ag_pairU $(Lean.mkIdent `hN) (by walk_at "ix") (by walk_at "ix") $(Lean.mkIdent `hnd) ?hd ?_)
local macro_rules | `(tactic| walk_at "blk") => `(tactic| exact blkOk_by (by decide +kernel))
/-! P5: the making of a lattice -/
section
variable {X : Cx} {T : Ent} {ρ : Rho} {cs : Cs} {elt iter : Expr} {ifs : List Expr} {scope scope1 sc : Scope} {pos : Pos} {N0 : List Str} {s0 : Shared} {H0 : Hp} {C0 : Addr} {cl0 : List (Str × Addr)} {fp0 : List Addr}
/-- a comprehension within a comprehension -/
theorem ax_lcQ2 {j : Nat} {x : Str} {px : Pos} {P : Dt → Cs → Prop} (hN : X.N = N0) (ha : AtN N0 j x) (hnd : N0.Nodup) (hsc : X.env.scope = sc) (hok : BlkOk N0 (relS scope1 sc) scope [(x, j)])
    (h : Ai (Bk X scope1 s0 H0 C0 cl0 fp0) T (.Name x px) iter ρ cs fun src cs1 => src.len ≤ 90000 ∧ Sfx T cs1 ∧ ∃ g : Nat → Option Dt, (∀ i d, src.item i = some d → TurnQ (Bk X scope1 s0 H0 C0 cl0 fp0) T scope elt ifs ((ρ.set j none).set j (some d)) cs1 (g i)) ∧ P (.lst ((List.range src.len).filterMap g)) cs1)
    (hx : LocB scope (Bk X scope1 s0 H0 C0 cl0 fp0).env.scope x := by first | exact .inl rfl | exact .inr ⟨rfl, rfl⟩) (hc : X.calm = true := by rfl) (hs : ∀ x, foldedSetIterable iter (Bk X scope1 s0 H0 C0 cl0 fp0).env x = pure x := by intro _; rfl) :
    Ax (Bk X scope1 s0 H0 C0 cl0 fp0) T (.ListComp elt [⟨.Name x px, iter, ifs, 0⟩] scope pos) ρ cs P :=
  ax_lcQ (X := Bk X scope1 s0 H0 C0 cl0 fp0) hN ha hnd hok (by subst hsc; rfl) h hx hc hs
end
/-- at or above -/
def leR (R : Rl) : Rl := fun x y => R x y || decide (y = x)
theorem setOf_filter (n : Nat) (p : Nat → Bool) : setOf ((List.range n).filter p) = bitsOf n p := by
  induction n with
  | zero => rfl
  | succ n ih =>
    show setOf _ = bitsOf n p ||| (if p n then 2 ^ n else 0)
    rw [List.range_succ, List.filter_append, ← ih]
    by_cases h : p n = true
    · rw [if_pos h, List.filter_cons, if_pos h]
      show setOf (_ ++ [n]) = _
      unfold setOf
      rw [List.foldl_append]
      rfl
    · rw [if_neg h, List.filter_cons, if_neg h, Nat.or_zero]
      show setOf (_ ++ []) = _
      rw [List.append_nil]
/-- a lattice on the points below n: the strict order, joins, meets -/
structure LatOk (n : Nat) (R : Rl) (J M : Nat → Nat → Nat) : Prop where
  pos : 0 < n
  irr : ∀ x, x < n → R x x = false
  tr : ∀ x y z, x < n → y < n → z < n → R x y = true → R y z = true → R x z = true
  jn : ∀ x y, x < n → y < n → J x y < n ∧ ∀ z, z < n → leR R (J x y) z = (leR R x z && leR R y z)
  mt : ∀ x y, x < n → y < n → M x y < n ∧ ∀ z, z < n → leR R z (M x y) = (leR R z x && leR R z y)
theorem leR_refl (R : Rl) (x : Nat) : leR R x x = true := by unfold leR; rw [decide_eq_true rfl, Bool.or_true]
theorem LatOk.anti {n : Nat} {R : Rl} {J M : Nat → Nat → Nat} (L : LatOk n R J M) {x y : Nat} (hx : x < n) (hy : y < n) (h1 : leR R x y = true) (h2 : leR R y x = true) : x = y := by
  unfold leR at h1 h2
  rw [Bool.or_eq_true, decide_eq_true_iff] at h1 h2
  rcases h1 with h1 | h1
  · rcases h2 with h2 | h2
    · have := L.tr x y x hx hy hx h1 h2
      rw [L.irr x hx] at this
      cases this
    · exact h2
  · exact h1.symm
abbrev latF : List Str := ["above", "joins", "meets"]
def latD (CL : Addr) (n : Nat) (R : Rl) (J M : Nat → Nat → Nat) : Dt := .ins CL latF [.tup (rowsD n R), .tup (tabD n J), .tup (tabD n M)]
/-- what of the lattice's class is asked -/
structure LatC (K : PySem.W.Frag) (CL : Addr) : Prop where
  cl : Cls K CL
  a : NoAttr K CL "above"
  j : NoAttr K CL "joins"
  m : NoAttr K CL "meets"
section
variable {P : Program} {w : World} {K : PySem.W.Frag} {mg : Str → Option Value} {base : Heap} {CR CL : Addr}
abbrev sLatI : Stmt := inClass (topS 21) 0
abbrev nLatI : List Str := ["self", "n", "pairs", "ups", "x", "downs", "y"]
theorem scLatI : FnScope nLatI ["self", "n", "pairs"] (defScope sLatI) := ⟨rfl, rfl, rfl, by decide +kernel, rfl, by decide +kernel, by decide +kernel⟩
def S_latI (CL : Addr) : Sd := fun ds cs P _ => ∃ (y : Addr) (n : Nat) (ps : List (Nat × Nat)) (d : Dt) (J M : Nat → Nat → Nat), ds = [.cell y, natD n, d] ∧ cs = [(y, .o CL [] [])] ∧ n ≤ 64 ∧ (d = .lst (ps.map pairN) ∨ d = .tup (ps.map pairN)) ∧ InR n ps ∧ LatOk n (war n (rel ps)) J M ∧
  P .non [(y, .o CL latF [.tup (rowsD n (war n (rel ps))), .tup (tabD n J), .tup (tabD n M)])]
set_option maxHeartbeats 8000000 in
theorem ok_latI {f : Addr} {fd : FuncData} (F : Fun K "__init__" "Lattice.__init__" sLatI f fd) (M : Mods mg) (cC : LatC K CL) (cHas : Fo P w K mg base CX0 CR 1 "has" (pureS S_has)) (cIsInt : Fo P w K mg base CX0 CR 1 "is_integer" (pureS S_isInt)) (cSetOf : Fo P w K mg base CX0 CR 1 "set_of" (pureS S_setOf))
    (cChk : Fo P w K mg base CX0 CR 2 "checked_pairs" (pureS S_chkL)) (cClos : Fo P w K mg base CX0 CR 2 "closed_above" (pureS S_closA)) (cBt : Fo P w K mg base CX0 CR 2 "bounds_table" (pureS S_bt)) : FnOk P w K mg base CX0 3 f fd ["self", "n", "pairs"] (spOf K CR (S_latI CL)) := by
  refine def_ok F scLatI (fun ds cs Pd R ⟨_, n, ps, d, _, _, h, _⟩ => by rw [h]; rfl) fun cdv A outer s F H E ds cs Pd R hr ⟨a, n, ps, d, J, Mt, hd, hcs, hn, hdd, hin, L, k⟩ => ?_
  subst hcs
  subst hd
  have hnd := scLatI.nd
  have hN := cx_N CX0 P w K mg base nLatI "Lattice.__init__" (defScope sLatI) f cdv A outer s H E
  generalize hR : war n (rel ps) = R at *
  obtain ⟨tm, hm⟩ := M.members
  walk_at "st"
  walk_at "ev"
  refine ⟨fun _ => ?_, fun h => (nomatch h)⟩
  walk_at "ev"
  refine ax_gint rfl hm (by decide) ?_
  walk_at "ev"
  refine ⟨fun h => absurd (of_decide_eq_true h) (by omega), fun _ => ?_⟩
  walk_at "st"
  walk_at "st"
  walk_at "ev"
  refine ⟨fun h => (nomatch h), fun _ => ?_⟩
  walk_at "ev"
  refine ⟨fun h => absurd (of_decide_eq_true h) (by omega), fun _ => ?_⟩
  walk_at "st"
  refine as_cons (a1_fld cC.cl cC.a ?_)
  refine ax_call cClos (Room.mono hr (by decide)) pas0 ?_
  walk_at "ev"
  refine ax_call cChk (Room.mono hr (by decide)) pas0 ?_
  walk_at "ev"
  refine ⟨n, ps, d, rfl, hdd, hin, ?_⟩
  walk_at "ev"
  refine ⟨n, ps, d, rfl, by omega, hdd, hin, by rw [hR]; exact L.irr, ?_⟩
  rw [hR]
  walk_at "ev"
  refine ⟨0, a, [], [], rfl, rfl, by simp, by decide, ?_⟩
  refine as_setU hN (by walk_at "ix") hnd (ax_lcC hN (by walk_at "ix") hnd (blkOk_by (sc := defScope sLatI) (by decide +kernel)) rfl (ai_range1 M.range ?_))
  walk_at "ev"
  refine ⟨by omega, by show n ≤ 90000; omega, fun x => some (natD (bitsOf n (leR R x))), fun i d hi => fun s0 H0 C cl fp D acc => ats_nil ⟨rfl, fun _ _ _ _ _ _ => ?_, fun h => (nomatch h)⟩, fun p => ?_⟩
  · obtain ⟨hx, rfl⟩ := rng_item hi
    walk_at "ev"
    refine ax_fld cC.cl cC.a ?_
    walk_at "ev"
    refine ⟨_, _, 0, _, .inr ⟨1, a, rfl, rfl⟩, rfl, by decide, rfl, ?_⟩
    walk_at "ev"
    refine ⟨_, i, _, .inr (.inl rfl), rfl, rowsD_get hx, ?_⟩
    walk_at "ev"
    refine ⟨i, rfl, rfl, by omega, ?_⟩
    walk_at "ev"
    rw [bitsOf_one hx]
    exact ⟨rfl, rfl⟩
  have e0 : (List.range (Src.len (.rng 0 n))).filterMap (fun x => some (natD (bitsOf n (leR R x)))) = rowD n (fun x => bitsOf n (leR R x)) := fm_some _ _
  rw [e0]
  refine as_freeze 3 0 rfl rfl ⟨1, by decide, rfl⟩ ?_
  refine as_cons (a1_lcC hN (by walk_at "ix") hnd (blkOk_by (sc := defScope sLatI) (by decide +kernel)) rfl (by walk_at "ix") rfl rfl rfl rfl (ai_range1 M.range ?_))
  walk_at "ev"
  refine ⟨by omega, by show n ≤ 90000; omega, fun y => some (natD (bitsOf n fun x => leR R x y)), fun i d hi => fun s0 H0 C cl fp D acc => ats_nil ⟨rfl, fun _ _ _ _ _ _ => ?_, fun h => (nomatch h)⟩, fun p => ?_⟩
  · obtain ⟨hy, rfl⟩ := rng_item hi
    walk_at "ev"
    refine ax_lcQ2 hN (by walk_at "ix") hnd (sc := defScope sLatI) rfl (blkOk_by (by decide +kernel)) (ai_range1 M.range ?_)
    walk_at "ev"
    refine ⟨by omega, by show n ≤ 90000; omega, ⟨1, rfl⟩, fun x => if leR R x i then some (natD x) else none, fun x d hxi => ?_, ?_⟩
    · obtain ⟨hx, rfl⟩ := rng_item hxi
      intro s0 H0 C cl fp D acc
      refine ats_one ?_
      walk_at "ev"
      refine ⟨_, x, _, .inl rfl, rfl, rowD_get hx, ?_⟩
      walk_at "ev"
      rw [bit_row hy]
      refine ⟨rfl, fun hk _ _ _ _ _ => ?_, fun hk => if_neg (by rw [hk]; exact Bool.false_ne_true)⟩
      walk_at "ev"
      exact ⟨rfl, if_pos hk⟩
    · have e3 : (List.range (Src.len (.rng 0 n))).filterMap (fun x => if leR R x i then some (natD x) else none) = ((List.range n).filter fun x => leR R x i).map natD := fm_filter n (fun x => leR R x i) natD
      rw [e3]
      walk_at "ev"
      refine ⟨_, rfl, fun x hx => ?_, ?_⟩
      · have := List.mem_range.mp (List.mem_filter.mp hx).1
        omega
      rw [setOf_filter]
      exact ⟨rfl, rfl⟩
  have e2 : (List.range (Src.len (.rng 0 n))).filterMap (fun y => some (natD (bitsOf n fun x => leR R x y))) = rowD n (fun y => bitsOf n fun x => leR R x y) := fm_some _ _
  rw [e2]
  refine as_freeze 5 0 rfl rfl ⟨1, by decide, rfl⟩ ?_
  refine as_cons (a1_fld cC.cl cC.j ?_)
  refine ax_call cBt (Room.mono hr (by decide)) pas0 ?_
  walk_at "ev"
  refine ⟨n, _, J, rfl, by omega, fun x y hx hy h => ?_, fun x y hx hy => ⟨(L.jn x y hx hy).1, ?_⟩, ?_⟩
  · refine L.anti hx hy ?_ ?_
    · rw [bitsOf_inj h hy]
      exact leR_refl R y
    · rw [← bitsOf_inj h hx]
      exact leR_refl R x
  · rw [bitsOf_and]
    exact bitsOf_congr fun z hz => (L.jn x y hx hy).2 z hz
  walk_at "ev"
  refine ⟨0, a, _, _, rfl, rfl, by decide, by decide, ?_⟩
  refine as_cons (a1_fld cC.cl cC.m ?_)
  refine ax_call cBt (Room.mono hr (by decide)) pas0 ?_
  walk_at "ev"
  refine ⟨n, _, Mt, rfl, by omega, fun x y hx hy h => ?_, fun x y hx hy => ⟨(L.mt x y hx hy).1, ?_⟩, ?_⟩
  · refine L.anti hx hy ?_ ?_
    · rw [← bitsOf_inj h hx]
      exact leR_refl R x
    · rw [bitsOf_inj h hy]
      exact leR_refl R y
  · rw [bitsOf_and]
    exact bitsOf_congr fun z hz => (L.mt x y hx hy).2 z hz
  walk_at "ev"
  refine ⟨0, a, _, _, rfl, rfl, by decide, by decide, ?_⟩
  have hpos := L.pos
  walk_at "st"
  walk_at "ev"
  refine ⟨fun h => absurd (of_decide_eq_true h) (by omega), fun _ => ?_⟩
  walk_at "ev"
  refine ax_fld cC.cl cC.j ?_
  walk_at "ev"
  refine ⟨_, _, 1, _, .inr ⟨0, a, rfl, rfl⟩, rfl, by decide, rfl, ?_⟩
  walk_at "ev"
  refine .inl ⟨rfl, fun h => (nomatch h), fun _ => ?_⟩
  walk_at "ev"
  refine ax_fld cC.cl cC.m ?_
  walk_at "ev"
  refine ⟨_, _, 2, _, .inr ⟨0, a, rfl, rfl⟩, rfl, by decide, rfl, ?_⟩
  walk_at "ev"
  refine .inl ⟨rfl, fun h => (nomatch h), fun _ => ?_⟩
  walk_at "st"
  walk_at "st"
  exact k
end

end G
namespace G
open PySem PySem.Spec PyProof.Rows L2 Evl
local macro_rules | `(tactic| walk_at "ix") => `(tactic| with_reducible (first
  | exact AtN.z | exact AtN.s AtN.z | exact AtN.s (AtN.s AtN.z) | exact AtN.s (AtN.s (AtN.s AtN.z)) | exact AtN.s (AtN.s (AtN.s (AtN.s AtN.z)))
  | exact AtN.s (AtN.s (AtN.s (AtN.s (AtN.s AtN.z)))) | exact AtN.s (AtN.s (AtN.s (AtN.s (AtN.s (AtN.s AtN.z))))) | exact AtN.s (AtN.s (AtN.s (AtN.s (AtN.s (AtN.s (AtN.s AtN.z))))))
  | exact AtN.s (AtN.s (AtN.s (AtN.s (AtN.s (AtN.s (AtN.s (AtN.s AtN.z))))))) | exact AtN.s (AtN.s (AtN.s (AtN.s (AtN.s (AtN.s (AtN.s (AtN.s (AtN.s AtN.z)))))))) | exact AtN.s (AtN.s (AtN.s (AtN.s (AtN.s (AtN.s (AtN.s (AtN.s (AtN.s (AtN.s AtN.z)))))))))
  | exact AtN.s (AtN.s (AtN.s (AtN.s (AtN.s (AtN.s (AtN.s (AtN.s (AtN.s (AtN.s (AtN.s AtN.z))))))))))
  | exact AtN.s (AtN.s (AtN.s (AtN.s (AtN.s (AtN.s (AtN.s (AtN.s (AtN.s (AtN.s (AtN.s (AtN.s AtN.z)))))))))))
  | exact AtN.s (AtN.s (AtN.s (AtN.s (AtN.s (AtN.s (AtN.s (AtN.s (AtN.s (AtN.s (AtN.s (AtN.s (AtN.s AtN.z))))))))))))
  | exact AtN.s (AtN.s (AtN.s (AtN.s (AtN.s (AtN.s (AtN.s (AtN.s (AtN.s (AtN.s (AtN.s (AtN.s (AtN.s (AtN.s AtN.z)))))))))))))
  | exact AtN.s (AtN.s (AtN.s (AtN.s (AtN.s (AtN.s (AtN.s (AtN.s (AtN.s (AtN.s (AtN.s (AtN.s (AtN.s (AtN.s (AtN.s AtN.z))))))))))))))))
local macro_rules | `(tactic| walk_at "ev1") => `(tactic| first
  | with_reducible refine ax_int ?_ | with_reducible refine ax_bl ?_ | with_reducible refine ax_non ?_ | with_reducible refine ax_str ?_
  | ((with_reducible show Ax _ _ (Expr.Name _ _) _ _ _); refine ax_u $(Lean.mkIdent `hN) (by walk_at "ix") rfl ?_)
  | ((with_reducible show Ax _ _ (Expr.Compare _ _ _ _) _ _ _); first | (with_reducible refine ax_cmpR cmp_lt ?_) | (with_reducible refine ax_cmpR cmp_le ?_) | (with_reducible refine ax_cmpR cmp_gt ?_) | (with_reducible refine ax_cmpR cmp_ge ?_) | (with_reducible refine ax_cmpR cmp_eq ?_) | (with_reducible refine ax_cmpR cmp_ne ?_) | (with_reducible refine ax_cmpR cmp_is ?_) | (with_reducible refine ax_cmpR cmp_isN ?_))
  | ((with_reducible show At _ _ (Expr.Compare _ _ _ _) _ _ _); first | (with_reducible refine at_cmpR cmp_lt ?_) | (with_reducible refine at_cmpR cmp_le ?_) | (with_reducible refine at_cmpR cmp_gt ?_) | (with_reducible refine at_cmpR cmp_ge ?_) | (with_reducible refine at_cmpR cmp_eq ?_) | (with_reducible refine at_cmpR cmp_ne ?_) | (with_reducible refine at_cmpR cmp_is ?_) | (with_reducible refine at_cmpR cmp_isN ?_))
  | with_reducible refine ax_add ?_ | with_reducible refine ax_sub ?_ | with_reducible refine ax_mul ?_ | with_reducible refine ax_fdiv ?_ | with_reducible refine ax_mod ?_ | with_reducible refine ax_shl ?_ | with_reducible refine ax_shr ?_ | with_reducible refine ax_and ?_ | with_reducible refine ax_or ?_ | with_reducible refine ax_neg ?_
  | with_reducible refine ax_one ?_ | with_reducible refine ax_andv ?_ | with_reducible refine ax_orv ?_ | with_reducible refine ax_notv ?_ | with_reducible refine at_one ?_ | with_reducible refine at_and ?_ | with_reducible refine at_or ?_ | with_reducible refine at_not ?_ | with_reducible refine ax_if ?_
  | ((with_reducible show Ax _ _ (Expr.Subscript _ _ _) _ _ _); refine ax_ix ?_) | with_reducible refine ax_tup ?_ | ((with_reducible show Aa _ _ (_ :: _) _ _ _); refine aa_cons ?_) | with_reducible refine aa_nil ?_
  | ((with_reducible show Ax _ _ (Expr.Call (Expr.Name "len" _) _ _ _) _ _ _); refine ax_len (Mods.len $(Lean.mkIdent `M)) ?_)
  | ((with_reducible show Ax _ _ (Expr.Call (Expr.Name "int" _) _ _ _) _ _ _); refine ax_int1 (Mods.int $(Lean.mkIdent `M)) ?_)
  | ((with_reducible show Ax _ _ (Expr.Call (Expr.Name "abs" _) _ _ _) _ _ _); refine ax_abs (Mods.abs $(Lean.mkIdent `M)) ?_)
  | ((with_reducible show Ax _ _ (Expr.Call (Expr.Name "tuple" _) _ _ _) _ _ _); refine ax_tuple (Mods.tuple $(Lean.mkIdent `M)) ?_)
  | ((with_reducible show Ax _ _ (Expr.Call (Expr.Name "has" _) _ _ _) _ _ _); refine ax_call $(Lean.mkIdent `cHas) (Room.mono $(Lean.mkIdent `hr) (by decide)) pas0 ?_)
  | ((with_reducible show Ax _ _ (Expr.Call (Expr.Name "set_of" _) _ _ _) _ _ _); refine ax_call $(Lean.mkIdent `cSetOf) (Room.mono $(Lean.mkIdent `hr) (by decide)) pas0 ?_)
  | ((with_reducible show Ax _ _ (Expr.Call (Expr.Name "members" _) _ _ _) _ _ _); refine ax_call $(Lean.mkIdent `cMembers) (Room.mono $(Lean.mkIdent `hr) (by decide)) pas0 ?_)
  | ((with_reducible show Ax _ _ (Expr.Call (Expr.Name "is_integer" _) _ _ _) _ _ _); refine ax_call $(Lean.mkIdent `cIsInt) (Room.mono $(Lean.mkIdent `hr) (by decide)) pas0 ?_)
  | ((with_reducible show Ax _ _ (Expr.Call (Expr.Attribute _ "bit_length" _) _ _ _) _ _ _); refine ax_bits ?_)
  | ((with_reducible show Ax _ _ (Expr.Call (Expr.Name "isinstance" _) [_, Expr.Name "int" _] _ _) _ _ _); refine ax_isi (u := "int") (Mods.isinstance $(Lean.mkIdent `M)) (Mods.int $(Lean.mkIdent `M)) boot_int ?_)
  | ((with_reducible show Ax _ _ (Expr.Call (Expr.Name "isinstance" _) [_, Expr.Name "bool" _] _ _) _ _ _); refine ax_isi (u := "bool") (Mods.isinstance $(Lean.mkIdent `M)) (Mods.bool $(Lean.mkIdent `M)) boot_bool ?_)
  | ((with_reducible show Ax _ _ (Expr.Call (Expr.Name "isinstance" _) [_, Expr.Name "tuple" _] _ _) _ _ _); refine ax_isi (u := "tuple") (Mods.isinstance $(Lean.mkIdent `M)) (Mods.tuple $(Lean.mkIdent `M)) boot_tuple ?_)
  | ((with_reducible show Ax _ _ (Expr.Call (Expr.Name "isinstance" _) [_, Expr.Tuple [Expr.Name "list" _, Expr.Name "tuple" _] _ _] _ _) _ _ _); refine ax_isi2 (u1 := "list") (u2 := "tuple") (Mods.isinstance $(Lean.mkIdent `M)) (Mods.list $(Lean.mkIdent `M)) (Mods.tuple $(Lean.mkIdent `M)) boot_list boot_tuple ?_)
  | ((with_reducible show ∃ t k, tyD _ = some t ∧ kitB t _ = some k ∧ _); refine ⟨_, _, rfl, by with_reducible (first | exact kit_ii | exact kit_ib | exact kit_tt), ?_⟩)
  | ((with_reducible show S_isInt _ _ _); refine ⟨_, rfl, ?_⟩) | ((with_reducible show S_has _ _ _); refine ⟨_, _, rfl, ?_⟩)
  | ((with_reducible show REq _ _ _ _); refine ⟨_, rfl, ?_⟩) | ((with_reducible show RNe _ _ _ _); refine ⟨_, rfl, ?_⟩) | ((with_reducible show RI _ _ _ _ _); refine ⟨_, _, rfl, rfl, ?_⟩)
  | with_reducible refine ⟨_, _, rfl, rfl, ?_⟩
  | with_reducible refine ⟨_, rfl, ?_⟩
  | ((with_reducible show At _ _ (Expr.Name _ _) _ _ _); refine at_val ?_) | ((with_reducible show At _ _ (Expr.Call _ _ _ _) _ _ _); refine at_val ?_) | ((with_reducible show At _ _ (Expr.Subscript _ _ _) _ _ _); refine at_val ?_))
local macro_rules | `(tactic| walk_at "ev") => `(tactic| repeat walk_at "ev1")
local macro_rules | `(tactic| walk_at "st1") => `(tactic| first
    | ((with_reducible show A1 _ _ (Stmt.Return _ _) _ _ _); refine a1_ret ?_)
    | ((with_reducible show A1 _ _ (Stmt.If _ _ _ _) _ _ _); refine a1_if ?_)
    | ((with_reducible show A1 _ _ (Stmt.Expr _ _) _ _ _); refine a1_drop ?_)
    | ((with_reducible show A1 _ _ (Stmt.Assign [Expr.Name _ _] _ _) _ _ _); refine a1_setU $(Lean.mkIdent `hN) (by walk_at "ix") $(Lean.mkIdent `hnd) ?_)
    | ((with_reducible show A1 _ _ (Stmt.Assign _ _ _) _ _ _); refine a1_asg ?_))
local macro_rules | `(tactic| walk_at "st") => `(tactic| first
  | ((with_reducible show As _ _ [] _ _ _); refine as_nil ?_)
  | (refine as_cons ?_; walk_at "st1"))
local macro_rules | `(tactic| walk_at "newl") => `(tactic| refine as_setU $(Lean.mkIdent `hN) (by walk_at "ix") $(Lean.mkIdent `hnd) (ax_lstC (aa_nil ⟨by decide, ?_⟩)))
local macro_rules | `(tactic| walk_at "for") => `(tactic| (refine as_cons ?_; refine a1_for ?hp ?_ ?hc ?hs; (case hp => exact PassesOwn.never); (case hc => rfl); (case hs => intro _; rfl)))
local macro_rules | `(tactic| walk_at "tgt") => `(tactic| refine ag_nameU $(Lean.mkIdent `hN) (by walk_at "ix") $(Lean.mkIdent `hnd) ?_)
local macro_rules | `(tactic| walk_at "rng") => `(tactic| refine ai_range1 (Mods.range $(Lean.mkIdent `M)) ?_)
local macro_rules | `(tactic| walk_at "while") => `(tactic| (refine as_cons ?_; refine a1_while ?hp ?I ?h0 ?hs; (case hp => exact PassesOwn.never)))
local macro_rules | `(tactic| walk_at "pair") => `(tactic| refine ag_pairU $(Lean.mkIdent `hN) (by walk_at "ix") (by walk_at "ix") $(Lean.mkIdent `hnd) ?hd ?_)
local macro_rules | `(tactic| walk_at "blk") => `(tactic| exact blkOk_by (by decide +kernel))
/-! P6: the lattice's methods -/
theorem filter_more {b : Nat} {p : Nat → Bool} (hp : ∀ x, b ≤ x → p x = false) : ∀ k, (List.range (b + k)).filter p = (List.range b).filter p
  | 0 => rfl
  | k + 1 => by
    rw [← Nat.add_assoc, List.range_succ, List.filter_append, filter_more hp k, List.filter_cons, hp (b + k) (by omega), if_neg Bool.false_ne_true]
    exact List.append_nil _
theorem members_bits (n : Nat) (f : Nat → Bool) : membersN (bitsOf n f) = (List.range n).filter f := by
  have hb := intBits_le (bitsOf_lt n f)
  have h1 : (List.range n).filter f = (List.range n).filter (bitsOf n f).testBit := List.filter_congr fun x hx => by
    rw [testBit_bitsOf, decide_eq_true (List.mem_range.mp hx), Bool.true_and]
  obtain ⟨k, hk⟩ := Nat.exists_eq_add_of_le hb
  rw [h1, membersN]
  have h2 := filter_more (b := Builtin.Int.intBits (bitsOf n f : Nat)) (p := (bitsOf n f).testBit) (fun x hx => Nat.testBit_lt_two_pow (Nat.lt_of_lt_of_le (intBits_nat _) (Nat.pow_le_pow_right (by omega) hx))) k
  rw [← hk] at h2
  exact h2.symm
/-- a cover -/
def cov (n : Nat) (R : Rl) (x y : Nat) : Bool := R x y && !(List.range n).any fun z => R x z && R z y
def covL (n : Nat) (R : Rl) : List (Nat × Nat) := (List.range n).flatMap fun x => ((List.range n).filter (cov n R x)).map fun y => (x, y)
/-- the points with one lower cover -/
def irrL (n : Nat) (R : Rl) : List Nat := (List.range n).filter fun x => decide (((List.range n).filter fun y => cov n R y x).length = 1)
def distB (n : Nat) (J M : Nat → Nat → Nat) : Bool := (List.range n).all fun x => (List.range n).all fun y => (List.range n).all fun z => decide (M x (J y z) = J (M x y) (M x z))
theorem dec_nat (x y : Nat) : decide ((x : Int) = (y : Int)) = decide (x = y) := by
  rw [Bool.eq_iff_iff, decide_eq_true_iff, decide_eq_true_iff]
  omega
theorem flat_nat (x y : Nat) : flat2 (natD x) (natD y) = some (decide (x = y)) := by
  rw [← dec_nat]
  rfl
def BelowN (n : Nat) (J : Nat → Nat → Nat) : Prop := ∀ x y, x < n → y < n → J x y < n
theorem fm_get {α β : Type} (l : List α) (f : α → Option β) : ((List.range l.length).filterMap fun i => (l[i]?).bind f) = l.filterMap f := by
  induction l with
  | nil => rfl
  | cons a l ih =>
    rw [List.length_cons, List.range_succ_eq_map, List.filterMap_cons, List.filterMap_map, List.filterMap_cons]
    show (match f a with | none => _ | some b => b :: _) = _
    have e : (List.filterMap ((fun i => ((a :: l)[i]?).bind f) ∘ Nat.succ) (List.range l.length)) = l.filterMap f := ih
    rw [e]
    cases f a <;> rfl
theorem fm_if {α β : Type} (p : α → Bool) (f : α → β) (l : List α) : (l.filterMap fun y => if p y then some (f y) else none) = (l.filter p).map f := by
  induction l with
  | nil => rfl
  | cons a l ih =>
    rw [List.filterMap_cons]
    by_cases h : p a = true
    · rw [if_pos h, List.filter_cons, if_pos h, List.map_cons, ← ih]
    · rw [if_neg h, List.filter_cons, if_neg h, ← ih]
section
variable {P : Program} {w : World} {K : PySem.W.Frag} {mg : Str → Option Value} {base : Heap} {CR CL : Addr}
abbrev sLAt : Stmt := inClass (topS 21) 3
abbrev nLAt : List Str := ["self", "x", "y"]
theorem scLAt : FnScope nLAt ["self", "x", "y"] (defScope sLAt) := ⟨rfl, rfl, rfl, by decide +kernel, rfl, by decide +kernel, by decide +kernel⟩
abbrev sLJn : Stmt := inClass (topS 21) 4
abbrev nLJn : List Str := ["self", "x", "y"]
theorem scLJn : FnScope nLJn ["self", "x", "y"] (defScope sLJn) := ⟨rfl, rfl, rfl, by decide +kernel, rfl, by decide +kernel, by decide +kernel⟩
abbrev sLMt : Stmt := inClass (topS 21) 5
abbrev nLMt : List Str := ["self", "x", "y"]
theorem scLMt : FnScope nLMt ["self", "x", "y"] (defScope sLMt) := ⟨rfl, rfl, rfl, by decide +kernel, rfl, by decide +kernel, by decide +kernel⟩
abbrev sLCv : Stmt := inClass (topS 21) 8
abbrev nLCv : List Str := ["self", "found", "x", "far", "y"]
theorem scLCv : FnScope nLCv ["self"] (defScope sLCv) := ⟨rfl, rfl, rfl, by decide +kernel, rfl, by decide +kernel, by decide +kernel⟩
abbrev sLIr : Stmt := inClass (topS 21) 9
abbrev nLIr : List Str := ["self", "lower", "_", "y", "x"]
theorem scLIr : FnScope nLIr ["self"] (defScope sLIr) := ⟨rfl, rfl, rfl, by decide +kernel, rfl, by decide +kernel, by decide +kernel⟩
abbrev sLDf : Stmt := inClass (topS 21) 12
abbrev nLDf : List Str := ["self", "n", "x", "y", "z"]
theorem scLDf : FnScope nLDf ["self"] (defScope sLDf) := ⟨rfl, rfl, rfl, by decide +kernel, rfl, by decide +kernel, by decide +kernel⟩
abbrev sLDs : Stmt := inClass (topS 21) 14
abbrev nLDs : List Str := ["self"]
theorem scLDs : FnScope nLDs ["self"] (defScope sLDs) := ⟨rfl, rfl, rfl, by decide +kernel, rfl, by decide +kernel, by decide +kernel⟩
def S_lat (CL : Addr) : List Dt → (Dt → Prop) → (Str → Prop) → Prop := fun ds P _ => ∃ (n : Nat) (R : Rl) (J M : Nat → Nat → Nat) (x y : Nat), ds = [latD CL n R J M, natD x, natD y] ∧ x < n ∧ y < n ∧ P (.bl (decide (x = y) || R x y))
theorem ok_lat {f : Addr} {fd : FuncData} (F : Fun K "at_most" "Lattice.at_most" sLAt f fd) (cC : LatC K CL) (cHas : Fo P w K mg base CX0 CR 1 "has" (pureS S_has)) : FnOk P w K mg base CX0 2 f fd ["self", "x", "y"] (spOf K CR (pureS (S_lat CL))) := by
  refine def_ok F scLAt (fun ds cs Pd R ⟨_, n, R, J, M, x, y, h, _⟩ => by rw [h]; rfl) fun cdv A outer s F H E ds cs Pd R0 hr ⟨hcs, n, R, J, Mt, x, y, hd, hx, hy, k⟩ => ?_
  subst hcs
  subst hd
  have hnd := scLAt.nd
  have hN := cx_N CX0 P w K mg base nLAt "Lattice.at_most" (defScope sLAt) f cdv A outer s H E
  walk_at "st"
  walk_at "ev"
  refine ⟨fun h => ?_, fun h => ?_⟩
  · rw [dec_nat] at h
    rw [h] at k
    exact k
  rw [dec_nat] at h
  rw [h] at k
  walk_at "ev"
  refine ax_fld cC.cl cC.a ?_
  walk_at "ev"
  refine ⟨_, _, 0, _, .inl rfl, rfl, by decide, rfl, ?_⟩
  walk_at "ev"
  refine ⟨_, _, _, .inr (.inl rfl), rfl, rowsD_get hx, ?_⟩
  walk_at "ev"
  rw [bit_row hy]
  exact k
def S_ljn (CL : Addr) : List Dt → (Dt → Prop) → (Str → Prop) → Prop := fun ds P _ => ∃ (n : Nat) (R : Rl) (J M : Nat → Nat → Nat) (x y : Nat), ds = [latD CL n R J M, natD x, natD y] ∧ x < n ∧ y < n ∧ P (natD (J x y))
theorem ok_ljn {f : Addr} {fd : FuncData} (F : Fun K "joined" "Lattice.joined" sLJn f fd) (cC : LatC K CL) : FnOk P w K mg base CX0 2 f fd ["self", "x", "y"] (spOf K CR (pureS (S_ljn CL))) := by
  refine def_ok F scLJn (fun ds cs Pd R ⟨_, n, R, J, M, x, y, h, _⟩ => by rw [h]; rfl) fun cdv A outer s F H E ds cs Pd R0 hr ⟨hcs, n, R, J, Mt, x, y, hd, hx, hy, k⟩ => ?_
  subst hcs
  subst hd
  have hnd := scLJn.nd
  have hN := cx_N CX0 P w K mg base nLJn "Lattice.joined" (defScope sLJn) f cdv A outer s H E
  walk_at "st"
  walk_at "ev"
  refine ax_fld cC.cl cC.j ?_
  walk_at "ev"
  refine ⟨_, _, 1, _, .inl rfl, rfl, by decide, rfl, ?_⟩
  walk_at "ev"
  refine ⟨_, _, _, .inr (.inl rfl), rfl, tabD_get hx, ?_⟩
  walk_at "ev"
  exact ⟨_, _, _, .inr (.inl rfl), rfl, rowD_get hy, k⟩
def S_lmt (CL : Addr) : List Dt → (Dt → Prop) → (Str → Prop) → Prop := fun ds P _ => ∃ (n : Nat) (R : Rl) (J M : Nat → Nat → Nat) (x y : Nat), ds = [latD CL n R J M, natD x, natD y] ∧ x < n ∧ y < n ∧ P (natD (M x y))
theorem ok_lmt {f : Addr} {fd : FuncData} (F : Fun K "met" "Lattice.met" sLMt f fd) (cC : LatC K CL) : FnOk P w K mg base CX0 2 f fd ["self", "x", "y"] (spOf K CR (pureS (S_lmt CL))) := by
  refine def_ok F scLMt (fun ds cs Pd R ⟨_, n, R, J, M, x, y, h, _⟩ => by rw [h]; rfl) fun cdv A outer s F H E ds cs Pd R0 hr ⟨hcs, n, R, J, Mt, x, y, hd, hx, hy, k⟩ => ?_
  subst hcs
  subst hd
  have hnd := scLMt.nd
  have hN := cx_N CX0 P w K mg base nLMt "Lattice.met" (defScope sLMt) f cdv A outer s H E
  walk_at "st"
  walk_at "ev"
  refine ax_fld cC.cl cC.m ?_
  walk_at "ev"
  refine ⟨_, _, 2, _, .inl rfl, rfl, by decide, rfl, ?_⟩
  walk_at "ev"
  refine ⟨_, _, _, .inr (.inl rfl), rfl, tabD_get hx, ?_⟩
  walk_at "ev"
  exact ⟨_, _, _, .inr (.inl rfl), rfl, rowD_get hy, k⟩
/-! ### distributive_failure, is_distributive -/
def S_ldf (CL : Addr) : List Dt → (Dt → Prop) → (Str → Prop) → Prop := fun ds P _ => ∃ (n : Nat) (R : Rl) (J M : Nat → Nat → Nat), ds = [latD CL n R J M] ∧ n ≤ 900 ∧ BelowN n J ∧ BelowN n M ∧ (distB n J M = true → P .non) ∧ (distB n J M = false → ∀ x y z, P (.tup [natD x, natD y, natD z]))
theorem dist_no {n x y z : Nat} {J M : Nat → Nat → Nat} (hx : x < n) (hy : y < n) (hz : z < n) (h : ¬ M x (J y z) = J (M x y) (M x z)) : distB n J M = false := by
  cases hd : distB n J M with
  | false => rfl
  | true =>
    unfold distB at hd
    have h1 := List.all_eq_true.mp hd x (List.mem_range.mpr hx)
    have h2 := List.all_eq_true.mp h1 y (List.mem_range.mpr hy)
    have h3 := List.all_eq_true.mp h2 z (List.mem_range.mpr hz)
    exact absurd (of_decide_eq_true h3) h
theorem dist_yes {n : Nat} {J M : Nat → Nat → Nat} (h : ∀ x y z, x < n → y < n → z < n → M x (J y z) = J (M x y) (M x z)) : distB n J M = true :=
  List.all_eq_true.mpr fun x hx => List.all_eq_true.mpr fun y hy => List.all_eq_true.mpr fun z hz => decide_eq_true (h x y z (List.mem_range.mp hx) (List.mem_range.mp hy) (List.mem_range.mp hz))
theorem ok_ldf {f : Addr} {fd : FuncData} (F : Fun K "distributive_failure" "Lattice.distributive_failure" sLDf f fd) (M : Mods mg) (cC : LatC K CL) : FnOk P w K mg base CX0 2 f fd ["self"] (spOf K CR (pureS (S_ldf CL))) := by
  refine def_ok F scLDf (fun ds cs Pd R ⟨_, n, R, J, M, h, _⟩ => by rw [h]; rfl) fun cdv A outer s F H E ds cs Pd R0 hr ⟨hcs, n, R, J, Mt, hd, hn, bJ, bM, kt, kf⟩ => ?_
  subst hcs
  subst hd
  have hnd := scLDf.nd
  have hN := cx_N CX0 P w K mg base nLDf "Lattice.distributive_failure" (defScope sLDf) f cdv A outer s H E
  walk_at "st"
  walk_at "ev"
  refine ax_fld cC.cl cC.a ?_
  walk_at "ev"
  refine ⟨_, _, 0, _, .inl rfl, rfl, by decide, rfl, ?_⟩
  refine ⟨_, .inr (.inl rfl), ?_⟩
  rw [rowsD_len]
  walk_at "for"
  walk_at "rng"
  walk_at "ev"
  refine ⟨by omega, fun i ρ cs => cs = [] ∧ (∀ x y z, x < i → y < n → z < n → Mt x (J y z) = J (Mt x y) (Mt x z)) ∧ ∃ z1 z2 z3, ρ = [some (latD CL n R J Mt), some (natD n), z1, z2, z3], ⟨rfl, fun x y z h => absurd h (by omega), _, _, _, rfl⟩, ?_, ?_⟩
  · rintro x e ρ' cs' hi ⟨rfl, hI, z1, z2, z3, rfl⟩
    obtain ⟨hx, rfl⟩ := rng_item hi
    walk_at "tgt"
    walk_at "for"
    walk_at "rng"
    walk_at "ev"
    refine ⟨by omega, fun i ρ cs => cs = [] ∧ (∀ y z, y < i → z < n → Mt x (J y z) = J (Mt x y) (Mt x z)) ∧ ∃ z2 z3, ρ = [some (latD CL n R J Mt), some (natD n), some (natD x), z2, z3], ⟨rfl, fun y z h => absurd h (by omega), _, _, rfl⟩, ?_, ?_⟩
    · rintro y e ρ' cs' hi ⟨rfl, hI2, z2, z3, rfl⟩
      obtain ⟨hy, rfl⟩ := rng_item hi
      walk_at "tgt"
      walk_at "for"
      walk_at "rng"
      walk_at "ev"
      refine ⟨by omega, fun i ρ cs => cs = [] ∧ (∀ z, z < i → Mt x (J y z) = J (Mt x y) (Mt x z)) ∧ ∃ z3, ρ = [some (latD CL n R J Mt), some (natD n), some (natD x), some (natD y), z3], ⟨rfl, fun z h => absurd h (by omega), _, rfl⟩, ?_, ?_⟩
      · rintro z e ρ' cs' hi ⟨rfl, hI3, z3, rfl⟩
        obtain ⟨hz, rfl⟩ := rng_item hi
        walk_at "tgt"
        walk_at "st"
        walk_at "ev"
        refine ax_fld cC.cl cC.m ?_
        walk_at "ev"
        refine ⟨_, _, 2, _, .inl rfl, rfl, by decide, rfl, ?_⟩
        walk_at "ev"
        refine ⟨_, _, _, .inr (.inl rfl), rfl, tabD_get hx, ?_⟩
        walk_at "ev"
        refine ax_fld cC.cl cC.j ?_
        walk_at "ev"
        refine ⟨_, _, 1, _, .inl rfl, rfl, by decide, rfl, ?_⟩
        walk_at "ev"
        refine ⟨_, _, _, .inr (.inl rfl), rfl, tabD_get hy, ?_⟩
        walk_at "ev"
        refine ⟨_, _, _, .inr (.inl rfl), rfl, rowD_get hz, ?_⟩
        refine ⟨_, _, _, .inr (.inl rfl), rfl, rowD_get (bJ y z hy hz), ?_⟩
        walk_at "ev"
        refine ax_fld cC.cl cC.j ?_
        walk_at "ev"
        refine ⟨_, _, 1, _, .inl rfl, rfl, by decide, rfl, ?_⟩
        walk_at "ev"
        refine ax_fld cC.cl cC.m ?_
        walk_at "ev"
        refine ⟨_, _, 2, _, .inl rfl, rfl, by decide, rfl, ?_⟩
        walk_at "ev"
        refine ⟨_, _, _, .inr (.inl rfl), rfl, tabD_get hx, ?_⟩
        walk_at "ev"
        refine ⟨_, _, _, .inr (.inl rfl), rfl, rowD_get hy, ?_⟩
        refine ⟨_, _, _, .inr (.inl rfl), rfl, tabD_get (bM x y hx hy), ?_⟩
        walk_at "ev"
        refine ax_fld cC.cl cC.m ?_
        walk_at "ev"
        refine ⟨_, _, 2, _, .inl rfl, rfl, by decide, rfl, ?_⟩
        walk_at "ev"
        refine ⟨_, _, _, .inr (.inl rfl), rfl, tabD_get hx, ?_⟩
        walk_at "ev"
        refine ⟨_, _, _, .inr (.inl rfl), rfl, rowD_get hz, ?_⟩
        refine ⟨_, _, _, .inr (.inl rfl), rfl, rowD_get (bM x z hx hz), ?_⟩
        refine ⟨_, flat_nat _ _, fun h => ?_, fun h => ?_⟩
        · have h1 : ¬ Mt x (J y z) = J (Mt x y) (Mt x z) := by simpa using h
          walk_at "st"
          walk_at "ev"
          exact ⟨by show 3 ≤ 1000; decide, kf (dist_no hx hy hz h1) x y z⟩
        · have h1 : Mt x (J y z) = J (Mt x y) (Mt x z) := by simpa using h
          walk_at "st"
          walk_at "st"
          refine ⟨rfl, fun z' hz' => ?_, _, rfl⟩
          by_cases e : z' = z
          · rw [e]; exact h1
          · exact hI3 z' (by omega)
      · rintro ρ' cs' ⟨rfl, hI3, z3, rfl⟩
        have hI3 : ∀ z, z < n → Mt x (J y z) = J (Mt x y) (Mt x z) := hI3
        walk_at "st"
        refine ⟨rfl, fun y' z' hy' hz' => ?_, _, _, rfl⟩
        by_cases e : y' = y
        · rw [e]; exact hI3 z' hz'
        · exact hI2 y' z' (by omega) hz'
    · rintro ρ' cs' ⟨rfl, hI2, z2, z3, rfl⟩
      have hI2 : ∀ y z, y < n → z < n → Mt x (J y z) = J (Mt x y) (Mt x z) := hI2
      walk_at "st"
      refine ⟨rfl, fun x' y' z' hx' hy' hz' => ?_, _, _, _, rfl⟩
      by_cases e : x' = x
      · rw [e]; exact hI2 y' z' hy' hz'
      · exact hI x' y' z' (by omega) hy' hz'
  · rintro ρ' cs' ⟨rfl, hI, z1, z2, z3, rfl⟩
    walk_at "st"
    walk_at "ev"
    exact kt (dist_yes hI)
def S_lds (CL : Addr) : List Dt → (Dt → Prop) → (Str → Prop) → Prop := fun ds P _ => ∃ (n : Nat) (R : Rl) (J M : Nat → Nat → Nat), ds = [latD CL n R J M] ∧ n ≤ 900 ∧ BelowN n J ∧ BelowN n M ∧ P (.bl (distB n J M))
theorem ok_lds {f : Addr} {fd : FuncData} (F : Fun K "is_distributive" "Lattice.is_distributive" sLDs f fd) (cDf : Mo P w K mg base CX0 CR CL 2 "distributive_failure" (pureS (S_ldf CL))) : FnOk P w K mg base CX0 3 f fd ["self"] (spOf K CR (pureS (S_lds CL))) := by
  refine def_ok F scLDs (fun ds cs Pd R ⟨_, n, R, J, M, h, _⟩ => by rw [h]; rfl) fun cdv A outer s F H E ds cs Pd R0 hr ⟨hcs, n, R, J, Mt, hd, hn, bJ, bM, k⟩ => ?_
  subst hcs
  subst hd
  have hnd := scLDs.nd
  have hN := cx_N CX0 P w K mg base nLDs "Lattice.is_distributive" (defScope sLDs) f cdv A outer s H E
  walk_at "st"
  walk_at "ev"
  refine ax_meth0 cDf (Room.mono hr (by decide)) pas0 ?_
  walk_at "ev"
  refine ⟨_, _, rfl, by decide, n, R, J, Mt, rfl, hn, bJ, bM, fun h => ?_, fun h x y z => ?_⟩
  · walk_at "ev"
    refine .inl ⟨rfl, ?_⟩
    rw [h] at k
    exact k
  · walk_at "ev"
    refine .inl ⟨rfl, ?_⟩
    rw [h] at k
    exact k
/-! ### covers, join_irreducibles -/
def S_lcv (CL : Addr) : List Dt → (Dt → Prop) → (Str → Prop) → Prop := fun ds P _ => ∃ (n : Nat) (R : Rl) (J M : Nat → Nat → Nat), ds = [latD CL n R J M] ∧ n ≤ 100 ∧ P (.tup ((covL n R).map pairN))
def farF (n : Nat) (R : Rl) (x : Nat) (l : List Nat) : Nat → Bool := fun y => l.any fun z => R x z && R z y
theorem far_step {n : Nat} {R : Rl} {x i y : Nat} {l : List Nat} (h : l[i]? = some y) (hy : R x y = true) : bitsOf n (farF n R x (l.take i)) ||| bitsOf n (R y) = bitsOf n (farF n R x (l.take (i + 1))) := by
  rw [bitsOf_or]
  refine bitsOf_congr fun z _ => ?_
  unfold farF
  rw [List.take_add_one, h, List.any_append]
  show _ = (_ || ((R x y && R y z) || false))
  rw [hy, Bool.true_and, Bool.or_false]
theorem any_filter_R {n x y : Nat} {R : Rl} : farF n R x ((List.range n).filter (R x)) y = (List.range n).any fun z => R x z && R z y := by
  unfold farF
  rw [List.any_filter]
  congr 1
  funext z
  cases R x z <;> rfl
theorem covL_succ (n i : Nat) (R : Rl) : ((List.range (i + 1)).flatMap fun x => ((List.range n).filter (cov n R x)).map fun y => (x, y)) = ((List.range i).flatMap fun x => ((List.range n).filter (cov n R x)).map fun y => (x, y)) ++ ((List.range n).filter (cov n R i)).map fun y => (i, y) := by
  rw [List.range_succ, List.flatMap_append]
  simp
theorem covL_len (n : Nat) (R : Rl) : ∀ i, ((List.range i).flatMap fun x => ((List.range n).filter (cov n R x)).map fun y => (x, y)).length ≤ i * n
  | 0 => Nat.zero_le _
  | i + 1 => by
    rw [covL_succ, List.length_append, List.length_map, Nat.add_mul, Nat.one_mul]
    have h1 := covL_len n R i
    have h2 := List.length_filter_le (cov n R i) (List.range n)
    rw [List.length_range] at h2
    omega
theorem ok_lcv {f : Addr} {fd : FuncData} (F : Fun K "covers" "Lattice.covers" sLCv f fd) (M : Mods mg) (cC : LatC K CL) (cHas : Fo P w K mg base CX0 CR 1 "has" (pureS S_has)) (cMembers : Fo P w K mg base CX0 CR 1 "members" (pureS S_members)) : FnOk P w K mg base CX0 2 f fd ["self"] (spOf K CR (pureS (S_lcv CL))) := by
  refine def_ok F scLCv (fun ds cs Pd R ⟨_, n, R, J, M, h, _⟩ => by rw [h]; rfl) fun cdv A outer s F H E ds cs Pd R0 hr ⟨hcs, n, R, J, Mt, hd, hn, k⟩ => ?_
  subst hcs
  subst hd
  have hnd := scLCv.nd
  have hN := cx_N CX0 P w K mg base nLCv "Lattice.covers" (defScope sLCv) f cdv A outer s H E
  have hb : ∀ f : Nat → Bool, bitsOf n f < 2 ^ 1000 := fun f => Nat.lt_of_lt_of_le (bitsOf_lt n f) (Nat.pow_le_pow_right (by omega) (by omega))
  walk_at "newl"
  intro p
  walk_at "for"
  walk_at "rng"
  walk_at "ev"
  refine ax_fld cC.cl cC.a ?_
  walk_at "ev"
  refine ⟨_, _, 0, _, .inl rfl, rfl, by decide, rfl, ?_⟩
  refine ⟨_, .inr (.inl rfl), ?_⟩
  rw [rowsD_len]
  refine ⟨_, rfl, by omega, fun i ρ cs => cs = [(p, .l (((List.range i).flatMap fun x => ((List.range n).filter (cov n R x)).map fun y => (x, y)).map pairN))] ∧ ∃ z1 z2 z3, ρ = [some (latD CL n R J Mt), some (.cell p), z1, z2, z3], ⟨rfl, _, _, _, rfl⟩, ?_, ?_⟩
  · rintro x e ρ' cs' hi ⟨rfl, z1, z2, z3, rfl⟩
    obtain ⟨hx, rfl⟩ := rng_item hi
    walk_at "tgt"
    walk_at "st"
    walk_at "ev"
    walk_at "for"
    refine ai_seq ?_
    walk_at "ev"
    refine ax_fld cC.cl cC.a ?_
    walk_at "ev"
    refine ⟨_, _, 0, _, .inl rfl, rfl, by decide, rfl, ?_⟩
    walk_at "ev"
    refine ⟨_, _, _, .inr (.inl rfl), rfl, rowsD_get hx, ?_⟩
    walk_at "ev"
    refine ⟨_, rfl, hb _, ?_⟩
    rw [members_bits]
    refine ⟨_, .inr (.inl rfl), fun i ρ cs => cs = [(p, .l (((List.range x).flatMap fun x => ((List.range n).filter (cov n R x)).map fun y => (x, y)).map pairN))] ∧ ∃ z3, ρ = [some (latD CL n R J Mt), some (.cell p), some (natD x), some (natD (bitsOf n (farF n R x (((List.range n).filter (R x)).take i)))), z3], ⟨rfl, z3, ?_⟩, ?_, ?_⟩
    · have e0 : bitsOf n (farF n R x (((List.range n).filter (R x)).take 0)) = 0 := (bitsOf_congr fun y _ => rfl).trans (bitsOf_none n)
      rw [e0]
      rfl
    · rintro i e ρ' cs' hi2 ⟨rfl, z3, rfl⟩
      obtain ⟨y, hy, rfl⟩ := item_map hi2
      have hy2 := List.mem_filter.mp (List.mem_of_getElem? hy)
      walk_at "tgt"
      walk_at "st"
      walk_at "ev"
      refine ax_fld cC.cl cC.a ?_
      walk_at "ev"
      refine ⟨_, _, 0, _, .inl rfl, rfl, by decide, rfl, ?_⟩
      walk_at "ev"
      refine ⟨_, _, _, .inr (.inl rfl), rfl, rowsD_get (List.mem_range.mp hy2.1), ?_⟩
      walk_at "ev"
      walk_at "st"
      refine ⟨rfl, some (natD y), ?_⟩
      rw [← far_step hy hy2.2]
      rfl
    · rintro ρ' cs' ⟨rfl, z3, rfl⟩
      have e1 : bitsOf n (farF n R x (((List.range n).filter (R x)).take (Src.len (.seq (((List.range n).filter (R x)).map natD))))) = bitsOf n (fun y => (List.range n).any fun z => R x z && R z y) := by
        show bitsOf n (farF n R x (((List.range n).filter (R x)).take (((List.range n).filter (R x)).map natD).length)) = _
        rw [List.length_map, List.take_length]
        exact bitsOf_congr fun y _ => any_filter_R
      rw [e1]
      walk_at "st"
      refine ax_extend ?_
      walk_at "ev"
      refine ⟨⟨0, _, rfl⟩, ?_⟩
      refine ax_lcQ hN (by walk_at "ix") hnd (blkOk_by (sc := defScope sLCv) (by decide +kernel)) rfl (ai_seq ?_)
      walk_at "ev"
      refine ax_fld cC.cl cC.a ?_
      walk_at "ev"
      refine ⟨_, _, 0, _, .inl rfl, rfl, by decide, rfl, ?_⟩
      walk_at "ev"
      refine ⟨_, _, _, .inr (.inl rfl), rfl, rowsD_get hx, ?_⟩
      walk_at "ev"
      refine ⟨_, rfl, hb _, ?_⟩
      rw [members_bits]
      refine ⟨_, .inr (.inl rfl), ?_, ⟨1, rfl⟩, fun i => (((List.range n).filter (R x))[i]?).bind fun y => if cov n R x y then some (pairN (x, y)) else none, fun i d hi => ?_, ?_⟩
      · show (((List.range n).filter (R x)).map natD).length ≤ 90000
        rw [List.length_map]
        have h2 := List.length_filter_le (R x) (List.range n)
        rw [List.length_range] at h2
        omega
      · obtain ⟨y, hy, rfl⟩ := item_map hi
        have hy2 := List.mem_filter.mp (List.mem_of_getElem? hy)
        have hy3 := List.mem_range.mp hy2.1
        intro s0 H0 C cl fp D acc
        refine ats_one ?_
        walk_at "ev"
        rw [bit_row hy3]
        have ec : cov n R x y = !(List.range n).any fun z => R x z && R z y := by
          unfold cov
          rw [hy2.2, Bool.true_and]
        rw [← ec]
        refine ⟨rfl, fun hk _ _ _ _ _ => ?_, fun hk => ?_⟩
        · walk_at "ev"
          refine ⟨by show 2 ≤ 1000; decide, rfl, ?_⟩
          show (((List.range n).filter (R x))[i]?).bind _ = _
          rw [hy]
          exact if_pos hk
        · show (((List.range n).filter (R x))[i]?).bind _ = _
          rw [hy]
          exact if_neg (by rw [hk]; exact Bool.false_ne_true)
      · have e2 : ((List.range (Src.len (.seq (((List.range n).filter (R x)).map natD)))).filterMap fun i => (((List.range n).filter (R x))[i]?).bind fun y => if cov n R x y then some (pairN (x, y)) else none) = (((List.range n).filter (cov n R x)).map fun y => (x, y)).map pairN := by
          show ((List.range (((List.range n).filter (R x)).map natD).length).filterMap _) = _
          rw [List.length_map, fm_get, fm_if, List.map_map, List.filter_filter]
          congr 2
          funext y
          unfold cov
          cases R x y <;> simp
        rw [e2]
        have hl := covL_len n R x
        have h2 := List.length_filter_le (cov n R x) (List.range n)
        rw [List.length_range] at h2
        have h3 : x * n ≤ 100 * 100 := Nat.mul_le_mul (by omega) hn
        refine ⟨0, _, _, rfl, rfl, by rw [List.length_map, List.length_map, List.length_map]; omega, ?_⟩
        walk_at "st"
        refine ⟨?_, _, _, _, rfl⟩
        rw [covL_succ, List.map_append]
        rfl
  · rintro ρ' cs' ⟨rfl, z1, z2, z3, rfl⟩
    refine as_freeze 1 0 rfl rfl ⟨1, by decide, rfl⟩ ?_
    walk_at "st"
    walk_at "ev"
    exact ⟨_, .inl rfl, k⟩
end

end G
namespace G
open PySem PySem.Spec PyProof.Rows L2 Evl
local macro_rules | `(tactic| walk_at "ix") => `(tactic| with_reducible (first
  | exact AtN.z | exact AtN.s AtN.z | exact AtN.s (AtN.s AtN.z) | exact AtN.s (AtN.s (AtN.s AtN.z)) | exact AtN.s (AtN.s (AtN.s (AtN.s AtN.z)))
  | exact AtN.s (AtN.s (AtN.s (AtN.s (AtN.s AtN.z)))) | exact AtN.s (AtN.s (AtN.s (AtN.s (AtN.s (AtN.s AtN.z))))) | exact AtN.s (AtN.s (AtN.s (AtN.s (AtN.s (AtN.s (AtN.s AtN.z))))))
  | exact AtN.s (AtN.s (AtN.s (AtN.s (AtN.s (AtN.s (AtN.s (AtN.s AtN.z))))))) | exact AtN.s (AtN.s (AtN.s (AtN.s (AtN.s (AtN.s (AtN.s (AtN.s (AtN.s AtN.z)))))))) | exact AtN.s (AtN.s (AtN.s (AtN.s (AtN.s (AtN.s (AtN.s (AtN.s (AtN.s (AtN.s AtN.z)))))))))
  | exact AtN.s (AtN.s (AtN.s (AtN.s (AtN.s (AtN.s (AtN.s (AtN.s (AtN.s (AtN.s (AtN.s AtN.z))))))))))
  | exact AtN.s (AtN.s (AtN.s (AtN.s (AtN.s (AtN.s (AtN.s (AtN.s (AtN.s (AtN.s (AtN.s (AtN.s AtN.z)))))))))))
  | exact AtN.s (AtN.s (AtN.s (AtN.s (AtN.s (AtN.s (AtN.s (AtN.s (AtN.s (AtN.s (AtN.s (AtN.s (AtN.s AtN.z))))))))))))
  | exact AtN.s (AtN.s (AtN.s (AtN.s (AtN.s (AtN.s (AtN.s (AtN.s (AtN.s (AtN.s (AtN.s (AtN.s (AtN.s (AtN.s AtN.z)))))))))))))
  | exact AtN.s (AtN.s (AtN.s (AtN.s (AtN.s (AtN.s (AtN.s (AtN.s (AtN.s (AtN.s (AtN.s (AtN.s (AtN.s (AtN.s (AtN.s AtN.z))))))))))))))))
local macro_rules | `(tactic| walk_at "ev1") => `(tactic| first
  | with_reducible refine ax_int ?_ | with_reducible refine ax_bl ?_ | with_reducible refine ax_non ?_ | with_reducible refine ax_str ?_
  | ((with_reducible show Ax _ _ (Expr.Name _ _) _ _ _); refine ax_u $(Lean.mkIdent `hN) (by walk_at "ix") rfl ?_)
  | ((with_reducible show Ax _ _ (Expr.Compare _ _ _ _) _ _ _); first | (with_reducible refine ax_cmpR cmp_lt ?_) | (with_reducible refine ax_cmpR cmp_le ?_) | (with_reducible refine ax_cmpR cmp_gt ?_) | (with_reducible refine ax_cmpR cmp_ge ?_) | (with_reducible refine ax_cmpR cmp_eq ?_) | (with_reducible refine ax_cmpR cmp_ne ?_) | (with_reducible refine ax_cmpR cmp_is ?_) | (with_reducible refine ax_cmpR cmp_isN ?_))
  | ((with_reducible show At _ _ (Expr.Compare _ _ _ _) _ _ _); first | (with_reducible refine at_cmpR cmp_lt ?_) | (with_reducible refine at_cmpR cmp_le ?_) | (with_reducible refine at_cmpR cmp_gt ?_) | (with_reducible refine at_cmpR cmp_ge ?_) | (with_reducible refine at_cmpR cmp_eq ?_) | (with_reducible refine at_cmpR cmp_ne ?_) | (with_reducible refine at_cmpR cmp_is ?_) | (with_reducible refine at_cmpR cmp_isN ?_))
  | with_reducible refine ax_add ?_ | with_reducible refine ax_sub ?_ | with_reducible refine ax_mul ?_ | with_reducible refine ax_fdiv ?_ | with_reducible refine ax_mod ?_ | with_reducible refine ax_shl ?_ | with_reducible refine ax_shr ?_ | with_reducible refine ax_and ?_ | with_reducible refine ax_or ?_ | with_reducible refine ax_neg ?_
  | with_reducible refine ax_one ?_ | with_reducible refine ax_andv ?_ | with_reducible refine ax_orv ?_ | with_reducible refine ax_notv ?_ | with_reducible refine at_one ?_ | with_reducible refine at_and ?_ | with_reducible refine at_or ?_ | with_reducible refine at_not ?_ | with_reducible refine ax_if ?_
  | ((with_reducible show Ax _ _ (Expr.Subscript _ _ _) _ _ _); refine ax_ix ?_) | with_reducible refine ax_tup ?_ | ((with_reducible show Aa _ _ (_ :: _) _ _ _); refine aa_cons ?_) | with_reducible refine aa_nil ?_
  | ((with_reducible show Ax _ _ (Expr.Call (Expr.Name "len" _) _ _ _) _ _ _); refine ax_len (Mods.len $(Lean.mkIdent `M)) ?_)
  | ((with_reducible show Ax _ _ (Expr.Call (Expr.Name "int" _) _ _ _) _ _ _); refine ax_int1 (Mods.int $(Lean.mkIdent `M)) ?_)
  | ((with_reducible show Ax _ _ (Expr.Call (Expr.Name "abs" _) _ _ _) _ _ _); refine ax_abs (Mods.abs $(Lean.mkIdent `M)) ?_)
  | ((with_reducible show Ax _ _ (Expr.Call (Expr.Name "tuple" _) _ _ _) _ _ _); refine ax_tuple (Mods.tuple $(Lean.mkIdent `M)) ?_)
  | ((with_reducible show Ax _ _ (Expr.Call (Expr.Name "has" _) _ _ _) _ _ _); refine ax_call $(Lean.mkIdent `cHas) (Room.mono $(Lean.mkIdent `hr) (by decide)) pas0 ?_)
  | ((with_reducible show Ax _ _ (Expr.Call (Expr.Name "set_of" _) _ _ _) _ _ _); refine ax_call $(Lean.mkIdent `cSetOf) (Room.mono $(Lean.mkIdent `hr) (by decide)) pas0 ?_)
  | ((with_reducible show Ax _ _ (Expr.Call (Expr.Name "members" _) _ _ _) _ _ _); refine ax_call $(Lean.mkIdent `cMembers) (Room.mono $(Lean.mkIdent `hr) (by decide)) pas0 ?_)
  | ((with_reducible show Ax _ _ (Expr.Call (Expr.Name "is_integer" _) _ _ _) _ _ _); refine ax_call $(Lean.mkIdent `cIsInt) (Room.mono $(Lean.mkIdent `hr) (by decide)) pas0 ?_)
  | ((with_reducible show Ax _ _ (Expr.Call (Expr.Attribute _ "bit_length" _) _ _ _) _ _ _); refine ax_bits ?_)
  | ((with_reducible show Ax _ _ (Expr.Call (Expr.Name "isinstance" _) [_, Expr.Name "int" _] _ _) _ _ _); refine ax_isi (u := "int") (Mods.isinstance $(Lean.mkIdent `M)) (Mods.int $(Lean.mkIdent `M)) boot_int ?_)
  | ((with_reducible show Ax _ _ (Expr.Call (Expr.Name "isinstance" _) [_, Expr.Name "bool" _] _ _) _ _ _); refine ax_isi (u := "bool") (Mods.isinstance $(Lean.mkIdent `M)) (Mods.bool $(Lean.mkIdent `M)) boot_bool ?_)
  | ((with_reducible show Ax _ _ (Expr.Call (Expr.Name "isinstance" _) [_, Expr.Name "tuple" _] _ _) _ _ _); refine ax_isi (u := "tuple") (Mods.isinstance $(Lean.mkIdent `M)) (Mods.tuple $(Lean.mkIdent `M)) boot_tuple ?_)
  | ((with_reducible show Ax _ _ (Expr.Call (Expr.Name "isinstance" _) [_, Expr.Tuple [Expr.Name "list" _, Expr.Name "tuple" _] _ _] _ _) _ _ _); refine ax_isi2 (u1 := "list") (u2 := "tuple") (Mods.isinstance $(Lean.mkIdent `M)) (Mods.list $(Lean.mkIdent `M)) (Mods.tuple $(Lean.mkIdent `M)) boot_list boot_tuple ?_)
  | ((with_reducible show ∃ t k, tyD _ = some t ∧ kitB t _ = some k ∧ _); refine ⟨_, _, rfl, by with_reducible (first | exact kit_ii | exact kit_ib | exact kit_tt), ?_⟩)
  | ((with_reducible show S_isInt _ _ _); refine ⟨_, rfl, ?_⟩) | ((with_reducible show S_has _ _ _); refine ⟨_, _, rfl, ?_⟩)
  | ((with_reducible show REq _ _ _ _); refine ⟨_, rfl, ?_⟩) | ((with_reducible show RNe _ _ _ _); refine ⟨_, rfl, ?_⟩) | ((with_reducible show RI _ _ _ _ _); refine ⟨_, _, rfl, rfl, ?_⟩)
  | with_reducible refine ⟨_, _, rfl, rfl, ?_⟩
  | with_reducible refine ⟨_, rfl, ?_⟩
  | ((with_reducible show At _ _ (Expr.Name _ _) _ _ _); refine at_val ?_) | ((with_reducible show At _ _ (Expr.Call _ _ _ _) _ _ _); refine at_val ?_) | ((with_reducible show At _ _ (Expr.Subscript _ _ _) _ _ _); refine at_val ?_))
local macro_rules | `(tactic| walk_at "ev") => `(tactic| repeat walk_at "ev1")
local macro_rules | `(tactic| walk_at "st1") => `(tactic| first
    | ((with_reducible show A1 _ _ (Stmt.Return _ _) _ _ _); refine a1_ret ?_)
    | ((with_reducible show A1 _ _ (Stmt.If _ _ _ _) _ _ _); refine a1_if ?_)
    | ((with_reducible show A1 _ _ (Stmt.Expr _ _) _ _ _); refine a1_drop ?_)
    | ((with_reducible show A1 _ _ (Stmt.Assign [Expr.Name _ _] _ _) _ _ _); refine a1_setU $(Lean.mkIdent `hN) (by walk_at "ix") $(Lean.mkIdent `hnd) ?_)
    | ((with_reducible show A1 _ _ (Stmt.Assign _ _ _) _ _ _); refine a1_asg ?_))
local macro_rules | `(tactic| walk_at "st") => `(tactic| first
  | ((with_reducible show As _ _ [] _ _ _); refine as_nil ?_)
  | (refine as_cons ?_; walk_at "st1"))
local macro_rules | `(tactic| walk_at "newl") => `(tactic| refine as_setU $(Lean.mkIdent `hN) (by walk_at "ix") $(Lean.mkIdent `hnd) (ax_lstC (aa_nil ⟨by decide, ?_⟩)))
local macro_rules | `(tactic| walk_at "for") => `(tactic| (refine as_cons ?_; refine a1_for ?hp ?_ ?hc ?hs; (case hp => exact PassesOwn.never); (case hc => rfl); (case hs => intro _; rfl)))
local macro_rules | `(tactic| walk_at "tgt") => `(tactic| refine ag_nameU $(Lean.mkIdent `hN) (by walk_at "ix") $(Lean.mkIdent `hnd) ?_)
local macro_rules | `(tactic| walk_at "rng") => `(tactic| refine ai_range1 (Mods.range $(Lean.mkIdent `M)) ?_)
local macro_rules | `(tactic| walk_at "while") => `(tactic| (refine as_cons ?_; refine a1_while ?hp ?I ?h0 ?hs; (case hp => exact PassesOwn.never)))
local macro_rules | `(tactic| walk_at "pair") => `(tactic| refine ag_pairU $(Lean.mkIdent `hN) (by walk_at "ix") (by walk_at "ix") $(Lean.mkIdent `hnd) ?hd ?_)
local macro_rules | `(tactic| walk_at "blk") => `(tactic| exact blkOk_by (by decide +kernel))
/-! P7: join_irreducibles -/
theorem one_hit (p : Nat → Bool) (x : Nat) : ∀ n, (((List.range n).filter p).filter fun y => decide (y = x)).length = if x < n ∧ p x = true then 1 else 0
  | 0 => by rw [if_neg (by omega)]; rfl
  | n + 1 => by
    rw [List.range_succ, List.filter_append, List.filter_append, List.length_append, one_hit p x n]
    by_cases hp : p n = true
    · rw [List.filter_cons, if_pos hp]
      by_cases hx : n = x
      · subst hx
        rw [if_neg (by omega), if_pos ⟨by omega, hp⟩, List.filter_nil, List.filter_cons, if_pos (decide_eq_true rfl)]
        rfl
      · rw [List.filter_nil, List.filter_cons, decide_eq_false hx, if_neg Bool.false_ne_true]
        show _ + 0 = _
        by_cases h : x < n ∧ p x = true
        · rw [if_pos h, if_pos ⟨by omega, h.2⟩]
        · rw [if_neg h, if_neg (fun h2 => h ⟨by omega, h2.2⟩)]
    · rw [List.filter_cons, if_neg hp]
      show _ + 0 = _
      by_cases h : x < n ∧ p x = true
      · rw [if_pos h, if_pos ⟨by omega, h.2⟩]
      · rw [if_neg h, if_neg]
        rintro ⟨h1, h2⟩
        by_cases hx : x = n
        · rw [hx] at h2
          exact hp h2
        · exact h ⟨by omega, h2⟩
theorem covL_count {n x : Nat} (R : Rl) (hx : x < n) : ∀ i, ((((List.range i).flatMap fun x => ((List.range n).filter (cov n R x)).map fun y => (x, y)).map (·.2)).filter fun y => decide (y = x)).length = ((List.range i).filter fun y => cov n R y x).length
  | 0 => rfl
  | i + 1 => by
    rw [covL_succ, List.map_append, List.filter_append, List.length_append, covL_count R hx i, List.range_succ, List.filter_append, List.length_append, List.map_map]
    congr 1
    have e : ((fun q : Nat × Nat => q.2) ∘ fun y => (i, y)) = id := rfl
    rw [e, List.map_id, one_hit, List.filter_cons]
    by_cases h : cov n R i x = true
    · rw [if_pos ⟨hx, h⟩, if_pos h]
      rfl
    · rw [if_neg (fun h2 => h h2.2), if_neg h]
      rfl
section
variable {P : Program} {w : World} {K : PySem.W.Frag} {mg : Str → Option Value} {base : Heap} {CR CL : Addr}
def S_lir (CL : Addr) : List Dt → (Dt → Prop) → (Str → Prop) → Prop := fun ds P _ => ∃ (n : Nat) (R : Rl) (J M : Nat → Nat → Nat), ds = [latD CL n R J M] ∧ n ≤ 100 ∧ P (.tup ((irrL n R).map natD))
theorem ok_lir {f : Addr} {fd : FuncData} (F : Fun K "join_irreducibles" "Lattice.join_irreducibles" sLIr f fd) (M : Mods mg) (cC : LatC K CL) (cCov : Mo P w K mg base CX0 CR CL 2 "covers" (pureS (S_lcv CL))) : FnOk P w K mg base CX0 3 f fd ["self"] (spOf K CR (pureS (S_lir CL))) := by
  refine def_ok F scLIr (fun ds cs Pd R ⟨_, n, R, J, M, h, _⟩ => by rw [h]; rfl) fun cdv A outer s F H E ds cs Pd R0 hr ⟨hcs, n, R, J, Mt, hd, hn, k⟩ => ?_
  subst hcs
  subst hd
  have hnd := scLIr.nd
  have hN := cx_N CX0 P w K mg base nLIr "Lattice.join_irreducibles" (defScope sLIr) f cdv A outer s H E
  refine as_setU hN (by walk_at "ix") hnd (ax_lcPQ hN (by walk_at "ix") (by walk_at "ix") (by decide) hnd (blkOk_by (sc := defScope sLIr) (by decide +kernel)) rfl (ai_seq ?_))
  refine ax_meth0 cCov (Room.mono hr (by decide)) pas0 ?_
  walk_at "ev"
  refine ⟨_, _, rfl, by decide, n, R, J, Mt, rfl, hn, ?_⟩
  have hl := covL_len n R n
  have h3 : n * n ≤ 100 * 100 := Nat.mul_le_mul hn hn
  have hl2 : (covL n R).length ≤ n * n := hl
  refine ⟨_, .inr (.inl rfl), by show ((covL n R).map pairN).length ≤ 90000; rw [List.length_map]; omega, ⟨0, rfl⟩, fun i => ((covL n R)[i]?).bind fun q => some (natD q.2), fun i d hi => ?_, ?_⟩
  · obtain ⟨q, hq, rfl⟩ := item_map hi
    refine ⟨_, _, rfl, fun s0 H0 C cl fp D acc => ats_nil ⟨rfl, fun _ _ _ _ _ _ => ?_, fun h => (nomatch h)⟩⟩
    walk_at "ev"
    refine ⟨rfl, ?_⟩
    show ((covL n R)[i]?).bind _ = _
    rw [hq]
    rfl
  have e1 : ((List.range (Src.len (.seq ((covL n R).map pairN)))).filterMap fun i => ((covL n R)[i]?).bind fun q => some (natD q.2)) = ((covL n R).map (·.2)).map natD := by
    show ((List.range ((covL n R).map pairN).length).filterMap _) = _
    rw [List.length_map, fm_get, List.map_map]
    rw [← List.filterMap_eq_map]
    rfl
  rw [e1]
  walk_at "st"
  walk_at "ev"
  refine ax_lcQ hN (by walk_at "ix") hnd (blkOk_by (sc := defScope sLIr) (by decide +kernel)) rfl (ai_range1 M.range ?_)
  walk_at "ev"
  refine ax_fld cC.cl cC.a ?_
  walk_at "ev"
  refine ⟨_, _, 0, _, .inl rfl, rfl, by decide, rfl, ?_⟩
  refine ⟨_, .inr (.inl rfl), ?_⟩
  rw [rowsD_len]
  refine ⟨_, rfl, by omega, by show n ≤ 90000; omega, ⟨0, rfl⟩, fun x => if decide (((List.range n).filter fun y => cov n R y x).length = 1) then some (natD x) else none, fun i d hi => ?_, ?_⟩
  · obtain ⟨hx, rfl⟩ := rng_item hi
    intro s0 H0 C cl fp D acc
    refine ats_one ?_
    walk_at "ev"
    refine ax_lcQ2 hN (by walk_at "ix") hnd (sc := defScope sLIr) rfl (blkOk_by (by decide +kernel)) (ai_seq ?_)
    walk_at "ev"
    refine ⟨_, .inl rfl, by show (((covL n R).map (·.2)).map natD).length ≤ 90000; rw [List.length_map, List.length_map]; omega, ⟨1, rfl⟩, fun j => (((covL n R).map (·.2))[j]?).bind fun y => if decide (y = i) then some (natD y) else none, fun j d hj => ?_, ?_⟩
    · obtain ⟨y, hy, rfl⟩ := item_map hj
      intro s0 H0 C cl fp D acc
      refine ats_one ?_
      walk_at "ev"
      rw [dec_nat]
      refine ⟨rfl, fun hk _ _ _ _ _ => ?_, fun hk => ?_⟩
      · walk_at "ev"
        refine ⟨rfl, ?_⟩
        show (((covL n R).map (·.2))[j]?).bind _ = _
        rw [hy]
        exact if_pos hk
      · show (((covL n R).map (·.2))[j]?).bind _ = _
        rw [hy]
        exact if_neg (by rw [hk]; exact Bool.false_ne_true)
    · have e2 : ((List.range (Src.len (.seq (((covL n R).map (·.2)).map natD)))).filterMap fun j => (((covL n R).map (·.2))[j]?).bind fun y => if decide (y = i) then some (natD y) else none) = (((covL n R).map (·.2)).filter fun y => decide (y = i)).map natD := by
        show ((List.range (((covL n R).map (·.2)).map natD).length).filterMap _) = _
        rw [List.length_map, fm_get, fm_if]
      rw [e2]
      refine ⟨_, .inl rfl, ?_⟩
      rw [List.length_map]
      have e3 : (((covL n R).map (·.2)).filter fun y => decide (y = i)).length = ((List.range n).filter fun y => cov n R y i).length := covL_count R hx n
      rw [e3]
      walk_at "ev"
      rw [show (1 : Int) = ((1 : Nat) : Int) from rfl, dec_nat]
      refine ⟨rfl, fun hk _ _ _ _ _ => ?_, fun hk => if_neg (by rw [hk]; exact Bool.false_ne_true)⟩
      walk_at "ev"
      exact ⟨rfl, if_pos hk⟩
  · have e4 : ((List.range (Src.len (.rng 0 n))).filterMap fun x => if decide (((List.range n).filter fun y => cov n R y x).length = 1) then some (natD x) else none) = (irrL n R).map natD := fm_filter n (fun x => decide (((List.range n).filter fun y => cov n R y x).length = 1)) natD
    rw [e4]
    exact ⟨_, .inl rfl, k⟩
end

end G
namespace G
open PySem PySem.Spec PyProof.Rows L2 Evl
--nomac
/-! R1: Refused.__init__: super().__init__('refused: ' + reason); self.reason = reason -/
section
open PySem.W PySem.Calls Sem
variable {prog : Program} {w : World} {A : Around} {E : Value → Shared → Prop} {h : Heap} {g : Array GenState} {d : Drawn} {t : Nat} {os : OsState}
variable {nm q : Str} {C N : Addr} {bs bm : List Value} {hdct : Bool} {sn : List Str} {sub : List Value} {ab : Bool} {col : Option Bool} {dd : Option Addr} {k0 k1 k2 k3 k5 : Option Value}
theorem call_bwV {u e t0 : Addr} {rest : List Value} {Q : Value → Shared → Prop}
    (hC : h.get? C = some (excClassObj nm q C N bs bm hdct sn sub ab col dd k0 k1 k2 k3 k5 "ValueError.__new__")) (he : h.get? e = some (HandSPX.excO C t0)) (hu : h.get? u = some (kxs_mw "ValueError.__init__" e)) (hrest : rest.length ≤ sizeLine)
    (hq : ∀ h' t1, (∀ b o, b ≠ e → h.get? b = some o → h'.get? b = some o) → h'.get? e = some (HandSPX.excO C t1) → Q .none ⟨h', g, d, t, os⟩) :
    wpAny (model prog w) A (call (.ref u) rest) Q E ⟨h, g, d, t, os⟩ := by
  refine wpAny_call (codeAny_of_tree ?_)
  show wpAny _ A.in1 (callAny (.ref u) ⟨rest, []⟩) _ _ _
  simp only [callAny]
  refine wpAny_bind (wpAny_load hu ?_)
  simp only [kxs_mw, show (Value.type "method-wrapper" == Value.type "method" || Value.type "method-wrapper" == Value.type "builtin_function_or_method" || Value.type "method-wrapper" == Value.type "method-wrapper") = true by decide, if_true]
  refine KFB.if_so (by decide) ?_
  refine wpAny_bind (check_bound_init F.excBase_ValueError.toExcCallFacts hC he rfl ?_)
  refine wpAny_bind (wpAny_pure (wpAny_pure ?_))
  refine ⟨plainId_quiet F.excBase_ValueError.init.plain _, codeAny_builtin F.excBase_ValueError.initEntry ?_⟩
  exact exc_init_tree (cls := .ref C) (t0 := t0) (dv := none) (c2 := .none) (c3 := .none) (b4 := .bool false) he hrest fun h' k e' _ => hq h' _ k e'
end
abbrev sRef : Stmt := inClass (topS 4) 0
abbrev nRef : List Str := ["self", "reason"]
/-- what of Refused is asked -/
structure RefI (P : Program) (K : PySem.W.Frag) (mg : Str → Option Value) (C f : Addr) (fd : FuncData) : Prop where
  oex : OexC K C
  no : PySem.W.findIn K (.ref C) "reason" = some none
  sup : PySem.W.ks_superIn K C C "__init__" = some (some (.builtin "ValueError.__init__"))
  any : PySem.W.nsIn K cStatics "thirdparty.any" = some none
  sub : PySem.W.subIn K (.ref C) (.type "ValueError") = some true
  self : PySem.W.mroIn K C (.ref C) = some true
  msup : mg "super" = none
  htop : (P.main.scope.names.lookup ("super" : Str)).isSome = false
  ex : ∃ (oc : Value) (od : Option Addr) (osl : Array (Option Value)) (dV kV doc pm : Value) (an : Option Addr) (cda : Addr) (ct : Value) (cc : Addr) (ccl : Value) (cdd : Option Addr) (vs : Array Value) (ccs : Array (Option Value)) (tf : Tok) (file : Str) (cl : Value) (cld : Option Addr) (csl : Array (Option Value)),
    fd = PySem.W.ksFn "__init__" "Refused.__init__" (defArgs sRef) (defBody sRef) (defScope sRef) dV kV doc pm an (.ref cda) ct cc ∧ K.lookup f = some ⟨oc, od, .func fd, osl⟩ ∧ PySem.W.codeIn K (.ref cda) "Refused.__init__" = true ∧
    K.lookup cda = some ⟨ccl, cdd, .fields vs, ccs⟩ ∧ vs[2]? = some (.str file tf) ∧ ((P.main.file : Str) == file) = true ∧ K.lookup cc = some ⟨cl, cld, .cell (some (.ref C)), csl⟩
def cxRef (P : Program) (w : World) (K : PySem.W.Frag) (mg : Str → Option Value) (base : Heap) (f cda cc : Addr) (A : Around) (outer : List Env) (s : Shared) (H : Hp) (xe : Value → Shared → Prop) : Cx where
  prog := P
  w := w
  K := K
  mg := mg
  base := base
  A := A.deeper (PySem.W.ksEnv "Refused.__init__" (defScope sRef) s.heap.objs.size f (.ref cda) cc)
  N := nRef
  s_0 := s
  H_0 := H
  env := PySem.W.ksEnv "Refused.__init__" (defScope sRef) s.heap.objs.size f (.ref cda) cc
  outer := outer
  stack := PySem.W.ksEnv "Refused.__init__" (defScope sRef) s.heap.objs.size f (.ref cda) cc :: outer
  ex := []
  fn := fun _ => false
  calm := true
  pn := []
  xe := xe
/-- the reading of the body's second statement; of the argument -/
def spRef (C : Addr) : Sp := fun vs H Q E => ∃ (a : Addr) (r : Str), vs = [.ref a, .str r] ∧ H a = some (exo a C none) ∧ r.length ≤ 1000 ∧ ∀ dx, H dx = none → dx ≠ a → Q .non (upd (upd H dx (exd dx [("reason", .str r)])) a (exo a C (some dx)))
theorem lookup_one {x y : Str} {c v : Addr} (h : ([(y, c)] : List (Str × Addr)).lookup x = some v) : x = y ∧ v = c := by
  rw [List.lookup_cons] at h
  split at h
  · rename_i e
    cases h
    exact ⟨by simpa using e, rfl⟩
  · cases h
section
variable {P : Program} {w : World} {K : PySem.W.Frag} {mg : Str → Option Value} {base : Heap}
theorem ref_inv {A : Around} {outer : List Env} {s : Shared} {H : Hp} {f cda cc : Addr} {xe : Value → Shared → Prop} {h0 : Heap} {t0 : Nat} {v1 v2 : V} {u1 u2 : Value} {cl : Value} {cld : Option Addr} {csl : Array (Option Value)} {cv : Option Value} (hd : A.handled = none) (e0 : Env0 P w K mg base A outer s H)
    (hcc : K.lookup cc = some ⟨cl, cld, .cell cv, csl⟩) (hns : h0.Ns s.heap.objs.size fun x => ([("self", u1), ("reason", u2)] : List (Str × Value)).reverse.lookup x) (hk : ∀ b o, s.heap.get? b = some o → h0.get? b = some o) (r1 : RelV v1 u1) (r2 : RelV v2 u2) :
    Inv (cxRef P w K mg base f cda cc A outer s H xe) [] [some v1, some v2] H ⟨h0, s.gens, s.drawn, t0, s.os⟩ := by
  have hb := e0.mod.kin _ _ hcc
  refine ⟨⟨e0.mod, rfl, rfl, rfl, Nat.le_refl _, fun y z c h1 h2 => ?_, fun y hy => ?_, fun y c h => (nomatch h), fun _ => hd, Around.frames_deeper e0.frames, .inr ⟨rfl, rfl⟩, fun b z => absurd (show b ∈ ([] : List Addr) from z) (by simp), e0.bs, e0.bsz, fun b _ _ z => absurd (show b ∈ ([] : List Addr) from z) (by simp), fun b z => absurd (show b ∈ ([] : List Addr) from z) (by simp), e0.funs, e0.frf⟩,
    rfl, e0.bare, Un.kept hk, ⟨_, hns, fun i y v h1 h2 h3 => ?_⟩, fun y c h => ?_, e0.hok.fresh (Nat.le_refl _), fun y c h => ?_, fun p hp => absurd (show p ∈ ([] : List (Addr × Obj)) from hp) (by simp), e0.hok.kept hk, rfl⟩
  · exact (lookup_one h1).1.trans (lookup_one h2).1.symm
  · have hy : (defScope sRef).names.lookup y = some .cell ∨ (defScope sRef).names.lookup y = some .free := hy
    have hall : ∀ z ∈ (defScope sRef).names, z.2 ≠ .cell ∧ (z.2 = .free → z.1 = ("__class__" : Str)) := by decide +kernel
    rcases hy with hy | hy
    · exact absurd rfl (hall _ (PySem.mem_of_lookup hy)).1
    · obtain rfl := (hall _ (PySem.mem_of_lookup hy)).2 rfl
      exact ⟨cc, rfl⟩
  · match i, h1, h2 with
    | 0, h1, h2 =>
      cases h1
      cases h2
      exact ⟨u1, r1, .inl ⟨rfl, rfl⟩⟩
    | 1, h1, h2 =>
      cases h1
      cases h2
      exact ⟨u2, r2, .inl ⟨rfl, rfl⟩⟩
    | i + 2, h1, h2 => simp at h2
  · obtain ⟨_, rfl⟩ := lookup_one h
    exact ⟨_, _, hk _ _ (e0.bs _ _ hb).1, rfl⟩
  · obtain ⟨_, rfl⟩ := lookup_one h
    exact (e0.bs _ _ hb).2
end
section
variable {P : Program} {w : World} {K : PySem.W.Frag} {mg : Str → Option Value} {base : Heap}
theorem fnRef {C f : Addr} {fd : FuncData} {k : Nat} (T : RefI P K mg C f fd) : FnOk P w K mg base CX0 (k + 1) f fd nRef (spRef C) := by
  refine ⟨fun vs H Q E ⟨a, r, h, _⟩ => by rw [h]; rfl, fun A outer s H args us vs Q E hr e0 hb rv ⟨a, r, hv, ea, hl, q⟩ => ?_⟩
  obtain ⟨oc, od, osl, dV, kV, doc, pm, an, cda, ct, cc, ccl, cdd, cvs, ccs, tf, file, cl, cld, csl, rfl, lk, hcd, hcode, hvs, hfile, hcc⟩ := T.ex
  subst hv
  have KX : K.In s.heap := e0.mod.kin.keeps fun b o e => (e0.bs b o e).1
  have lim : s.heap.NoLimit := e0.mod.nolimit.keeps fun b o e => (e0.bs b o e).1
  cases rv with
  | @cons _ u1 _ ur ra rw' =>
  cases rw' with
  | @cons _ u2 _ ur2 rb rn =>
  cases rn
  obtain rfl : u1 = Value.ref a := ra
  obtain ⟨tk, rfl⟩ : ∃ tk, u2 = Value.str r tk := rb
  refine PySem.ks_codeAny_call_defAt (fd := PySem.W.ksFn "__init__" "Refused.__init__" (defArgs sRef) (defBody sRef) (defScope sRef) dV kV doc pm an (.ref cda) ct cc) (body := defBody sRef) hr.depth (KX _ _ lk) rfl lim (PySem.W.codeRec_of KX hcd) rfl hb (by show ∀ x ∈ (defScope sRef).names, x.2 ≠ .cell; decide +kernel) (fun x hx => ?_) (fun h0 hns hk => ?_)
  · have hx : x = (("self" : Str), Value.ref a) ∨ x = (("reason" : Str), Value.str r tk) := by simpa [nRef] using hx
    rcases hx with rfl | rfl
    · rfl
    · rfl
  obtain ⟨xe, hxe⟩ : ∃ xe : Value → Shared → Prop, xe = (fun (e : Value) (s' : Shared) => wpAny (model P w) (A.deeper (callEnv (PySem.W.ksFn "__init__" "Refused.__init__" (defArgs sRef) (defBody sRef) (defScope sRef) dV kV doc pm an (.ref cda) ct cc) s.heap.objs.size f)) (leaving (callEnv (PySem.W.ksFn "__init__" "Refused.__init__" (defArgs sRef) (defBody sRef) (defScope sRef) dV kV doc pm an (.ref cda) ct cc) s.heap.objs.size f) e) (fun _ s'' => CR CX0 outer P w H s Q E (.error e) s'') (fun e' s'' => CR CX0 outer P w H s Q E (.error e') s'') s') := ⟨_, rfl⟩
  refine PySem.ks_wpAt_mono (E := xe) ?_ (fun _ _ h => h) (fun e s' h => by rw [hxe] at h; exact h)
  show PySem.wpAt _ (cxRef P w K mg base f cda cc A outer s H xe).A (.func (defBody sRef) (cxRef P w K mg base f cda cc A outer s H xe).env) (execs (defBody sRef) (cxRef P w K mg base f cda cc A outer s H xe).env) _ _ _
  have I0 := ref_inv (f := f) (cda := cda) (xe := xe) (t0 := s.toks + 2) hr.hd e0 hcc hns hk (v1 := .ref a) (v2 := .str r) rfl ⟨tk, rfl⟩
  obtain ⟨nm, qn, N, bs, bm, sn, sub, ab, col, dd, k0, k1, k2, k3, k5, hC, hbm⟩ := T.oex.cls
  have hcl : PySem.W.clsIn K C = some { name := nm, bases := bs, mro := .ref C :: bm, ns := N, qualname := qn, hasDict := true, slotNames := sn, subclasses := sub, abstract := ab, collection := col, hasDel := false } := by unfold PySem.W.clsIn; rw [hC] <;> rfl
  obtain ⟨mb, hmb1, hmb2⟩ := e0.mod.blt
  obtain ⟨t1, hoa⟩ := exo_at I0.hok ea
  have KX0 : K.In h0 := I0.kIn
  refine PySem.ks_wpAt_execs_cons (PySem.ks_wpAt_Expr_any (PySem.ks_wpAt_MethodCall ?_))
  refine PySem.ks_wpAt_super_base (cc := cda) (f := f) (vs := cvs) (file := file) (tf := tf) rfl rfl rfl rfl (KX0 _ _ lk) rfl rfl rfl (KX0 _ _ hcode) rfl hvs hfile T.htop ?_
  refine PySem.W.ks_loadName_global rfl rfl (Calls.loadGlobal_builtin (e0.mod.glob.keeps I0.bk) T.msup (hmb1.keeps I0.bk) ((hmb2 _ (by decide)).trans (by first | boot_by_name | rfl | kernel_rfl)) ⟨rfl, ?_⟩)
  refine wpAny_loadName_free rfl rfl rfl ⟨_, KX0 _ _ hcc, rfl⟩ ?_
  refine wpAny_loadName_local rfl rfl hns rfl ?_
  refine PySem.ks_wpAny_isType_cls (KX0 _ _ hC) rfl ⟨rfl, ?_⟩
  refine PySem.ks_wpAny_call_super (KX0 _ _ hC) rfl hoa rfl (fun c z => nomatch z) (PySem.W.looks_mroIn KX0 T.self) (fun h1 hso hk1 => ?_)
  have I1 := I0.kept (t' := s.toks + 2 + 1) hk1
  have KX1 : K.In h1 := KX0.keeps hk1
  have IA : PySem.W.InstAt h1 a _ C none := ⟨hk1 _ _ hoa, rfl, rfl, trivial⟩
  have hsup := T.sup
  unfold PySem.W.ks_superIn at hsup
  rw [hcl] at hsup
  refine PySem.W.kxs_getMethod PySem.W.kxs_ValueError hso (PySem.W.looks_opaque KX1 T.any) (l₀ := .ref C :: bm) (fun A Q E s k q => wpAny_bind ((PySem.W.looks_clsIn KX1 hcl) A _ E s k (wpAny_pure q))) rfl KX1 hsup (IA.type.andThen (PySem.W.looks_subIn KX1 T.sub)) (PySem.W.ks_ne KX1 IA hcl) rfl ?_
  have hk2 : ∀ b o, h1.get? b = some o → (h1.push (PySem.W.kxs_mw "ValueError.__init__" a)).get? b = some o := fun b o z => Heap.get?_push_of_some _ z
  have I2 := (I1.kept (t' := s.toks + 2 + 1) hk2).pins_of (pins' := [(h1.objs.size, PySem.W.kxs_mw "ValueError.__init__" a)]) (fun p hp => by
    obtain rfl := List.mem_singleton.mp hp
    exact ⟨Heap.get?_push_at rfl rfl, I1.hok.fresh (Nat.le_refl _), Nat.ne_of_gt I1.lt, I1.nofs (Nat.le_refl _), fun v z => nomatch z⟩)
  refine PySem.W.kxs_callWith (i := "ValueError.__init__") (x := a) rfl (Calls.evalArgs_plain ?_)
  refine thn ((pa_cons (X := cxRef P w K mg base f cda cc A outer s H xe) (pe_op op_add_str pe_str (pe_var (i := 1) (x := "reason") rfl (.inl rfl))) pa_nil).run _ _ _ _ H (fun vs H' => vs = [.str ("refused: " ++ r)] ∧ H' = H) I2 ?_) fun us s3 ⟨vs, H3, I3, r3, ev, eH⟩ => ?_
  · refine ⟨_, rfl, _, _, rfl, rfl, ?_, rfl, rfl⟩
    have hs : (("refused: " : Str) : Str).length = 9 := by decide +kernel
    rw [hs]
    have := sz_of (n := 9 + r.length) (by omega)
    exact this
  subst ev
  subst eH
  cases r3 with
  | @cons _ u3 _ ur3 rs rn3 =>
  cases rn3
  have hmw := (I3.pin (h1.objs.size, PySem.W.kxs_mw "ValueError.__init__" a) (by simp [cxRef])).1
  obtain ⟨t3, ho3⟩ := exo_at I3.hok ea
  obtain ⟨hp3, g3, d3, tk3, os3⟩ := s3
  refine ⟨hmw, call_bwV (I3.kIn _ _ hC) ho3 hmw (by show 1 ≤ sizeLine; decide) fun h4 t4 k4 hx4 => ?_⟩
  have I4 := (I3.write (t' := tk3) (x := a) (e := a) (o := exo a C none) (by rw [ea]; exact True.intro) (.inl rfl) k4 ⟨_, hx4⟩ (exo_ok hx4)).pins_of (pins' := []) (fun p hp => by simp at hp)
  have eu : upd H3 a (exo a C none) = H3 := by
    funext b
    by_cases hb : b = a
    · rw [hb, upd_same, ea]
    · rw [upd_ne hb]
  rw [eu] at I4
  refine PySem.wpAt_of_wpAny ?_
  refine thn ((pss_cons (ps_ost (f := "reason") (pe_var (X := cxRef P w K mg base f cda cc A outer s H3 xe) (i := 0) (x := "self") rfl (.inl rfl)) (pe_var (i := 1) (x := "reason") rfl (.inl rfl))) pss_nil).run _ _ _ _ { nx := fun _ H' => Q .non H', rt := Q } I4 ?_) fun fl s' hs => ?_
  · exact ⟨_, rfl, _, rfl, a, C, rfl, T.oex, T.no, .inl ⟨ea, fun dx n1 n2 => q dx n1 n2⟩⟩
  · cases fl with
    | ret u =>
      obtain ⟨v, σ', H', J, rv, q⟩ := hs
      exact ⟨v, H', J.os, J.bare, J.base, J.hok, rv, q⟩
    | next =>
      obtain ⟨σ', H', J, q⟩ := hs
      exact ⟨.non, H', J.os, J.bare, J.base, J.hok, rfl, q⟩
    | brk =>
      obtain ⟨_, _, _, q⟩ := hs
      exact False.elim q
    | cont =>
      obtain ⟨_, _, _, q⟩ := hs
      exact False.elim q
end

end G
namespace G
open PySem PySem.Spec PyProof.Rows L2 Evl
--nomac
/-! R2: raise Refused('..') -/
structure RefK (P : Program) (K : PySem.W.Frag) (mg : Str → Option Value) (CR : Addr) : Prop where
  ex : ∃ fI fd, RefI P K mg CR fI fd ∧ PySem.W.findIn K (.ref CR) "__init__" = some (some (.ref fI)) ∧ PySem.W.typeIn K (.ref fI) = some (.type "function") ∧ Binds K fd nRef []
  mgR : mg "Refused" = some (.ref CR)
section
variable {X : Cx} {T : Ent} {ρ : Rho} {cs : Cs}
theorem a1_raise {CR : Addr} {k j : Nat} {m : Str} {p p2 pos pos' : Pos} {E : AE} {Ex0 : XK} {R : Str → Prop} (C : RefK X.prog X.K X.mg CR) (hr : Room (k + 2) X.A) (tk : Takes X (fun cls d _ H => Ex0 cls d H)) (hX : XOk CR T Ex0 R) (hR : R m) (hl : m.length ≤ 1000)
    (hc : X.calm = true := by rfl) (hg : Gl X "Refused" := by rfl) : A1 X T (.Raise (some (.Call (.Name "Refused" p) [.Constant (.str m) j p2] [] pos)) none pos') ρ cs E := fun σ F H he hh => by
  obtain ⟨fI, fd, RI, iC, tI, bI⟩ := C.ex
  have hne : ∀ {b : Addr} {o : HO} {a : Addr}, H b = some o → H a = none → b ≠ a := fun {b o a} h1 h2 e => by
    rw [e, h2] at h1
    cases h1
  refine wS_of (ps_raise hc tk (pmk_oex RI.oex iC tI (fnRef RI (k := k)) hr bI .nil L2.pass0 hg C.mgR (pa_cons pe_str pa_nil))) ?_
  refine ⟨by show 1 ≤ 1000; decide, fun a ha => ⟨a, m, rfl, upd_same, hl, fun dx hdx hda => ⟨rfl, dx, _, upd_same, by rw [upd_ne hda]; exact upd_same, ?_, ?_⟩⟩⟩
  · rw [upd_ne hda] at hdx
    exact hdx
  · have hdx2 : H dx = none := by
      rw [upd_ne hda] at hdx
      exact hdx
    refine hX m _ dx hR (fun b o hb hmu => ?_) upd_same
    have h1 := hh.keep b o hb hmu
    have hba := hne h1 ha
    have hbd := hne h1 hdx2
    rw [upd_ne hbd, del_ne hba, upd_ne hba, upd_ne hbd, upd_ne hba]
    exact h1
/-- within a def that may raise -/
theorem pasX {CR : Addr} {Ex0 : XK} {R R' : Str → Prop} (tk : Takes X (fun cls d _ H => Ex0 cls d H)) (hX : XOk CR T Ex0 R) (h : ∀ z, R' z → R z) : Pas X T (L2.CX X.prog X.w) CR R' :=
  ⟨Ex0, passes_call tk fun _ _ _ _ h => h, fun z H' dx hz => hX z H' dx (h z hz)⟩
end

end G
namespace G
open PySem PySem.Spec PyProof.Rows L2 Evl
local macro_rules | `(tactic| walk_at "ix") => `(tactic| with_reducible (first
  | exact AtN.z | exact AtN.s AtN.z | exact AtN.s (AtN.s AtN.z) | exact AtN.s (AtN.s (AtN.s AtN.z)) | exact AtN.s (AtN.s (AtN.s (AtN.s AtN.z)))
  | exact AtN.s (AtN.s (AtN.s (AtN.s (AtN.s AtN.z)))) | exact AtN.s (AtN.s (AtN.s (AtN.s (AtN.s (AtN.s AtN.z))))) | exact AtN.s (AtN.s (AtN.s (AtN.s (AtN.s (AtN.s (AtN.s AtN.z))))))
  | exact AtN.s (AtN.s (AtN.s (AtN.s (AtN.s (AtN.s (AtN.s (AtN.s AtN.z))))))) | exact AtN.s (AtN.s (AtN.s (AtN.s (AtN.s (AtN.s (AtN.s (AtN.s (AtN.s AtN.z)))))))) | exact AtN.s (AtN.s (AtN.s (AtN.s (AtN.s (AtN.s (AtN.s (AtN.s (AtN.s (AtN.s AtN.z)))))))))
  | exact AtN.s (AtN.s (AtN.s (AtN.s (AtN.s (AtN.s (AtN.s (AtN.s (AtN.s (AtN.s (AtN.s AtN.z))))))))))
  | exact AtN.s (AtN.s (AtN.s (AtN.s (AtN.s (AtN.s (AtN.s (AtN.s (AtN.s (AtN.s (AtN.s (AtN.s AtN.z)))))))))))
  | exact AtN.s (AtN.s (AtN.s (AtN.s (AtN.s (AtN.s (AtN.s (AtN.s (AtN.s (AtN.s (AtN.s (AtN.s (AtN.s AtN.z))))))))))))
  | exact AtN.s (AtN.s (AtN.s (AtN.s (AtN.s (AtN.s (AtN.s (AtN.s (AtN.s (AtN.s (AtN.s (AtN.s (AtN.s (AtN.s AtN.z)))))))))))))
  | exact AtN.s (AtN.s (AtN.s (AtN.s (AtN.s (AtN.s (AtN.s (AtN.s (AtN.s (AtN.s (AtN.s (AtN.s (AtN.s (AtN.s (AtN.s AtN.z))))))))))))))))
local macro_rules | `(tactic| walk_at "ev1") => `(tactic| first
  | with_reducible refine ax_int ?_ | with_reducible refine ax_bl ?_ | with_reducible refine ax_non ?_ | with_reducible refine ax_str ?_
  | ((with_reducible show Ax _ _ (Expr.Name _ _) _ _ _); refine ax_u $(Lean.mkIdent `hN) (by walk_at "ix") rfl ?_)
  | ((with_reducible show Ax _ _ (Expr.Compare _ _ _ _) _ _ _); first | (with_reducible refine ax_cmpR cmp_lt ?_) | (with_reducible refine ax_cmpR cmp_le ?_) | (with_reducible refine ax_cmpR cmp_gt ?_) | (with_reducible refine ax_cmpR cmp_ge ?_) | (with_reducible refine ax_cmpR cmp_eq ?_) | (with_reducible refine ax_cmpR cmp_ne ?_) | (with_reducible refine ax_cmpR cmp_is ?_) | (with_reducible refine ax_cmpR cmp_isN ?_))
  | ((with_reducible show At _ _ (Expr.Compare _ _ _ _) _ _ _); first | (with_reducible refine at_cmpR cmp_lt ?_) | (with_reducible refine at_cmpR cmp_le ?_) | (with_reducible refine at_cmpR cmp_gt ?_) | (with_reducible refine at_cmpR cmp_ge ?_) | (with_reducible refine at_cmpR cmp_eq ?_) | (with_reducible refine at_cmpR cmp_ne ?_) | (with_reducible refine at_cmpR cmp_is ?_) | (with_reducible refine at_cmpR cmp_isN ?_))
  | with_reducible refine ax_add ?_ | with_reducible refine ax_sub ?_ | with_reducible refine ax_mul ?_ | with_reducible refine ax_fdiv ?_ | with_reducible refine ax_mod ?_ | with_reducible refine ax_shl ?_ | with_reducible refine ax_shr ?_ | with_reducible refine ax_and ?_ | with_reducible refine ax_or ?_ | with_reducible refine ax_neg ?_
  | with_reducible refine ax_one ?_ | with_reducible refine ax_andv ?_ | with_reducible refine ax_orv ?_ | with_reducible refine ax_notv ?_ | with_reducible refine at_one ?_ | with_reducible refine at_and ?_ | with_reducible refine at_or ?_ | with_reducible refine at_not ?_ | with_reducible refine ax_if ?_
  | ((with_reducible show Ax _ _ (Expr.Subscript _ _ _) _ _ _); refine ax_ix ?_) | with_reducible refine ax_tup ?_ | ((with_reducible show Aa _ _ (_ :: _) _ _ _); refine aa_cons ?_) | with_reducible refine aa_nil ?_
  | ((with_reducible show Ax _ _ (Expr.Call (Expr.Name "len" _) _ _ _) _ _ _); refine ax_len (Mods.len $(Lean.mkIdent `M)) ?_)
  | ((with_reducible show Ax _ _ (Expr.Call (Expr.Name "int" _) _ _ _) _ _ _); refine ax_int1 (Mods.int $(Lean.mkIdent `M)) ?_)
  | ((with_reducible show Ax _ _ (Expr.Call (Expr.Name "abs" _) _ _ _) _ _ _); refine ax_abs (Mods.abs $(Lean.mkIdent `M)) ?_)
  | ((with_reducible show Ax _ _ (Expr.Call (Expr.Name "tuple" _) _ _ _) _ _ _); refine ax_tuple (Mods.tuple $(Lean.mkIdent `M)) ?_)
  | ((with_reducible show Ax _ _ (Expr.Call (Expr.Name "has" _) _ _ _) _ _ _); refine ax_call $(Lean.mkIdent `cHas) (Room.mono $(Lean.mkIdent `hr) (by decide)) pas0 ?_)
  | ((with_reducible show Ax _ _ (Expr.Call (Expr.Name "set_of" _) _ _ _) _ _ _); refine ax_call $(Lean.mkIdent `cSetOf) (Room.mono $(Lean.mkIdent `hr) (by decide)) pas0 ?_)
  | ((with_reducible show Ax _ _ (Expr.Call (Expr.Name "members" _) _ _ _) _ _ _); refine ax_call $(Lean.mkIdent `cMembers) (Room.mono $(Lean.mkIdent `hr) (by decide)) pas0 ?_)
  | ((with_reducible show Ax _ _ (Expr.Call (Expr.Name "is_integer" _) _ _ _) _ _ _); refine ax_call $(Lean.mkIdent `cIsInt) (Room.mono $(Lean.mkIdent `hr) (by decide)) pas0 ?_)
  | ((with_reducible show Ax _ _ (Expr.Call (Expr.Attribute _ "bit_length" _) _ _ _) _ _ _); refine ax_bits ?_)
  | ((with_reducible show Ax _ _ (Expr.Call (Expr.Name "isinstance" _) [_, Expr.Name "int" _] _ _) _ _ _); refine ax_isi (u := "int") (Mods.isinstance $(Lean.mkIdent `M)) (Mods.int $(Lean.mkIdent `M)) boot_int ?_)
  | ((with_reducible show Ax _ _ (Expr.Call (Expr.Name "isinstance" _) [_, Expr.Name "bool" _] _ _) _ _ _); refine ax_isi (u := "bool") (Mods.isinstance $(Lean.mkIdent `M)) (Mods.bool $(Lean.mkIdent `M)) boot_bool ?_)
  | ((with_reducible show Ax _ _ (Expr.Call (Expr.Name "isinstance" _) [_, Expr.Name "tuple" _] _ _) _ _ _); refine ax_isi (u := "tuple") (Mods.isinstance $(Lean.mkIdent `M)) (Mods.tuple $(Lean.mkIdent `M)) boot_tuple ?_)
  | ((with_reducible show Ax _ _ (Expr.Call (Expr.Name "isinstance" _) [_, Expr.Tuple [Expr.Name "list" _, Expr.Name "tuple" _] _ _] _ _) _ _ _); refine ax_isi2 (u1 := "list") (u2 := "tuple") (Mods.isinstance $(Lean.mkIdent `M)) (Mods.list $(Lean.mkIdent `M)) (Mods.tuple $(Lean.mkIdent `M)) boot_list boot_tuple ?_)
  | ((with_reducible show ∃ t k, tyD _ = some t ∧ kitB t _ = some k ∧ _); refine ⟨_, _, rfl, by with_reducible (first | exact kit_ii | exact kit_ib | exact kit_tt), ?_⟩)
  | ((with_reducible show S_isInt _ _ _); refine ⟨_, rfl, ?_⟩) | ((with_reducible show S_has _ _ _); refine ⟨_, _, rfl, ?_⟩)
  | ((with_reducible show REq _ _ _ _); refine ⟨_, rfl, ?_⟩) | ((with_reducible show RNe _ _ _ _); refine ⟨_, rfl, ?_⟩) | ((with_reducible show RI _ _ _ _ _); refine ⟨_, _, rfl, rfl, ?_⟩)
  | with_reducible refine ⟨_, _, rfl, rfl, ?_⟩
  | with_reducible refine ⟨_, rfl, ?_⟩
  | ((with_reducible show At _ _ (Expr.Name _ _) _ _ _); refine at_val ?_) | ((with_reducible show At _ _ (Expr.Call _ _ _ _) _ _ _); refine at_val ?_) | ((with_reducible show At _ _ (Expr.Subscript _ _ _) _ _ _); refine at_val ?_))
local macro_rules | `(tactic| walk_at "ev") => `(tactic| repeat walk_at "ev1")
local macro_rules | `(tactic| walk_at "st1") => `(tactic| first
    | ((with_reducible show A1 _ _ (Stmt.Return _ _) _ _ _); refine a1_ret ?_)
    | ((with_reducible show A1 _ _ (Stmt.If _ _ _ _) _ _ _); refine a1_if ?_)
    | ((with_reducible show A1 _ _ (Stmt.Expr _ _) _ _ _); refine a1_drop ?_)
    | ((with_reducible show A1 _ _ (Stmt.Assign [Expr.Name _ _] _ _) _ _ _); refine a1_setU $(Lean.mkIdent `hN) (by walk_at "ix") $(Lean.mkIdent `hnd) ?_)
    | ((with_reducible show A1 _ _ (Stmt.Assign _ _ _) _ _ _); refine a1_asg ?_))
local macro_rules | `(tactic| walk_at "st") => `(tactic| first
  | ((with_reducible show As _ _ [] _ _ _); refine as_nil ?_)
  | (refine as_cons ?_; walk_at "st1"))
local macro_rules | `(tactic| walk_at "newl") => `(tactic| refine as_setU $(Lean.mkIdent `hN) (by walk_at "ix") $(Lean.mkIdent `hnd) (ax_lstC (aa_nil ⟨by decide, ?_⟩)))
local macro_rules | `(tactic| walk_at "for") => `(tactic| (refine as_cons ?_; refine a1_for ?hp ?_ ?hc ?hs; (case hp => exact PassesOwn.never); (case hc => rfl); (case hs => intro _; rfl)))
local macro_rules | `(tactic| walk_at "tgt") => `(tactic| refine ag_nameU $(Lean.mkIdent `hN) (by walk_at "ix") $(Lean.mkIdent `hnd) ?_)
local macro_rules | `(tactic| walk_at "rng") => `(tactic| refine ai_range1 (Mods.range $(Lean.mkIdent `M)) ?_)
local macro_rules | `(tactic| walk_at "while") => `(tactic| (refine as_cons ?_; refine a1_while ?hp ?I ?h0 ?hs; (case hp => exact PassesOwn.never)))
local macro_rules | `(tactic| walk_at "pair") => `(tactic| refine ag_pairU $(Lean.mkIdent `hN) (by walk_at "ix") (by walk_at "ix") $(Lean.mkIdent `hnd) ?hd ?_)
local macro_rules | `(tactic| walk_at "blk") => `(tactic| exact blkOk_by (by decide +kernel))
/-! P8: the order -/
abbrev ordF : List Str := ["n", "above"]
def ordD (CO : Addr) (n : Nat) (R : Rl) : Dt := .ins CO ordF [natD n, .tup (rowsD n R)]
structure OrdC (K : PySem.W.Frag) (CO : Addr) : Prop where
  cl : Cls K CO
  n : NoAttr K CO "n"
  a : NoAttr K CO "above"
section
variable {P : Program} {w : World} {K : PySem.W.Frag} {mg : Str → Option Value} {base : Heap} {CR CO : Addr}
abbrev sOrI : Stmt := inClass (topS 15) 0
abbrev nOrI : List Str := ["self", "n", "pairs"]
theorem scOrI : FnScope nOrI ["self", "n", "pairs"] (defScope sOrI) := ⟨rfl, rfl, rfl, by decide +kernel, rfl, by decide +kernel, by decide +kernel⟩
abbrev sOrE : Stmt := inClass (topS 15) 2
abbrev nOrE : List Str := ["self", "other"]
theorem scOrE : FnScope nOrE ["self", "other"] (defScope sOrE) := ⟨rfl, rfl, rfl, by decide +kernel, rfl, by decide +kernel, by decide +kernel⟩
abbrev sOrS : Stmt := inClass (topS 15) 3
abbrev nOrS : List Str := ["self"]
theorem scOrS : FnScope nOrS ["self"] (defScope sOrS) := ⟨rfl, rfl, rfl, by decide +kernel, rfl, by decide +kernel, by decide +kernel⟩
abbrev sOrL : Stmt := inClass (topS 15) 5
abbrev nOrL : List Str := ["self", "x", "y"]
theorem scOrL : FnScope nOrL ["self", "x", "y"] (defScope sOrL) := ⟨rfl, rfl, rfl, by decide +kernel, rfl, by decide +kernel, by decide +kernel⟩
def S_ordI (CO : Addr) : Sd := fun ds cs P R => ∃ (y : Addr) (n : Nat) (ps : List (Nat × Nat)), ds = [.cell y, natD n, .lst (ps.map pairN)] ∧ cs = [(y, .o CO [] [])] ∧ n ≤ 900 ∧ InR n ps ∧ ps.length ≤ 10000 ∧
  (n ≤ 10 → (∀ x, x < n → war n (rel ps) x x = false) ∧ P .non [(y, .o CO ordF [natD n, .tup (rowsD n (war n (rel ps)))])]) ∧ (10 < n → R "large")
theorem ok_ordI {f : Addr} {fd : FuncData} (F : Fun K "__init__" "Order.__init__" sOrI f fd) (M : Mods mg) (cC : OrdC K CO) (cR : RefK P K mg CR) (cIsInt : Fo P w K mg base CX0 CR 1 "is_integer" (pureS S_isInt))
    (cChk : Fo P w K mg base CX0 CR 2 "_checked_pairs" (pureS S_chkO)) (cClos : Fo P w K mg base CX0 CR 2 "_closed" (pureS S_closO)) : FnOk P w K mg base (L2.CX P w) 4 f fd ["self", "n", "pairs"] (spOf K CR (S_ordI CO)) := by
  refine def_okX F scOrI (fun ds cs Pd R ⟨_, n, ps, h, _⟩ => by rw [h]; rfl) fun cdv A outer s F H E ds cs Pd R hr ⟨a, n, ps, hd, hcs, hn, hin, hlen, k1, k2⟩ hX => ?_
  subst hcs
  subst hd
  have hnd := scOrI.nd
  have hN := cx_N (L2.CX P w) P w K mg base nOrI "Order.__init__" (defScope sOrI) f cdv A outer s H E
  have tk : Takes (cxOf (L2.CX P w) P w K mg base nOrI "Order.__init__" (defScope sOrI) f cdv A outer s H E) (fun cls d _ H' => E cls d H') := takes_of rfl rfl rfl rfl
  obtain ⟨tm, hm⟩ := M.most
  walk_at "st"
  walk_at "ev"
  refine ⟨fun h => (nomatch h), fun _ => ?_⟩
  walk_at "ev"
  refine ⟨fun h => absurd (of_decide_eq_true h) (by omega), fun _ => ?_⟩
  walk_at "st"
  walk_at "st"
  walk_at "ev"
  refine ax_gint rfl hm (by decide) ?_
  walk_at "ev"
  refine ⟨fun h => ?_, fun h => ?_⟩
  · have h1 : 10 < n := by have := of_decide_eq_true h; omega
    exact as_cons (a1_raise cR (k := 1) (Room.mono hr (by decide)) tk hX (k2 h1) (by decide))
  have h1 : n ≤ 10 := by have := of_decide_eq_false h; omega
  obtain ⟨hirr, k3⟩ := k1 h1
  walk_at "st"
  refine as_cons (a1_fld cC.cl cC.n ?_)
  walk_at "ev"
  refine ⟨0, a, [], [], rfl, rfl, by simp, by decide, ?_⟩
  refine as_cons (a1_fld cC.cl cC.a ?_)
  refine ax_call cClos (Room.mono hr (by decide)) pas0 ?_
  walk_at "ev"
  refine ax_call cChk (Room.mono hr (by decide)) pas0 ?_
  walk_at "ev"
  refine ⟨n, ps, rfl, hin, hlen, ?_⟩
  walk_at "ev"
  refine ⟨n, ps, _, rfl, hn, .inl rfl, hin, hirr, ?_⟩
  walk_at "ev"
  refine ⟨0, a, _, _, rfl, rfl, by decide, by decide, ?_⟩
  walk_at "st"
  exact k3
def S_ordE (CO : Addr) : List Dt → (Dt → Prop) → (Str → Prop) → Prop := fun ds P _ => ∃ (n : Nat) (R : Rl), ds = [ordD CO n R, ordD CO n R] ∧ P (.bl true)
theorem rows_ints (n : Nat) (R : Rl) : rowsD n R = ((List.range n).map fun x => ((bitsOf n (R x) : Nat) : Int)).map Dt.int := by
  rw [List.map_map]
  rfl
theorem ok_ordE {f : Addr} {fd : FuncData} (F : Fun K "__eq__" "Order.__eq__" sOrE f fd) (M : Mods mg) (cC : OrdC K CO) (cI : IsC K CO) (hm : mg "Order" = some (.ref CO)) : FnOk P w K mg base CX0 2 f fd ["self", "other"] (spOf K CR (pureS (S_ordE CO))) := by
  refine def_ok F scOrE (fun ds cs Pd R ⟨_, n, R, h, _⟩ => by rw [h]; rfl) fun cdv A outer s F H E ds cs Pd R0 hr ⟨hcs, n, R, hd, k⟩ => ?_
  subst hcs
  subst hd
  have hnd := scOrE.nd
  have hN := cx_N CX0 P w K mg base nOrE "Order.__eq__" (defScope sOrE) f cdv A outer s H E
  walk_at "st"
  refine ax_andv (ax_isiC M.isinstance hm cI ?_)
  walk_at "ev"
  refine ⟨_, _, rfl, _, rfl, fun _ => ?_, fun h => (nomatch h)⟩
  walk_at "ev"
  refine ax_fld cC.cl cC.n ?_
  walk_at "ev"
  refine ⟨_, _, 0, _, .inl rfl, rfl, by decide, rfl, ?_⟩
  refine ax_fld cC.cl cC.n ?_
  walk_at "ev"
  refine ⟨_, _, 0, _, .inl rfl, rfl, by decide, rfl, ?_⟩
  walk_at "ev"
  rw [dec_nat, decide_eq_true (rfl : n = n)]
  refine ⟨fun _ => ?_, fun h => (nomatch h)⟩
  refine ax_one (ax_cmpR (cmp_eqT (Room.u64 hr)) ?_)
  refine ax_fld cC.cl cC.a ?_
  walk_at "ev"
  refine ⟨_, _, 1, _, .inl rfl, rfl, by decide, rfl, ?_⟩
  refine ax_fld cC.cl cC.a ?_
  walk_at "ev"
  refine ⟨_, _, 1, _, .inl rfl, rfl, by decide, rfl, ?_⟩
  exact ⟨_, by rw [rows_ints], by rw [rows_ints], k⟩
def S_ordS (CO : Addr) : List Dt → (Dt → Prop) → (Str → Prop) → Prop := fun ds P _ => ∃ (n : Nat) (R : Rl), ds = [ordD CO n R] ∧ P (natD n)
theorem ok_ordS {f : Addr} {fd : FuncData} (F : Fun K "size" "Order.size" sOrS f fd) (cC : OrdC K CO) : FnOk P w K mg base CX0 2 f fd ["self"] (spOf K CR (pureS (S_ordS CO))) := by
  refine def_ok F scOrS (fun ds cs Pd R ⟨_, n, R, h, _⟩ => by rw [h]; rfl) fun cdv A outer s F H E ds cs Pd R0 hr ⟨hcs, n, R, hd, k⟩ => ?_
  subst hcs
  subst hd
  have hnd := scOrS.nd
  have hN := cx_N CX0 P w K mg base nOrS "Order.size" (defScope sOrS) f cdv A outer s H E
  walk_at "st"
  refine ax_fld cC.cl cC.n ?_
  walk_at "ev"
  exact ⟨_, _, 0, _, .inl rfl, rfl, by decide, rfl, k⟩
def S_ordL (CO : Addr) : List Dt → (Dt → Prop) → (Str → Prop) → Prop := fun ds P _ => ∃ (n : Nat) (R : Rl) (x y : Nat), ds = [ordD CO n R, natD x, natD y] ∧ x < n ∧ y < n ∧ P (.bl (R x y))
theorem ok_ordL {f : Addr} {fd : FuncData} (F : Fun K "less" "Order.less" sOrL f fd) (cC : OrdC K CO) (cHas : Fo P w K mg base CX0 CR 1 "has" (pureS S_has)) : FnOk P w K mg base CX0 2 f fd ["self", "x", "y"] (spOf K CR (pureS (S_ordL CO))) := by
  refine def_ok F scOrL (fun ds cs Pd R ⟨_, n, R, x, y, h, _⟩ => by rw [h]; rfl) fun cdv A outer s F H E ds cs Pd R0 hr ⟨hcs, n, R, x, y, hd, hx, hy, k⟩ => ?_
  subst hcs
  subst hd
  have hnd := scOrL.nd
  have hN := cx_N CX0 P w K mg base nOrL "Order.less" (defScope sOrL) f cdv A outer s H E
  walk_at "st"
  walk_at "ev"
  refine ax_fld cC.cl cC.a ?_
  walk_at "ev"
  refine ⟨_, _, 1, _, .inl rfl, rfl, by decide, rfl, ?_⟩
  walk_at "ev"
  refine ⟨_, _, _, .inr (.inl rfl), rfl, rowsD_get hx, ?_⟩
  walk_at "ev"
  rw [bit_row hy]
  exact k
end

end G
namespace G
open PySem PySem.Spec PyProof.Rows L2 Evl
local macro_rules | `(tactic| walk_at "ix") => `(tactic| with_reducible (first
  | exact AtN.z | exact AtN.s AtN.z | exact AtN.s (AtN.s AtN.z) | exact AtN.s (AtN.s (AtN.s AtN.z)) | exact AtN.s (AtN.s (AtN.s (AtN.s AtN.z)))
  | exact AtN.s (AtN.s (AtN.s (AtN.s (AtN.s AtN.z)))) | exact AtN.s (AtN.s (AtN.s (AtN.s (AtN.s (AtN.s AtN.z))))) | exact AtN.s (AtN.s (AtN.s (AtN.s (AtN.s (AtN.s (AtN.s AtN.z))))))
  | exact AtN.s (AtN.s (AtN.s (AtN.s (AtN.s (AtN.s (AtN.s (AtN.s AtN.z))))))) | exact AtN.s (AtN.s (AtN.s (AtN.s (AtN.s (AtN.s (AtN.s (AtN.s (AtN.s AtN.z)))))))) | exact AtN.s (AtN.s (AtN.s (AtN.s (AtN.s (AtN.s (AtN.s (AtN.s (AtN.s (AtN.s AtN.z)))))))))
  | exact AtN.s (AtN.s (AtN.s (AtN.s (AtN.s (AtN.s (AtN.s (AtN.s (AtN.s (AtN.s (AtN.s AtN.z))))))))))
  | exact AtN.s (AtN.s (AtN.s (AtN.s (AtN.s (AtN.s (AtN.s (AtN.s (AtN.s (AtN.s (AtN.s (AtN.s AtN.z)))))))))))
  | exact AtN.s (AtN.s (AtN.s (AtN.s (AtN.s (AtN.s (AtN.s (AtN.s (AtN.s (AtN.s (AtN.s (AtN.s (AtN.s AtN.z))))))))))))
  | exact AtN.s (AtN.s (AtN.s (AtN.s (AtN.s (AtN.s (AtN.s (AtN.s (AtN.s (AtN.s (AtN.s (AtN.s (AtN.s (AtN.s AtN.z)))))))))))))
  | exact AtN.s (AtN.s (AtN.s (AtN.s (AtN.s (AtN.s (AtN.s (AtN.s (AtN.s (AtN.s (AtN.s (AtN.s (AtN.s (AtN.s (AtN.s AtN.z))))))))))))))))
local macro_rules | `(tactic| walk_at "ev1") => `(tactic| first
  | with_reducible refine ax_int ?_ | with_reducible refine ax_bl ?_ | with_reducible refine ax_non ?_ | with_reducible refine ax_str ?_
  | ((with_reducible show Ax _ _ (Expr.Name _ _) _ _ _); refine ax_u $(Lean.mkIdent `hN) (by walk_at "ix") rfl ?_)
  | ((with_reducible show Ax _ _ (Expr.Compare _ _ _ _) _ _ _); first | (with_reducible refine ax_cmpR cmp_lt ?_) | (with_reducible refine ax_cmpR cmp_le ?_) | (with_reducible refine ax_cmpR cmp_gt ?_) | (with_reducible refine ax_cmpR cmp_ge ?_) | (with_reducible refine ax_cmpR cmp_eq ?_) | (with_reducible refine ax_cmpR cmp_ne ?_) | (with_reducible refine ax_cmpR cmp_is ?_) | (with_reducible refine ax_cmpR cmp_isN ?_))
  | ((with_reducible show At _ _ (Expr.Compare _ _ _ _) _ _ _); first | (with_reducible refine at_cmpR cmp_lt ?_) | (with_reducible refine at_cmpR cmp_le ?_) | (with_reducible refine at_cmpR cmp_gt ?_) | (with_reducible refine at_cmpR cmp_ge ?_) | (with_reducible refine at_cmpR cmp_eq ?_) | (with_reducible refine at_cmpR cmp_ne ?_) | (with_reducible refine at_cmpR cmp_is ?_) | (with_reducible refine at_cmpR cmp_isN ?_))
  | with_reducible refine ax_add ?_ | with_reducible refine ax_sub ?_ | with_reducible refine ax_mul ?_ | with_reducible refine ax_fdiv ?_ | with_reducible refine ax_mod ?_ | with_reducible refine ax_shl ?_ | with_reducible refine ax_shr ?_ | with_reducible refine ax_and ?_ | with_reducible refine ax_or ?_ | with_reducible refine ax_neg ?_
  | with_reducible refine ax_one ?_ | with_reducible refine ax_andv ?_ | with_reducible refine ax_orv ?_ | with_reducible refine ax_notv ?_ | with_reducible refine at_one ?_ | with_reducible refine at_and ?_ | with_reducible refine at_or ?_ | with_reducible refine at_not ?_ | with_reducible refine ax_if ?_
  | ((with_reducible show Ax _ _ (Expr.Subscript _ _ _) _ _ _); refine ax_ix ?_) | with_reducible refine ax_tup ?_ | ((with_reducible show Aa _ _ (_ :: _) _ _ _); refine aa_cons ?_) | with_reducible refine aa_nil ?_
  | ((with_reducible show Ax _ _ (Expr.Call (Expr.Name "len" _) _ _ _) _ _ _); refine ax_len (Mods.len $(Lean.mkIdent `M)) ?_)
  | ((with_reducible show Ax _ _ (Expr.Call (Expr.Name "int" _) _ _ _) _ _ _); refine ax_int1 (Mods.int $(Lean.mkIdent `M)) ?_)
  | ((with_reducible show Ax _ _ (Expr.Call (Expr.Name "abs" _) _ _ _) _ _ _); refine ax_abs (Mods.abs $(Lean.mkIdent `M)) ?_)
  | ((with_reducible show Ax _ _ (Expr.Call (Expr.Name "tuple" _) _ _ _) _ _ _); refine ax_tuple (Mods.tuple $(Lean.mkIdent `M)) ?_)
  | ((with_reducible show Ax _ _ (Expr.Call (Expr.Name "has" _) _ _ _) _ _ _); refine ax_call $(Lean.mkIdent `cHas) (Room.mono $(Lean.mkIdent `hr) (by decide)) pas0 ?_)
  | ((with_reducible show Ax _ _ (Expr.Call (Expr.Name "set_of" _) _ _ _) _ _ _); refine ax_call $(Lean.mkIdent `cSetOf) (Room.mono $(Lean.mkIdent `hr) (by decide)) pas0 ?_)
  | ((with_reducible show Ax _ _ (Expr.Call (Expr.Name "members" _) _ _ _) _ _ _); refine ax_call $(Lean.mkIdent `cMembers) (Room.mono $(Lean.mkIdent `hr) (by decide)) pas0 ?_)
  | ((with_reducible show Ax _ _ (Expr.Call (Expr.Name "is_integer" _) _ _ _) _ _ _); refine ax_call $(Lean.mkIdent `cIsInt) (Room.mono $(Lean.mkIdent `hr) (by decide)) pas0 ?_)
  | ((with_reducible show Ax _ _ (Expr.Call (Expr.Attribute _ "bit_length" _) _ _ _) _ _ _); refine ax_bits ?_)
  | ((with_reducible show Ax _ _ (Expr.Call (Expr.Name "isinstance" _) [_, Expr.Name "int" _] _ _) _ _ _); refine ax_isi (u := "int") (Mods.isinstance $(Lean.mkIdent `M)) (Mods.int $(Lean.mkIdent `M)) boot_int ?_)
  | ((with_reducible show Ax _ _ (Expr.Call (Expr.Name "isinstance" _) [_, Expr.Name "bool" _] _ _) _ _ _); refine ax_isi (u := "bool") (Mods.isinstance $(Lean.mkIdent `M)) (Mods.bool $(Lean.mkIdent `M)) boot_bool ?_)
  | ((with_reducible show Ax _ _ (Expr.Call (Expr.Name "isinstance" _) [_, Expr.Name "tuple" _] _ _) _ _ _); refine ax_isi (u := "tuple") (Mods.isinstance $(Lean.mkIdent `M)) (Mods.tuple $(Lean.mkIdent `M)) boot_tuple ?_)
  | ((with_reducible show Ax _ _ (Expr.Call (Expr.Name "isinstance" _) [_, Expr.Tuple [Expr.Name "list" _, Expr.Name "tuple" _] _ _] _ _) _ _ _); refine ax_isi2 (u1 := "list") (u2 := "tuple") (Mods.isinstance $(Lean.mkIdent `M)) (Mods.list $(Lean.mkIdent `M)) (Mods.tuple $(Lean.mkIdent `M)) boot_list boot_tuple ?_)
  | ((with_reducible show ∃ t k, tyD _ = some t ∧ kitB t _ = some k ∧ _); refine ⟨_, _, rfl, by with_reducible (first | exact kit_ii | exact kit_ib | exact kit_tt), ?_⟩)
  | ((with_reducible show S_isInt _ _ _); refine ⟨_, rfl, ?_⟩) | ((with_reducible show S_has _ _ _); refine ⟨_, _, rfl, ?_⟩)
  | ((with_reducible show REq _ _ _ _); refine ⟨_, rfl, ?_⟩) | ((with_reducible show RNe _ _ _ _); refine ⟨_, rfl, ?_⟩) | ((with_reducible show RI _ _ _ _ _); refine ⟨_, _, rfl, rfl, ?_⟩)
  | with_reducible refine ⟨_, _, rfl, rfl, ?_⟩
  | with_reducible refine ⟨_, rfl, ?_⟩
  | ((with_reducible show At _ _ (Expr.Name _ _) _ _ _); refine at_val ?_) | ((with_reducible show At _ _ (Expr.Call _ _ _ _) _ _ _); refine at_val ?_) | ((with_reducible show At _ _ (Expr.Subscript _ _ _) _ _ _); refine at_val ?_))
local macro_rules | `(tactic| walk_at "ev") => `(tactic| repeat walk_at "ev1")
local macro_rules | `(tactic| walk_at "st1") => `(tactic| first
    | ((with_reducible show A1 _ _ (Stmt.Return _ _) _ _ _); refine a1_ret ?_)
    | ((with_reducible show A1 _ _ (Stmt.If _ _ _ _) _ _ _); refine a1_if ?_)
    | ((with_reducible show A1 _ _ (Stmt.Expr _ _) _ _ _); refine a1_drop ?_)
    | ((with_reducible show A1 _ _ (Stmt.Assign [Expr.Name _ _] _ _) _ _ _); refine a1_setU $(Lean.mkIdent `hN) (by walk_at "ix") $(Lean.mkIdent `hnd) ?_)
    | ((with_reducible show A1 _ _ (Stmt.Assign _ _ _) _ _ _); refine a1_asg ?_))
local macro_rules | `(tactic| walk_at "st") => `(tactic| first
  | ((with_reducible show As _ _ [] _ _ _); refine as_nil ?_)
  | (refine as_cons ?_; walk_at "st1"))
local macro_rules | `(tactic| walk_at "newl") => `(tactic| refine as_setU $(Lean.mkIdent `hN) (by walk_at "ix") $(Lean.mkIdent `hnd) (ax_lstC (aa_nil ⟨by decide, ?_⟩)))
local macro_rules | `(tactic| walk_at "for") => `(tactic| (refine as_cons ?_; refine a1_for ?hp ?_ ?hc ?hs; (case hp => exact PassesOwn.never); (case hc => rfl); (case hs => intro _; rfl)))
local macro_rules | `(tactic| walk_at "tgt") => `(tactic| refine ag_nameU $(Lean.mkIdent `hN) (by walk_at "ix") $(Lean.mkIdent `hnd) ?_)
local macro_rules | `(tactic| walk_at "rng") => `(tactic| refine ai_range1 (Mods.range $(Lean.mkIdent `M)) ?_)
local macro_rules | `(tactic| walk_at "while") => `(tactic| (refine as_cons ?_; refine a1_while ?hp ?I ?h0 ?hs; (case hp => exact PassesOwn.never)))
local macro_rules | `(tactic| walk_at "pair") => `(tactic| refine ag_pairU $(Lean.mkIdent `hN) (by walk_at "ix") (by walk_at "ix") $(Lean.mkIdent `hnd) ?hd ?_)
local macro_rules | `(tactic| walk_at "blk") => `(tactic| exact blkOk_by (by decide +kernel))
local macro_rules | `(tactic| walk_at "forX") => `(tactic| (refine as_cons ?_; refine a1_for ?hp ?_ ?hc ?hs; (case hp => exact passes_of rfl); (case hc => rfl); (case hs => intro _; rfl)))
/-! P9: irreducible_order, images -/
def prs (m : Nat) (S : Rl) (i : Nat) : List (Nat × Nat) := (List.range i).flatMap fun x => ((List.range m).filter (S x)).map fun y => (x, y)
theorem prs_succ (m i : Nat) (S : Rl) : prs m S (i + 1) = prs m S i ++ ((List.range m).filter (S i)).map fun y => (i, y) := by
  unfold prs
  rw [List.range_succ, List.flatMap_append]
  simp
theorem prs_len (m : Nat) (S : Rl) : ∀ i, (prs m S i).length ≤ i * m
  | 0 => Nat.zero_le _
  | i + 1 => by
    rw [prs_succ, List.length_append, List.length_map, Nat.add_mul, Nat.one_mul]
    have h1 := prs_len m S i
    have h2 := List.length_filter_le (S i) (List.range m)
    rw [List.length_range] at h2
    omega
theorem mem_prs {m i : Nat} {S : Rl} {q : Nat × Nat} : q ∈ prs m S i ↔ q.1 < i ∧ q.2 < m ∧ S q.1 q.2 = true := by
  unfold prs
  rw [List.mem_flatMap]
  constructor
  · rintro ⟨x, hx, hq⟩
    obtain ⟨y, hy, rfl⟩ := List.mem_map.mp hq
    obtain ⟨h1, h2⟩ := List.mem_filter.mp hy
    exact ⟨List.mem_range.mp hx, List.mem_range.mp h1, h2⟩
  · rintro ⟨h1, h2, h3⟩
    exact ⟨q.1, List.mem_range.mpr h1, List.mem_map.mpr ⟨q.2, List.mem_filter.mpr ⟨List.mem_range.mpr h2, h3⟩, rfl⟩⟩
theorem rel_prs {m : Nat} {S : Rl} (x y : Nat) : rel (prs m S m) x y = (decide (x < m) && (decide (y < m) && S x y)) := by
  unfold rel
  rw [Bool.eq_iff_iff]
  simp only [decide_eq_true_iff, Bool.and_eq_true, mem_prs]
def atL (c : List Nat) (i : Nat) : Nat := c.getD i 0
def belR (c : List Nat) (R : Rl) : Rl := fun i k => R (atL c i) (atL c k)
theorem atL_get {c : List Nat} {i : Nat} (h : i < c.length) : c[i]? = some (atL c i) := by
  unfold atL
  rw [List.getD_eq_getElem?_getD, List.getElem?_eq_getElem h]
  rfl
theorem atL_mem {c : List Nat} {i : Nat} (h : i < c.length) : atL c i ∈ c := List.mem_of_getElem? (atL_get h)
theorem irrL_lt {n : Nat} {R : Rl} {x : Nat} (h : x ∈ irrL n R) : x < n := List.mem_range.mp (List.mem_filter.mp h).1
theorem irrL_nodup (n : Nat) (R : Rl) : (irrL n R).Nodup := List.nodup_range.sublist List.filter_sublist
theorem irrL_len (n : Nat) (R : Rl) : (irrL n R).length ≤ n := by
  have h := List.length_filter_le (fun x => decide (((List.range n).filter fun y => cov n R y x).length = 1)) (List.range n)
  rw [List.length_range] at h
  exact h
theorem atL_inj {c : List Nat} (hn : c.Nodup) {i k : Nat} (hi : i < c.length) (hk : k < c.length) (h : atL c i = atL c k) : i = k := by
  have h1 := atL_get hi
  have h2 := atL_get hk
  rw [h, ← h2] at h1
  exact (List.getElem?_inj hi hn).mp h1
/-- what the loops of irreducible_order ask -/
def iroS (c : List Nat) (R : Rl) : Rl := fun i k => !decide (i = k) && (decide (atL c i = atL c k) || R (atL c i) (atL c k))
/-- irreflexive, transitive below n -/
structure Ord (n : Nat) (R : Rl) : Prop where
  irr : ∀ x, x < n → R x x = false
  tr : ∀ x y z, x < n → y < n → z < n → R x y = true → R y z = true → R x z = true
theorem LatOk.ord {n : Nat} {R : Rl} {J M : Nat → Nat → Nat} (L : LatOk n R J M) : Ord n R := ⟨L.irr, L.tr⟩
theorem iroS_eq {c : List Nat} {n : Nat} {R : Rl} (O : Ord n R) (hn : c.Nodup) (hc : ∀ x ∈ c, x < n) {i k : Nat} (hi : i < c.length) (hk : k < c.length) : iroS c R i k = belR c R i k := by
  unfold iroS belR
  by_cases h : i = k
  · subst h
    rw [decide_eq_true rfl, O.irr _ (hc _ (atL_mem hi))]
    rfl
  · rw [decide_eq_false h, decide_eq_false (fun e => h (atL_inj hn hi hk e))]
    rfl
/-- the closure of pairs that already are a strict order below m -/
theorem war_prs {m : Nat} {S T : Rl} (h : ∀ i k, i < m → k < m → S i k = T i k) (O : Ord m T) {x y : Nat} (hx : x < m) (hy : y < m) : war m (rel (prs m S m)) x y = T x y := by
  rw [war_fix, rel_prs, decide_eq_true hx, decide_eq_true hy, Bool.true_and, Bool.true_and, h x y hx hy]
  intro a b e h1 h2
  rw [rel_prs] at h1 h2 ⊢
  simp only [Bool.and_eq_true, decide_eq_true_iff] at h1 h2 ⊢
  refine ⟨h1.1, h2.2.1, ?_⟩
  have q1 := h1.2.2
  have q2 := h2.2.2
  rw [h _ _ h1.1 h1.2.1] at q1
  rw [h _ _ h2.1 h2.2.1] at q2
  rw [h _ _ h1.1 h2.2.1]
  exact O.tr a b e h1.1 h1.2.1 h2.2.1 q1 q2
theorem belR_ord {c : List Nat} {n : Nat} {R : Rl} (O : Ord n R) (hc : ∀ x ∈ c, x < n) : Ord c.length (belR c R) :=
  ⟨fun x hx => O.irr _ (hc _ (atL_mem hx)), fun x y z hx hy hz => O.tr _ _ _ (hc _ (atL_mem hx)) (hc _ (atL_mem hy)) (hc _ (atL_mem hz))⟩
theorem inR_prs (m : Nat) (S : Rl) : InR m (prs m S m) := fun q hq => ⟨(mem_prs.mp hq).1, (mem_prs.mp hq).2.1⟩
theorem filter_succ_t {p : Nat → Bool} {k : Nat} (h : p k = true) : (List.range (k + 1)).filter p = (List.range k).filter p ++ [k] := by
  rw [List.range_succ, List.filter_append, List.filter_cons, if_pos h]
  rfl
theorem filter_succ_f {p : Nat → Bool} {k : Nat} (h : p k = false) : (List.range (k + 1)).filter p = (List.range k).filter p := by
  rw [List.range_succ, List.filter_append, List.filter_cons, if_neg (by rw [h]; exact Bool.false_ne_true)]
  exact List.append_nil _
section
variable {P : Program} {w : World} {K : PySem.W.Frag} {mg : Str → Option Value} {base : Heap} {CR CO CL : Addr}
abbrev sIro : Stmt := topS 22
abbrev nIro : List Str := ["lattice", "chosen", "pairs", "i", "k"]
theorem scIro : FnScope nIro ["lattice"] (defScope sIro) := ⟨rfl, rfl, rfl, by decide +kernel, rfl, by decide +kernel, by decide +kernel⟩
def S_iro (CL CO : Addr) : List Dt → (Dt → Prop) → (Str → Prop) → Prop := fun ds P Z => ∃ (n : Nat) (R : Rl) (J M : Nat → Nat → Nat), ds = [latD CL n R J M] ∧ n ≤ 64 ∧ Ord n R ∧ ((irrL n R).length ≤ 10 → P (ordD CO (irrL n R).length (belR (irrL n R) R))) ∧ (10 < (irrL n R).length → Z "large")
theorem ok_iro {f : Addr} {fd : FuncData} (F : Fun K "irreducible_order" "irreducible_order" sIro f fd) (M : Mods mg) (cAt : Mo P w K mg base CX0 CR CL 2 "at_most" (pureS (S_lat CL))) (cIr : Mo P w K mg base CX0 CR CL 3 "join_irreducibles" (pureS (S_lir CL)))
    (cO : Ko P w K mg base (L2.CX P w) CR CO 4 "Order" (S_ordI CO)) : FnOk P w K mg base (L2.CX P w) 6 f fd ["lattice"] (spOf K CR (pureS (S_iro CL CO))) := by
  refine def_okX F scIro (fun ds cs Pd R ⟨_, n, _, _, _, h, _⟩ => by rw [h]; rfl) fun cdv A outer s F H E ds cs Pd Z hr ⟨hcs, n, R, J, Mt, hd, hn, O, k1, k2⟩ hX => ?_
  subst hcs
  subst hd
  have hnd := scIro.nd
  have hN := cx_N (L2.CX P w) P w K mg base nIro "irreducible_order" (defScope sIro) f cdv A outer s H E
  have tk : Takes (cxOf (L2.CX P w) P w K mg base nIro "irreducible_order" (defScope sIro) f cdv A outer s H E) (fun cls d _ H' => E cls d H') := takes_of rfl rfl rfl rfl
  refine as_setU hN (by walk_at "ix") hnd (ax_meth0 cIr (Room.mono hr (by decide)) pas0 ?_)
  walk_at "ev"
  refine ⟨_, _, rfl, by decide, n, R, J, Mt, rfl, by omega, ?_⟩
  have hcl := irrL_len n R
  have hcn := irrL_nodup n R
  have hcm : ∀ x ∈ irrL n R, x < n := fun x hx => irrL_lt hx
  generalize irrL n R = c at *
  walk_at "newl"
  intro p
  walk_at "forX"
  walk_at "rng"
  walk_at "ev"
  refine ⟨_, .inr (.inl rfl), c.length, by rw [List.length_map], by omega, fun i ρ cs => cs = [(p, .l ((prs c.length (iroS c R) i).map pairN))] ∧ ∃ z1 z2, ρ = [some (latD CL n R J Mt), some (.tup (c.map natD)), some (.cell p), z1, z2], ⟨rfl, _, _, rfl⟩, ?_, ?_⟩
  · rintro i e ρ' cs' hi ⟨rfl, z1, z2, rfl⟩
    obtain ⟨hi1, rfl⟩ := rng_item hi
    walk_at "tgt"
    walk_at "forX"
    walk_at "rng"
    walk_at "ev"
    refine ⟨_, .inr (.inl rfl), c.length, by rw [List.length_map], by omega, fun k ρ cs => cs = [(p, .l ((prs c.length (iroS c R) i ++ ((List.range k).filter (iroS c R i)).map fun y => (i, y)).map pairN))] ∧ ∃ z2, ρ = [some (latD CL n R J Mt), some (.tup (c.map natD)), some (.cell p), some (natD i), z2], ⟨by simp, _, rfl⟩, ?_, ?_⟩
    · rintro k e ρ' cs' hk ⟨rfl, z2, rfl⟩
      obtain ⟨hk1, rfl⟩ := rng_item hk
      have gi : (c.map natD)[i]? = some (natD (atL c i)) := by rw [List.getElem?_map, atL_get hi1]; rfl
      have gk : (c.map natD)[k]? = some (natD (atL c k)) := by rw [List.getElem?_map, atL_get hk1]; rfl
      walk_at "tgt"
      walk_at "st"
      walk_at "ev"
      rw [dec_nat]
      refine ⟨fun hne => ?_, fun hne => ?_⟩
      · walk_at "ev"
        refine ax_meth cAt (Room.mono hr (by decide)) pas0 ?_
        walk_at "ev"
        refine ⟨_, _, rfl, by decide, ?_⟩
        walk_at "ev"
        refine ⟨_, _, _, .inr (.inl rfl), rfl, gi, ?_⟩
        walk_at "ev"
        refine ⟨_, _, _, .inr (.inl rfl), rfl, gk, ?_⟩
        walk_at "ev"
        refine ⟨n, R, J, Mt, _, _, rfl, hcm _ (atL_mem hi1), hcm _ (atL_mem hk1), _, rfl, fun ht => ?_, fun hf => ?_⟩
        · have hS : iroS c R i k = true := by unfold iroS; rw [hne, ht]; rfl
          walk_at "st"
          refine ax_append ?_
          walk_at "ev"
          refine ⟨⟨0, _, rfl⟩, ?_⟩
          walk_at "ev"
          have hl1 := prs_len c.length (iroS c R) i
          have hl2 := List.length_filter_le (iroS c R i) (List.range k)
          have hl3 : i * c.length ≤ 64 * 64 := Nat.mul_le_mul (by omega) (by omega)
          rw [List.length_range] at hl2
          refine ⟨by show 2 ≤ 1000; decide, 0, _, rfl, by rw [List.length_map, List.length_append, List.length_map]; omega, ?_⟩
          walk_at "st"
          walk_at "st"
          refine ⟨?_, _, rfl⟩
          simp only [filter_succ_t hS, List.map_append, List.append_assoc]
          rfl
        · have hS : iroS c R i k = false := by unfold iroS; rw [hne, hf]; rfl
          walk_at "st"
          walk_at "st"
          refine ⟨?_, _, rfl⟩
          rw [filter_succ_f hS]
      · have hS : iroS c R i k = false := by unfold iroS; rw [hne]; rfl
        refine ⟨fun h => (nomatch h), fun _ => ?_⟩
        walk_at "st"
        walk_at "st"
        refine ⟨?_, _, rfl⟩
        rw [filter_succ_f hS]
    · rintro ρ' cs' ⟨rfl, z2, rfl⟩
      walk_at "st"
      refine ⟨?_, _, _, rfl⟩
      rw [prs_succ]
      rfl
  rintro ρ' cs' ⟨rfl, z1, z2, rfl⟩
  have e1 : prs c.length (iroS c R) (Src.len (.rng 0 c.length)) = prs c.length (iroS c R) c.length := rfl
  rw [e1]
  refine as_freeze 2 0 rfl rfl ⟨1, by decide, rfl⟩ ?_
  walk_at "st"
  refine ax_make cO (Room.mono hr (by decide)) (pasX tk hX fun z h => h) ?_
  walk_at "ev"
  refine ⟨_, .inr (.inl rfl), ?_⟩
  walk_at "ev"
  intro y
  have hOrd := belR_ord O hcm
  have hwar : ∀ a b, a < c.length → b < c.length → war c.length (rel (prs c.length (iroS c R) c.length)) a b = belR c R a b := fun a b ha hb => war_prs (fun i k hi hk => iroS_eq O hcn hcm hi hk) hOrd ha hb
  have hl1 := prs_len c.length (iroS c R) c.length
  have hl3 : c.length * c.length ≤ 64 * 64 := Nat.mul_le_mul (by omega) (by omega)
  refine ⟨y, c.length, prs c.length (iroS c R) c.length, by rw [List.length_map], rfl, by omega, inR_prs _ _, by omega, fun h10 => ⟨fun x hx => by rw [hwar x x hx hx]; exact hOrd.irr x hx, rfl, _, _, rfl, ?_⟩, k2⟩
  rw [rowsD_congr hwar]
  exact k1 h10
end

end G
namespace G
open PySem PySem.Spec PyProof.Rows L2 Evl
local macro_rules | `(tactic| walk_at "ix") => `(tactic| with_reducible (first
  | exact AtN.z | exact AtN.s AtN.z | exact AtN.s (AtN.s AtN.z) | exact AtN.s (AtN.s (AtN.s AtN.z)) | exact AtN.s (AtN.s (AtN.s (AtN.s AtN.z)))
  | exact AtN.s (AtN.s (AtN.s (AtN.s (AtN.s AtN.z)))) | exact AtN.s (AtN.s (AtN.s (AtN.s (AtN.s (AtN.s AtN.z))))) | exact AtN.s (AtN.s (AtN.s (AtN.s (AtN.s (AtN.s (AtN.s AtN.z))))))
  | exact AtN.s (AtN.s (AtN.s (AtN.s (AtN.s (AtN.s (AtN.s (AtN.s AtN.z))))))) | exact AtN.s (AtN.s (AtN.s (AtN.s (AtN.s (AtN.s (AtN.s (AtN.s (AtN.s AtN.z)))))))) | exact AtN.s (AtN.s (AtN.s (AtN.s (AtN.s (AtN.s (AtN.s (AtN.s (AtN.s (AtN.s AtN.z)))))))))
  | exact AtN.s (AtN.s (AtN.s (AtN.s (AtN.s (AtN.s (AtN.s (AtN.s (AtN.s (AtN.s (AtN.s AtN.z))))))))))
  | exact AtN.s (AtN.s (AtN.s (AtN.s (AtN.s (AtN.s (AtN.s (AtN.s (AtN.s (AtN.s (AtN.s (AtN.s AtN.z)))))))))))
  | exact AtN.s (AtN.s (AtN.s (AtN.s (AtN.s (AtN.s (AtN.s (AtN.s (AtN.s (AtN.s (AtN.s (AtN.s (AtN.s AtN.z))))))))))))
  | exact AtN.s (AtN.s (AtN.s (AtN.s (AtN.s (AtN.s (AtN.s (AtN.s (AtN.s (AtN.s (AtN.s (AtN.s (AtN.s (AtN.s AtN.z)))))))))))))
  | exact AtN.s (AtN.s (AtN.s (AtN.s (AtN.s (AtN.s (AtN.s (AtN.s (AtN.s (AtN.s (AtN.s (AtN.s (AtN.s (AtN.s (AtN.s AtN.z))))))))))))))))
local macro_rules | `(tactic| walk_at "ev1") => `(tactic| first
  | with_reducible refine ax_int ?_ | with_reducible refine ax_bl ?_ | with_reducible refine ax_non ?_ | with_reducible refine ax_str ?_
  | ((with_reducible show Ax _ _ (Expr.Name _ _) _ _ _); refine ax_u $(Lean.mkIdent `hN) (by walk_at "ix") rfl ?_)
  | ((with_reducible show Ax _ _ (Expr.Compare _ _ _ _) _ _ _); first | (with_reducible refine ax_cmpR cmp_lt ?_) | (with_reducible refine ax_cmpR cmp_le ?_) | (with_reducible refine ax_cmpR cmp_gt ?_) | (with_reducible refine ax_cmpR cmp_ge ?_) | (with_reducible refine ax_cmpR cmp_eq ?_) | (with_reducible refine ax_cmpR cmp_ne ?_) | (with_reducible refine ax_cmpR cmp_is ?_) | (with_reducible refine ax_cmpR cmp_isN ?_))
  | ((with_reducible show At _ _ (Expr.Compare _ _ _ _) _ _ _); first | (with_reducible refine at_cmpR cmp_lt ?_) | (with_reducible refine at_cmpR cmp_le ?_) | (with_reducible refine at_cmpR cmp_gt ?_) | (with_reducible refine at_cmpR cmp_ge ?_) | (with_reducible refine at_cmpR cmp_eq ?_) | (with_reducible refine at_cmpR cmp_ne ?_) | (with_reducible refine at_cmpR cmp_is ?_) | (with_reducible refine at_cmpR cmp_isN ?_))
  | with_reducible refine ax_add ?_ | with_reducible refine ax_sub ?_ | with_reducible refine ax_mul ?_ | with_reducible refine ax_fdiv ?_ | with_reducible refine ax_mod ?_ | with_reducible refine ax_shl ?_ | with_reducible refine ax_shr ?_ | with_reducible refine ax_and ?_ | with_reducible refine ax_or ?_ | with_reducible refine ax_neg ?_
  | with_reducible refine ax_one ?_ | with_reducible refine ax_andv ?_ | with_reducible refine ax_orv ?_ | with_reducible refine ax_notv ?_ | with_reducible refine at_one ?_ | with_reducible refine at_and ?_ | with_reducible refine at_or ?_ | with_reducible refine at_not ?_ | with_reducible refine ax_if ?_
  | ((with_reducible show Ax _ _ (Expr.Subscript _ _ _) _ _ _); refine ax_ix ?_) | with_reducible refine ax_tup ?_ | ((with_reducible show Aa _ _ (_ :: _) _ _ _); refine aa_cons ?_) | with_reducible refine aa_nil ?_
  | ((with_reducible show Ax _ _ (Expr.Call (Expr.Name "len" _) _ _ _) _ _ _); refine ax_len (Mods.len $(Lean.mkIdent `M)) ?_)
  | ((with_reducible show Ax _ _ (Expr.Call (Expr.Name "int" _) _ _ _) _ _ _); refine ax_int1 (Mods.int $(Lean.mkIdent `M)) ?_)
  | ((with_reducible show Ax _ _ (Expr.Call (Expr.Name "abs" _) _ _ _) _ _ _); refine ax_abs (Mods.abs $(Lean.mkIdent `M)) ?_)
  | ((with_reducible show Ax _ _ (Expr.Call (Expr.Name "tuple" _) _ _ _) _ _ _); refine ax_tuple (Mods.tuple $(Lean.mkIdent `M)) ?_)
  | ((with_reducible show Ax _ _ (Expr.Call (Expr.Name "has" _) _ _ _) _ _ _); refine ax_call $(Lean.mkIdent `cHas) (Room.mono $(Lean.mkIdent `hr) (by decide)) pas0 ?_)
  | ((with_reducible show Ax _ _ (Expr.Call (Expr.Name "set_of" _) _ _ _) _ _ _); refine ax_call $(Lean.mkIdent `cSetOf) (Room.mono $(Lean.mkIdent `hr) (by decide)) pas0 ?_)
  | ((with_reducible show Ax _ _ (Expr.Call (Expr.Name "members" _) _ _ _) _ _ _); refine ax_call $(Lean.mkIdent `cMembers) (Room.mono $(Lean.mkIdent `hr) (by decide)) pas0 ?_)
  | ((with_reducible show Ax _ _ (Expr.Call (Expr.Name "is_integer" _) _ _ _) _ _ _); refine ax_call $(Lean.mkIdent `cIsInt) (Room.mono $(Lean.mkIdent `hr) (by decide)) pas0 ?_)
  | ((with_reducible show Ax _ _ (Expr.Call (Expr.Attribute _ "bit_length" _) _ _ _) _ _ _); refine ax_bits ?_)
  | ((with_reducible show Ax _ _ (Expr.Call (Expr.Name "isinstance" _) [_, Expr.Name "int" _] _ _) _ _ _); refine ax_isi (u := "int") (Mods.isinstance $(Lean.mkIdent `M)) (Mods.int $(Lean.mkIdent `M)) boot_int ?_)
  | ((with_reducible show Ax _ _ (Expr.Call (Expr.Name "isinstance" _) [_, Expr.Name "bool" _] _ _) _ _ _); refine ax_isi (u := "bool") (Mods.isinstance $(Lean.mkIdent `M)) (Mods.bool $(Lean.mkIdent `M)) boot_bool ?_)
  | ((with_reducible show Ax _ _ (Expr.Call (Expr.Name "isinstance" _) [_, Expr.Name "tuple" _] _ _) _ _ _); refine ax_isi (u := "tuple") (Mods.isinstance $(Lean.mkIdent `M)) (Mods.tuple $(Lean.mkIdent `M)) boot_tuple ?_)
  | ((with_reducible show Ax _ _ (Expr.Call (Expr.Name "isinstance" _) [_, Expr.Tuple [Expr.Name "list" _, Expr.Name "tuple" _] _ _] _ _) _ _ _); refine ax_isi2 (u1 := "list") (u2 := "tuple") (Mods.isinstance $(Lean.mkIdent `M)) (Mods.list $(Lean.mkIdent `M)) (Mods.tuple $(Lean.mkIdent `M)) boot_list boot_tuple ?_)
  | ((with_reducible show ∃ t k, tyD _ = some t ∧ kitB t _ = some k ∧ _); refine ⟨_, _, rfl, by with_reducible (first | exact kit_ii | exact kit_ib | exact kit_tt), ?_⟩)
  | ((with_reducible show S_isInt _ _ _); refine ⟨_, rfl, ?_⟩) | ((with_reducible show S_has _ _ _); refine ⟨_, _, rfl, ?_⟩)
  | ((with_reducible show REq _ _ _ _); refine ⟨_, rfl, ?_⟩) | ((with_reducible show RNe _ _ _ _); refine ⟨_, rfl, ?_⟩) | ((with_reducible show RI _ _ _ _ _); refine ⟨_, _, rfl, rfl, ?_⟩)
  | with_reducible refine ⟨_, _, rfl, rfl, ?_⟩
  | with_reducible refine ⟨_, rfl, ?_⟩
  | ((with_reducible show At _ _ (Expr.Name _ _) _ _ _); refine at_val ?_) | ((with_reducible show At _ _ (Expr.Call _ _ _ _) _ _ _); refine at_val ?_) | ((with_reducible show At _ _ (Expr.Subscript _ _ _) _ _ _); refine at_val ?_))
local macro_rules | `(tactic| walk_at "ev") => `(tactic| repeat walk_at "ev1")
local macro_rules | `(tactic| walk_at "st1") => `(tactic| first
    | ((with_reducible show A1 _ _ (Stmt.Return _ _) _ _ _); refine a1_ret ?_)
    | ((with_reducible show A1 _ _ (Stmt.If _ _ _ _) _ _ _); refine a1_if ?_)
    | ((with_reducible show A1 _ _ (Stmt.Expr _ _) _ _ _); refine a1_drop ?_)
    | ((with_reducible show A1 _ _ (Stmt.Assign [Expr.Name _ _] _ _) _ _ _); refine a1_setU $(Lean.mkIdent `hN) (by walk_at "ix") $(Lean.mkIdent `hnd) ?_)
    | ((with_reducible show A1 _ _ (Stmt.Assign _ _ _) _ _ _); refine a1_asg ?_))
local macro_rules | `(tactic| walk_at "st") => `(tactic| first
  | ((with_reducible show As _ _ [] _ _ _); refine as_nil ?_)
  | (refine as_cons ?_; walk_at "st1"))
local macro_rules | `(tactic| walk_at "newl") => `(tactic| refine as_setU $(Lean.mkIdent `hN) (by walk_at "ix") $(Lean.mkIdent `hnd) (ax_lstC (aa_nil ⟨by decide, ?_⟩)))
local macro_rules | `(tactic| walk_at "for") => `(tactic| (refine as_cons ?_; refine a1_for ?hp ?_ ?hc ?hs; (case hp => exact PassesOwn.never); (case hc => rfl); (case hs => intro _; rfl)))
local macro_rules | `(tactic| walk_at "tgt") => `(tactic| refine ag_nameU $(Lean.mkIdent `hN) (by walk_at "ix") $(Lean.mkIdent `hnd) ?_)
local macro_rules | `(tactic| walk_at "rng") => `(tactic| refine ai_range1 (Mods.range $(Lean.mkIdent `M)) ?_)
local macro_rules | `(tactic| walk_at "while") => `(tactic| (refine as_cons ?_; refine a1_while ?hp ?I ?h0 ?hs; (case hp => exact PassesOwn.never)))
local macro_rules | `(tactic| walk_at "pair") => `(tactic| refine ag_pairU $(Lean.mkIdent `hN) (by walk_at "ix") (by walk_at "ix") $(Lean.mkIdent `hnd) ?hd ?_)
local macro_rules | `(tactic| walk_at "blk") => `(tactic| exact blkOk_by (by decide +kernel))
local macro_rules | `(tactic| walk_at "forX") => `(tactic| (refine as_cons ?_; refine a1_for ?hp ?_ ?hc ?hs; (case hp => exact passes_of rfl); (case hc => rfl); (case hs => intro _; rfl)))
/-! P10: images -/
def imgN (c : List Nat) (R : Rl) (x : Nat) : Nat := bitsOf c.length fun k => decide (atL c k = x) || R (atL c k) x
theorem rowD_succ (i : Nat) (f : Nat → Nat) : rowD (i + 1) f = rowD i f ++ [natD (f i)] := by
  unfold rowD
  rw [List.range_succ, List.map_append]
  rfl
section
variable {P : Program} {w : World} {K : PySem.W.Frag} {mg : Str → Option Value} {base : Heap} {CR CO CL : Addr}
abbrev sImg : Stmt := topS 23
abbrev nImg : List Str := ["lattice", "chosen", "found", "x", "k"]
theorem scImg : FnScope nImg ["lattice"] (defScope sImg) := ⟨rfl, rfl, rfl, by decide +kernel, rfl, by decide +kernel, by decide +kernel⟩
def S_img (CL : Addr) : List Dt → (Dt → Prop) → (Str → Prop) → Prop := fun ds P Z => ∃ (n : Nat) (R : Rl) (J M : Nat → Nat → Nat), ds = [latD CL n R J M] ∧ n ≤ 64 ∧ BelowN n J ∧ BelowN n M ∧ (distB n J M = false → Z "distributive") ∧ (distB n J M = true → 10 < (irrL n R).length → Z "large") ∧ (distB n J M = true → (irrL n R).length ≤ 10 → P (.tup (rowD n (imgN (irrL n R) R))))
theorem ok_img {f : Addr} {fd : FuncData} (F : Fun K "images" "images" sImg f fd) (M : Mods mg) (cC : LatC K CL) (cR : RefK P K mg CR) (cAt : Mo P w K mg base CX0 CR CL 2 "at_most" (pureS (S_lat CL))) (cIr : Mo P w K mg base CX0 CR CL 3 "join_irreducibles" (pureS (S_lir CL)))
    (cDs : Mo P w K mg base CX0 CR CL 3 "is_distributive" (pureS (S_lds CL))) (cSetOf : Fo P w K mg base CX0 CR 1 "set_of" (pureS S_setOf)) : FnOk P w K mg base (L2.CX P w) 6 f fd ["lattice"] (spOf K CR (pureS (S_img CL))) := by
  refine def_okX F scImg (fun ds cs Pd R ⟨_, n, _, _, _, h, _⟩ => by rw [h]; rfl) fun cdv A outer s F H E ds cs Pd Z hr ⟨hcs, n, R, J, Mt, hd, hn, bJ, bM, k1, k2, k3⟩ hX => ?_
  subst hcs
  subst hd
  have hnd := scImg.nd
  have hN := cx_N (L2.CX P w) P w K mg base nImg "images" (defScope sImg) f cdv A outer s H E
  have tk : Takes (cxOf (L2.CX P w) P w K mg base nImg "images" (defScope sImg) f cdv A outer s H E) (fun cls d _ H' => E cls d H') := takes_of rfl rfl rfl rfl
  walk_at "st"
  walk_at "ev"
  refine ax_meth0 cDs (Room.mono hr (by decide)) pas0 ?_
  walk_at "ev"
  refine ⟨_, _, rfl, by decide, n, R, J, Mt, rfl, by omega, bJ, bM, _, rfl, fun hb => ?_, fun hb => ?_⟩
  · have hb : distB n J Mt = false := by simpa using hb
    exact as_cons (a1_raise cR (k := 1) (Room.mono hr (by decide)) tk hX (k1 hb) (by decide))
  have hb : distB n J Mt = true := by simpa using hb
  have k2 := k2 hb
  have k3 := k3 hb
  walk_at "st"
  refine as_setU hN (by walk_at "ix") hnd (ax_meth0 cIr (Room.mono hr (by decide)) pas0 ?_)
  walk_at "ev"
  refine ⟨_, _, rfl, by decide, n, R, J, Mt, rfl, by omega, ?_⟩
  have hcl := irrL_len n R
  have hcm : ∀ x ∈ irrL n R, x < n := fun x hx => irrL_lt hx
  generalize irrL n R = c at *
  walk_at "st"
  walk_at "ev"
  refine ⟨_, .inr (.inl rfl), ?_⟩
  walk_at "ev"
  rw [List.length_map]
  refine ⟨fun h => ?_, fun h => ?_⟩
  · have h1 : 10 < c.length := by have := of_decide_eq_true h; omega
    exact as_cons (a1_raise cR (k := 1) (Room.mono hr (by decide)) tk hX (k2 h1) (by decide))
  have h1 : c.length ≤ 10 := by have := of_decide_eq_false h; omega
  have k3 := k3 h1
  walk_at "st"
  walk_at "newl"
  intro p
  walk_at "forX"
  walk_at "rng"
  walk_at "ev"
  refine ax_fld cC.cl cC.a ?_
  walk_at "ev"
  refine ⟨_, _, 0, _, .inl rfl, rfl, by decide, rfl, ?_⟩
  refine ⟨_, .inr (.inl rfl), ?_⟩
  rw [rowsD_len]
  refine ⟨n, rfl, by omega, fun i ρ cs => cs = [(p, .l (rowD i (imgN c R)))] ∧ ∃ z1 z2, ρ = [some (latD CL n R J Mt), some (.tup (c.map natD)), some (.cell p), z1, z2], ⟨rfl, _, _, rfl⟩, ?_, ?_⟩
  · rintro x e ρ' cs' hi ⟨rfl, z1, z2, rfl⟩
    obtain ⟨hx, rfl⟩ := rng_item hi
    walk_at "tgt"
    walk_at "st"
    refine ax_append ?_
    walk_at "ev"
    refine ⟨⟨0, _, rfl⟩, ?_⟩
    walk_at "ev"
    refine ax_lcQ hN (by walk_at "ix") hnd (blkOk_by (sc := defScope sImg) (by decide +kernel)) rfl (ai_range1 M.range ?_)
    walk_at "ev"
    refine ⟨_, .inr (.inl rfl), c.length, by rw [List.length_map], by omega, by show c.length ≤ 90000; omega, ⟨1, rfl⟩, fun k => if decide (atL c k = x) || R (atL c k) x then some (natD k) else none, fun k d hk => ?_, ?_⟩
    · obtain ⟨hk1, rfl⟩ := rng_item hk
      have gk : (c.map natD)[k]? = some (natD (atL c k)) := by rw [List.getElem?_map, atL_get hk1]; rfl
      intro s0 H0 C cl fp D acc
      refine ats_one ?_
      walk_at "ev"
      refine ax_meth cAt (Room.mono hr (by decide)) pas0 ?_
      walk_at "ev"
      refine ⟨_, _, rfl, by decide, ?_⟩
      walk_at "ev"
      refine ⟨_, _, _, .inr (.inl rfl), rfl, gk, ?_⟩
      walk_at "ev"
      refine ⟨n, R, J, Mt, _, _, rfl, hcm _ (atL_mem hk1), hx, _, rfl, rfl, fun hk _ _ _ _ _ => ?_, fun hk => if_neg (by rw [hk]; exact Bool.false_ne_true)⟩
      walk_at "ev"
      exact ⟨rfl, if_pos hk⟩
    · have e3 : (List.range (Src.len (.rng 0 c.length))).filterMap (fun k => if decide (atL c k = x) || R (atL c k) x then some (natD k) else none) = ((List.range c.length).filter fun k => decide (atL c k = x) || R (atL c k) x).map natD := fm_filter c.length (fun k => decide (atL c k = x) || R (atL c k) x) natD
      rw [e3]
      walk_at "ev"
      refine ⟨_, rfl, fun k hk => ?_, ?_⟩
      · have := List.mem_range.mp (List.mem_filter.mp hk).1
        omega
      rw [setOf_filter]
      refine ⟨0, _, rfl, by rw [rowD_len]; omega, ?_⟩
      walk_at "st"
      refine ⟨?_, _, _, rfl⟩
      rw [rowD_succ]
      rfl
  rintro ρ' cs' ⟨rfl, z1, z2, rfl⟩
  refine as_freeze 2 0 rfl rfl ⟨1, by decide, rfl⟩ ?_
  walk_at "st"
  walk_at "ev"
  exact ⟨_, .inl rfl, k3⟩
end

end G
namespace G
open PySem PySem.Spec PyProof.Rows L2 Evl
local macro_rules | `(tactic| walk_at "ix") => `(tactic| with_reducible (first
  | exact AtN.z | exact AtN.s AtN.z | exact AtN.s (AtN.s AtN.z) | exact AtN.s (AtN.s (AtN.s AtN.z)) | exact AtN.s (AtN.s (AtN.s (AtN.s AtN.z)))
  | exact AtN.s (AtN.s (AtN.s (AtN.s (AtN.s AtN.z)))) | exact AtN.s (AtN.s (AtN.s (AtN.s (AtN.s (AtN.s AtN.z))))) | exact AtN.s (AtN.s (AtN.s (AtN.s (AtN.s (AtN.s (AtN.s AtN.z))))))
  | exact AtN.s (AtN.s (AtN.s (AtN.s (AtN.s (AtN.s (AtN.s (AtN.s AtN.z))))))) | exact AtN.s (AtN.s (AtN.s (AtN.s (AtN.s (AtN.s (AtN.s (AtN.s (AtN.s AtN.z)))))))) | exact AtN.s (AtN.s (AtN.s (AtN.s (AtN.s (AtN.s (AtN.s (AtN.s (AtN.s (AtN.s AtN.z)))))))))
  | exact AtN.s (AtN.s (AtN.s (AtN.s (AtN.s (AtN.s (AtN.s (AtN.s (AtN.s (AtN.s (AtN.s AtN.z))))))))))
  | exact AtN.s (AtN.s (AtN.s (AtN.s (AtN.s (AtN.s (AtN.s (AtN.s (AtN.s (AtN.s (AtN.s (AtN.s AtN.z)))))))))))
  | exact AtN.s (AtN.s (AtN.s (AtN.s (AtN.s (AtN.s (AtN.s (AtN.s (AtN.s (AtN.s (AtN.s (AtN.s (AtN.s AtN.z))))))))))))
  | exact AtN.s (AtN.s (AtN.s (AtN.s (AtN.s (AtN.s (AtN.s (AtN.s (AtN.s (AtN.s (AtN.s (AtN.s (AtN.s (AtN.s AtN.z)))))))))))))
  | exact AtN.s (AtN.s (AtN.s (AtN.s (AtN.s (AtN.s (AtN.s (AtN.s (AtN.s (AtN.s (AtN.s (AtN.s (AtN.s (AtN.s (AtN.s AtN.z))))))))))))))))
local macro_rules | `(tactic| walk_at "ev1") => `(tactic| first
  | with_reducible refine ax_int ?_ | with_reducible refine ax_bl ?_ | with_reducible refine ax_non ?_ | with_reducible refine ax_str ?_
  | ((with_reducible show Ax _ _ (Expr.Name _ _) _ _ _); refine ax_u $(Lean.mkIdent `hN) (by walk_at "ix") rfl ?_)
  | ((with_reducible show Ax _ _ (Expr.Compare _ _ _ _) _ _ _); first | (with_reducible refine ax_cmpR cmp_lt ?_) | (with_reducible refine ax_cmpR cmp_le ?_) | (with_reducible refine ax_cmpR cmp_gt ?_) | (with_reducible refine ax_cmpR cmp_ge ?_) | (with_reducible refine ax_cmpR cmp_eq ?_) | (with_reducible refine ax_cmpR cmp_ne ?_) | (with_reducible refine ax_cmpR cmp_is ?_) | (with_reducible refine ax_cmpR cmp_isN ?_))
  | ((with_reducible show At _ _ (Expr.Compare _ _ _ _) _ _ _); first | (with_reducible refine at_cmpR cmp_lt ?_) | (with_reducible refine at_cmpR cmp_le ?_) | (with_reducible refine at_cmpR cmp_gt ?_) | (with_reducible refine at_cmpR cmp_ge ?_) | (with_reducible refine at_cmpR cmp_eq ?_) | (with_reducible refine at_cmpR cmp_ne ?_) | (with_reducible refine at_cmpR cmp_is ?_) | (with_reducible refine at_cmpR cmp_isN ?_))
  | with_reducible refine ax_add ?_ | with_reducible refine ax_sub ?_ | with_reducible refine ax_mul ?_ | with_reducible refine ax_fdiv ?_ | with_reducible refine ax_mod ?_ | with_reducible refine ax_shl ?_ | with_reducible refine ax_shr ?_ | with_reducible refine ax_and ?_ | with_reducible refine ax_or ?_ | with_reducible refine ax_neg ?_
  | with_reducible refine ax_one ?_ | with_reducible refine ax_andv ?_ | with_reducible refine ax_orv ?_ | with_reducible refine ax_notv ?_ | with_reducible refine at_one ?_ | with_reducible refine at_and ?_ | with_reducible refine at_or ?_ | with_reducible refine at_not ?_ | with_reducible refine ax_if ?_
  | ((with_reducible show Ax _ _ (Expr.Subscript _ _ _) _ _ _); refine ax_ix ?_) | with_reducible refine ax_tup ?_ | ((with_reducible show Aa _ _ (_ :: _) _ _ _); refine aa_cons ?_) | with_reducible refine aa_nil ?_
  | ((with_reducible show Ax _ _ (Expr.Call (Expr.Name "len" _) _ _ _) _ _ _); refine ax_len (Mods.len $(Lean.mkIdent `M)) ?_)
  | ((with_reducible show Ax _ _ (Expr.Call (Expr.Name "int" _) _ _ _) _ _ _); refine ax_int1 (Mods.int $(Lean.mkIdent `M)) ?_)
  | ((with_reducible show Ax _ _ (Expr.Call (Expr.Name "abs" _) _ _ _) _ _ _); refine ax_abs (Mods.abs $(Lean.mkIdent `M)) ?_)
  | ((with_reducible show Ax _ _ (Expr.Call (Expr.Name "tuple" _) _ _ _) _ _ _); refine ax_tuple (Mods.tuple $(Lean.mkIdent `M)) ?_)
  | ((with_reducible show Ax _ _ (Expr.Call (Expr.Name "has" _) _ _ _) _ _ _); refine ax_call $(Lean.mkIdent `cHas) (Room.mono $(Lean.mkIdent `hr) (by decide)) pas0 ?_)
  | ((with_reducible show Ax _ _ (Expr.Call (Expr.Name "set_of" _) _ _ _) _ _ _); refine ax_call $(Lean.mkIdent `cSetOf) (Room.mono $(Lean.mkIdent `hr) (by decide)) pas0 ?_)
  | ((with_reducible show Ax _ _ (Expr.Call (Expr.Name "members" _) _ _ _) _ _ _); refine ax_call $(Lean.mkIdent `cMembers) (Room.mono $(Lean.mkIdent `hr) (by decide)) pas0 ?_)
  | ((with_reducible show Ax _ _ (Expr.Call (Expr.Name "is_integer" _) _ _ _) _ _ _); refine ax_call $(Lean.mkIdent `cIsInt) (Room.mono $(Lean.mkIdent `hr) (by decide)) pas0 ?_)
  | ((with_reducible show Ax _ _ (Expr.Call (Expr.Attribute _ "bit_length" _) _ _ _) _ _ _); refine ax_bits ?_)
  | ((with_reducible show Ax _ _ (Expr.Call (Expr.Name "isinstance" _) [_, Expr.Name "int" _] _ _) _ _ _); refine ax_isi (u := "int") (Mods.isinstance $(Lean.mkIdent `M)) (Mods.int $(Lean.mkIdent `M)) boot_int ?_)
  | ((with_reducible show Ax _ _ (Expr.Call (Expr.Name "isinstance" _) [_, Expr.Name "bool" _] _ _) _ _ _); refine ax_isi (u := "bool") (Mods.isinstance $(Lean.mkIdent `M)) (Mods.bool $(Lean.mkIdent `M)) boot_bool ?_)
  | ((with_reducible show Ax _ _ (Expr.Call (Expr.Name "isinstance" _) [_, Expr.Name "tuple" _] _ _) _ _ _); refine ax_isi (u := "tuple") (Mods.isinstance $(Lean.mkIdent `M)) (Mods.tuple $(Lean.mkIdent `M)) boot_tuple ?_)
  | ((with_reducible show Ax _ _ (Expr.Call (Expr.Name "isinstance" _) [_, Expr.Tuple [Expr.Name "list" _, Expr.Name "tuple" _] _ _] _ _) _ _ _); refine ax_isi2 (u1 := "list") (u2 := "tuple") (Mods.isinstance $(Lean.mkIdent `M)) (Mods.list $(Lean.mkIdent `M)) (Mods.tuple $(Lean.mkIdent `M)) boot_list boot_tuple ?_)
  | ((with_reducible show ∃ t k, tyD _ = some t ∧ kitB t _ = some k ∧ _); refine ⟨_, _, rfl, by with_reducible (first | exact kit_ii | exact kit_ib | exact kit_tt), ?_⟩)
  | ((with_reducible show S_isInt _ _ _); refine ⟨_, rfl, ?_⟩) | ((with_reducible show S_has _ _ _); refine ⟨_, _, rfl, ?_⟩)
  | ((with_reducible show REq _ _ _ _); refine ⟨_, rfl, ?_⟩) | ((with_reducible show RNe _ _ _ _); refine ⟨_, rfl, ?_⟩) | ((with_reducible show RI _ _ _ _ _); refine ⟨_, _, rfl, rfl, ?_⟩)
  | with_reducible refine ⟨_, _, rfl, rfl, ?_⟩
  | with_reducible refine ⟨_, rfl, ?_⟩
  | ((with_reducible show At _ _ (Expr.Name _ _) _ _ _); refine at_val ?_) | ((with_reducible show At _ _ (Expr.Call _ _ _ _) _ _ _); refine at_val ?_) | ((with_reducible show At _ _ (Expr.Subscript _ _ _) _ _ _); refine at_val ?_))
local macro_rules | `(tactic| walk_at "ev") => `(tactic| repeat walk_at "ev1")
local macro_rules | `(tactic| walk_at "st1") => `(tactic| first
    | ((with_reducible show A1 _ _ (Stmt.Return _ _) _ _ _); refine a1_ret ?_)
    | ((with_reducible show A1 _ _ (Stmt.If _ _ _ _) _ _ _); refine a1_if ?_)
    | ((with_reducible show A1 _ _ (Stmt.Expr _ _) _ _ _); refine a1_drop ?_)
    | ((with_reducible show A1 _ _ (Stmt.Assign [Expr.Name _ _] _ _) _ _ _); refine a1_setU $(Lean.mkIdent `hN) (by walk_at "ix") $(Lean.mkIdent `hnd) ?_)
    | ((with_reducible show A1 _ _ (Stmt.Assign _ _ _) _ _ _); refine a1_asg ?_))
local macro_rules | `(tactic| walk_at "st") => `(tactic| first
  | ((with_reducible show As _ _ [] _ _ _); refine as_nil ?_)
  | (refine as_cons ?_; walk_at "st1"))
local macro_rules | `(tactic| walk_at "newl") => `(tactic| refine as_setU $(Lean.mkIdent `hN) (by walk_at "ix") $(Lean.mkIdent `hnd) (ax_lstC (aa_nil ⟨by decide, ?_⟩)))
local macro_rules | `(tactic| walk_at "for") => `(tactic| (refine as_cons ?_; refine a1_for ?hp ?_ ?hc ?hs; (case hp => exact PassesOwn.never); (case hc => rfl); (case hs => intro _; rfl)))
local macro_rules | `(tactic| walk_at "tgt") => `(tactic| refine ag_nameU $(Lean.mkIdent `hN) (by walk_at "ix") $(Lean.mkIdent `hnd) ?_)
local macro_rules | `(tactic| walk_at "rng") => `(tactic| refine ai_range1 (Mods.range $(Lean.mkIdent `M)) ?_)
local macro_rules | `(tactic| walk_at "while") => `(tactic| (refine as_cons ?_; refine a1_while ?hp ?I ?h0 ?hs; (case hp => exact PassesOwn.never)))
local macro_rules | `(tactic| walk_at "pair") => `(tactic| refine ag_pairU $(Lean.mkIdent `hN) (by walk_at "ix") (by walk_at "ix") $(Lean.mkIdent `hnd) ?hd ?_)
local macro_rules | `(tactic| walk_at "blk") => `(tactic| exact blkOk_by (by decide +kernel))
local macro_rules | `(tactic| walk_at "forX") => `(tactic| (refine as_cons ?_; refine a1_for ?hp ?_ ?hc ?hs; (case hp => exact passes_of rfl); (case hc => rfl); (case hs => intro _; rfl)))
/-! L1: the law's state, its numbers -/
def StOk (s t : Int) : Prop := 0 ≤ s ∧ 0 ≤ t ∧ t < 2147483647
abbrev stC (a : Addr) (s t : Int) : Addr × Ct := (a, .l [.int s, .int t])
theorem item_ints {ns : List Int} {i : Nat} {d : Dt} (h : (Src.seq (ns.map .int)).item i = some d) : ∃ x, ns[i]? = some x ∧ Dt.int x = d := item_map h
section
variable {P : Program} {w : World} {K : PySem.W.Frag} {mg : Str → Option Value} {base : Heap} {CR : Addr}
abbrev sState : Stmt := topS 25
abbrev nState : List Str := ["_law_script", "_law_seed", "_law_total", "_law_cell"]
theorem scState : FnScope nState ["_law_script"] (defScope sState) := ⟨rfl, rfl, rfl, by decide +kernel, rfl, by decide +kernel, by decide +kernel⟩
def S_state : Sd := fun ds cs P _ => ∃ ns : List Int, ds = [.scr ns] ∧ cs = [] ∧ ∀ a s t, StOk s t → P (.cell a) [stC a s t]
theorem ok_state {f : Addr} {fd : FuncData} (F : Fun K "_law_state" "_law_state" sState f fd) (M : Mods mg) : FnOk P w K mg base CX0 1 f fd ["_law_script"] (spOf K CR S_state) := by
  refine def_ok F scState (fun ds cs Pd R ⟨_, h, _⟩ => by rw [h]; rfl) fun cdv A outer s F H E ds cs Pd R hr ⟨ns, hd, hcs, k⟩ => ?_
  subst hcs
  subst hd
  have hnd := scState.nd
  have hN := cx_N CX0 P w K mg base nState "_law_state" (defScope sState) f cdv A outer s H E
  walk_at "st"
  walk_at "ev"
  walk_at "st"
  walk_at "ev"
  walk_at "for"
  refine ai_seq (ax_slice ?_)
  walk_at "ev"
  refine ⟨_, .inl rfl, fun i ρ cs => cs = [] ∧ ∃ s t z, StOk s t ∧ ρ = [some (.scr ns), some (.int s), some (.int t), z], ⟨rfl, 0, 1, none, ⟨by decide, by decide, by decide⟩, rfl⟩, ?_, ?_⟩
  · rintro i e ρ' cs' hi ⟨rfl, sd, tt, z, ⟨h1, h2, h3⟩, rfl⟩
    obtain ⟨x, hx, rfl⟩ := item_ints hi
    walk_at "tgt"
    walk_at "st"
    walk_at "ev"
    refine ⟨.inr ⟨by decide, by decide⟩, ?_⟩
    walk_at "ev"
    walk_at "st"
    walk_at "ev"
    refine ⟨.inr ⟨by decide, by decide⟩, ?_⟩
    walk_at "ev"
    refine ⟨by decide, ?_⟩
    walk_at "st"
    refine ⟨rfl, _, _, _, ⟨?_, Int.emod_nonneg _ (by decide), Int.emod_lt_of_pos _ (by decide)⟩, rfl⟩
    have : 0 ≤ (if x < 0 then -x else x) := by split <;> omega
    omega
  rintro ρ' cs' ⟨rfl, sd, tt, z, hs, rfl⟩
  refine as_cons (a1_ret (ax_lstC ?_))
  walk_at "ev"
  exact ⟨by show 2 ≤ 1000; decide, fun p => k p _ _ hs⟩
abbrev sTake : Stmt := topS 26
abbrev nTake : List Str := ["_law_state_here", "_law_m", "_law_value"]
theorem scTake : FnScope nTake ["_law_state_here", "_law_m"] (defScope sTake) := ⟨rfl, rfl, rfl, by decide +kernel, rfl, by decide +kernel, by decide +kernel⟩
def S_take : Sd := fun ds cs P _ => ∃ (a : Addr) (m : Nat) (s t : Int), ds = [.cell a, natD m] ∧ 0 < m ∧ m < 1000000 ∧ StOk s t ∧ cs = [stC a s t] ∧ ∀ v s' t', v < m → StOk s' t' → P (natD v) [stC a s' t']
theorem emod_nat {x : Int} {m : Nat} (h : 0 < m) : ∃ v : Nat, v < m ∧ x % (m : Int) = v := by
  have h1 := Int.emod_nonneg x (b := (m : Int)) (by omega)
  have h2 := Int.emod_lt_of_pos x (b := (m : Int)) (by omega)
  exact ⟨(x % (m : Int)).toNat, by omega, by omega⟩
theorem ok_take {f : Addr} {fd : FuncData} (F : Fun K "_law_take" "_law_take" sTake f fd) (M : Mods mg) : FnOk P w K mg base CX0 1 f fd ["_law_state_here", "_law_m"] (spOf K CR S_take) := by
  refine def_ok F scTake (fun ds cs Pd R ⟨_, _, _, _, h, _⟩ => by rw [h]; rfl) fun cdv A outer s F H E ds cs Pd R hr ⟨a, m, sd, tt, hd, hm, hm2, ⟨h1, h2, h3⟩, hcs, k⟩ => ?_
  subst hcs
  subst hd
  have hnd := scTake.nd
  have hN := cx_N CX0 P w K mg base nTake "_law_take" (defScope sTake) f cdv A outer s H E
  walk_at "st"
  walk_at "ev"
  refine ⟨_, 0, _, .inr (.inr ⟨0, a, rfl, rfl⟩), rfl, rfl, ?_⟩
  walk_at "ev"
  refine ⟨fun hp => ?_, fun hp => ?_⟩
  · walk_at "st"
    walk_at "ev"
    refine ⟨_, 0, _, .inr (.inr ⟨0, a, rfl, rfl⟩), rfl, rfl, ?_⟩
    walk_at "ev"
    refine ⟨by omega, ?_⟩
    walk_at "st"
    walk_at "ev"
    refine ⟨_, 0, _, .inr (.inr ⟨0, a, rfl, rfl⟩), rfl, rfl, ?_⟩
    walk_at "ev"
    refine ⟨⟨by omega, by omega⟩, ?_⟩
    refine ag_sub ?_
    walk_at "ev"
    refine ⟨0, a, _, 0, rfl, rfl, rfl, by show 0 < 2; decide, ?_⟩
    walk_at "st"
    walk_at "ev"
    obtain ⟨v, hv, e⟩ := emod_nat (x := sd) hm
    rw [e]
    exact k v _ _ hv ⟨Int.ediv_nonneg h1 (by omega), h2, h3⟩
  · walk_at "st"
    walk_at "st"
    walk_at "ev"
    refine ⟨_, 1, _, .inr (.inr ⟨0, a, rfl, rfl⟩), rfl, rfl, ?_⟩
    walk_at "ev"
    refine ⟨.inr ⟨by decide, by decide⟩, ?_⟩
    walk_at "ev"
    refine ⟨by decide, ?_⟩
    refine ag_sub ?_
    walk_at "ev"
    refine ⟨0, a, _, 1, rfl, rfl, rfl, by show 1 < 2; decide, ?_⟩
    walk_at "st"
    walk_at "ev"
    refine ⟨_, 1, _, .inr (.inr ⟨0, a, rfl, rfl⟩), rfl, rfl, ?_⟩
    walk_at "ev"
    refine ⟨⟨by decide, by decide⟩, ?_⟩
    walk_at "ev"
    refine ⟨by omega, ?_⟩
    obtain ⟨v, hv, e⟩ := emod_nat (x := (tt * 48271 + 11) % 2147483647 / 7) hm
    rw [e]
    exact k v _ _ hv ⟨h1, Int.emod_nonneg _ (by decide), Int.emod_lt_of_pos _ (by decide)⟩
abbrev sPlace : Stmt := topS 30
abbrev nPlace : List Str := ["_law_x", "_law_value", "_law_turn"]
theorem scPlace : FnScope nPlace ["_law_x"] (defScope sPlace) := ⟨rfl, rfl, rfl, by decide +kernel, rfl, by decide +kernel, by decide +kernel⟩
def S_place : List Dt → (Dt → Prop) → (Str → Prop) → Prop := fun ds P _ => ∃ x : Nat, ds = [natD x] ∧ x ≤ 1000 ∧ P (natD (2 ^ x))
theorem ok_place {f : Addr} {fd : FuncData} (F : Fun K "_law_place" "_law_place" sPlace f fd) (M : Mods mg) : FnOk P w K mg base CX0 1 f fd ["_law_x"] (spOf K CR (pureS S_place)) := by
  refine def_ok F scPlace (fun ds cs Pd R ⟨_, _, h, _⟩ => by rw [h]; rfl) fun cdv A outer s F H E ds cs Pd R hr ⟨hcs, x, hd, hx, k⟩ => ?_
  subst hcs
  subst hd
  have hnd := scPlace.nd
  have hN := cx_N CX0 P w K mg base nPlace "_law_place" (defScope sPlace) f cdv A outer s H E
  walk_at "st"
  walk_at "ev"
  walk_at "for"
  walk_at "rng"
  walk_at "ev"
  refine ⟨by omega, fun i ρ cs => cs = [] ∧ ∃ z, ρ = [some (natD x), some (natD (2 ^ i)), z], ⟨rfl, none, rfl⟩, ?_, ?_⟩
  · rintro i e ρ' cs' hi ⟨rfl, z, rfl⟩
    obtain ⟨hi1, rfl⟩ := rng_item hi
    walk_at "tgt"
    walk_at "st"
    walk_at "ev"
    refine ⟨.inr ⟨by decide, by decide⟩, ?_⟩
    walk_at "st"
    refine ⟨rfl, some (natD i), ?_⟩
    have e : ((2 ^ i : Nat) : Int) * 2 = ((2 ^ (i + 1) : Nat) : Int) := by rw [Nat.pow_succ]; omega
    rw [e]
    rfl
  rintro ρ' cs' ⟨rfl, z, rfl⟩
  walk_at "st"
  walk_at "ev"
  exact k
abbrev sBits : Stmt := topS 29
abbrev nBits : List Str := ["_law_points_here", "_law_total", "_law_x"]
theorem scBits : FnScope nBits ["_law_points_here"] (defScope sBits) := ⟨rfl, rfl, rfl, by decide +kernel, rfl, by decide +kernel, by decide +kernel⟩
def sumB (ns : List Nat) : Nat := (ns.map fun x => 2 ^ x).sum
def S_bits : List Dt → (Dt → Prop) → (Str → Prop) → Prop := fun ds P _ => ∃ ns : List Nat, ds = [.lst (ns.map natD)] ∧ (∀ x ∈ ns, x ≤ 1000) ∧ P (natD (sumB ns))
theorem sumB_perm {l l' : List Nat} (h : l.Perm l') : sumB l = sumB l' := (h.map _).sum_nat
theorem ints_perm {ns' : List Int} {ns : List Nat} (h : ns'.Perm (ns.map fun x : Nat => (x : Int))) : ∃ l : List Nat, l.Perm ns ∧ ns' = l.map fun x : Nat => (x : Int) := by
  refine ⟨ns'.map Int.toNat, ?_, ?_⟩
  · have := h.map Int.toNat
    rw [List.map_map] at this
    have e : (Int.toNat ∘ fun x : Nat => (x : Int)) = id := rfl
    rw [e, List.map_id] at this
    exact this
  · rw [List.map_map]
    conv => lhs; rw [← List.map_id ns']
    refine List.map_congr_left fun x hx => ?_
    obtain ⟨n, _, rfl⟩ := List.mem_map.mp (h.mem_iff.mp hx)
    rfl
theorem ok_bits {f : Addr} {fd : FuncData} (F : Fun K "_law_bits" "_law_bits" sBits f fd) (M : Mods mg) (cPlace : Fo P w K mg base CX0 CR 1 "_law_place" (pureS S_place)) : FnOk P w K mg base CX0 2 f fd ["_law_points_here"] (spOf K CR (pureS S_bits)) := by
  refine def_ok F scBits (fun ds cs Pd R ⟨_, _, h, _⟩ => by rw [h]; rfl) fun cdv A outer s F H E ds cs Pd R hr ⟨hcs, ns, hd, hb, k⟩ => ?_
  subst hcs
  subst hd
  have hnd := scBits.nd
  have hN := cx_N CX0 P w K mg base nBits "_law_bits" (defScope sBits) f cdv A outer s H E
  walk_at "st"
  walk_at "ev"
  walk_at "for"
  refine ai_seq (ax_sortI M.sorted ?_)
  walk_at "ev"
  refine ⟨ns.map fun x : Nat => (x : Int), by rw [List.map_map]; rfl, fun ns' hp _ => ?_⟩
  obtain ⟨l, hl, rfl⟩ := ints_perm hp
  have hbl : ∀ x ∈ l, x ≤ 1000 := fun x hx => hb x (hl.mem_iff.mp hx)
  have e0 : (l.map fun x : Nat => (x : Int)).map Dt.int = l.map natD := by rw [List.map_map]; rfl
  rw [e0]
  refine ⟨_, .inl rfl, fun i ρ cs => cs = [] ∧ ∃ z, ρ = [some (.lst (ns.map natD)), some (natD (sumB (l.take i))), z], ⟨rfl, none, rfl⟩, ?_, ?_⟩
  · rintro i e ρ' cs' hi ⟨rfl, z, rfl⟩
    obtain ⟨x, hx, rfl⟩ := item_map hi
    walk_at "tgt"
    walk_at "st"
    walk_at "ev"
    refine ax_call cPlace (Room.mono hr (by decide)) pas0 ?_
    walk_at "ev"
    refine ⟨x, rfl, hbl x (List.mem_of_getElem? hx), ?_⟩
    walk_at "ev"
    walk_at "st"
    refine ⟨rfl, some (natD x), ?_⟩
    have e : ((sumB (l.take i) : Nat) : Int) + ((2 ^ x : Nat) : Int) = ((sumB (l.take (i + 1)) : Nat) : Int) := by
      unfold sumB
      rw [take_map_succ (fun x => 2 ^ x) hx, List.sum_append]
      simp
    rw [e]
    rfl
  rintro ρ' cs' ⟨rfl, z, rfl⟩
  have e1 : sumB (l.take (Src.len (.seq (l.map natD)))) = sumB ns := by
    show sumB (l.take (l.map natD).length) = _
    rw [List.length_map, List.take_length, sumB_perm hl]
  rw [e1]
  walk_at "st"
  walk_at "ev"
  exact k
abbrev sPoints : Stmt := topS 31
abbrev nPoints : List Str := ["_law_bits_here", "_law_found", "_law_x"]
theorem scPoints : FnScope nPoints ["_law_bits_here"] (defScope sPoints) := ⟨rfl, rfl, rfl, by decide +kernel, rfl, by decide +kernel, by decide +kernel⟩
def S_points : List Dt → (Dt → Prop) → (Str → Prop) → Prop := fun ds P _ => ∃ m : Nat, ds = [natD m] ∧ m < 2 ^ 900 ∧ P (.lst ((membersN m).map natD))
theorem members_done {m x : Nat} (h : m >>> x = 0) : (List.range x).filter m.testBit = membersN m := by
  have hm : m < 2 ^ x := by
    rw [Nat.shiftRight_eq_div_pow] at h
    exact Nat.lt_of_div_eq_zero (Nat.two_pow_pos x) h
  obtain ⟨k, rfl⟩ := Nat.exists_eq_add_of_le (intBits_le hm)
  exact filter_more (fun y hy => Nat.testBit_lt_two_pow (Nat.lt_of_lt_of_le (intBits_nat m) (Nat.pow_le_pow_right (by omega) hy))) k
theorem ok_points {f : Addr} {fd : FuncData} (F : Fun K "_law_points" "_law_points" sPoints f fd) (M : Mods mg) : FnOk P w K mg base CX0 1 f fd ["_law_bits_here"] (spOf K CR (pureS S_points)) := by
  refine def_ok F scPoints (fun ds cs Pd R ⟨_, _, h, _⟩ => by rw [h]; rfl) fun cdv A outer s F H E ds cs Pd R hr ⟨hcs, m, hd, hm, k⟩ => ?_
  subst hcs
  subst hd
  have hnd := scPoints.nd
  have hN := cx_N CX0 P w K mg base nPoints "_law_points" (defScope sPoints) f cdv A outer s H E
  walk_at "newl"
  intro p
  walk_at "st"
  walk_at "ev"
  refine as_cons (a1_while PassesOwn.never (fun b ρ cs => ∃ x : Nat, b = m >>> x ∧ (m >>> x ≠ 0 → x < 900) ∧ x ≤ 900 ∧ cs = [(p, .l (((List.range x).filter m.testBit).map natD))] ∧ ρ = [some (natD (m >>> x)), some (.cell p), some (natD x)]) ⟨m, 0, rfl, fun _ => by omega, by omega, rfl, rfl⟩ ?_)
  rintro b ρ' cs' ⟨x, rfl, hx, hx9, rfl, rfl⟩
  walk_at "ev"
  refine ⟨fun hp => ?_, fun hp => ?_⟩
  · have hp : m >>> x ≠ 0 := fun e => by
      rw [e] at hp
      cases hp
    have hx1 := hx hp
    have e1 : (m >>> x) / 2 = m >>> (x + 1) := by rw [Nat.shiftRight_succ]
    have e2 : ((m >>> x : Nat) : Int) / 2 = ((m >>> (x + 1) : Nat) : Int) := by
      rw [← e1]
      generalize m >>> x = y
      omega
    have hlt : m >>> (x + 1) < m >>> x := by rw [← e1]; exact Nat.div_lt_self (Nat.pos_of_ne_zero hp) (by decide)
    have hnx : m >>> (x + 1) ≠ 0 → x + 1 < 900 := fun hne => by
      refine Nat.lt_of_not_le fun hge => hne ?_
      rw [Nat.shiftRight_eq_div_pow]
      exact Nat.div_eq_of_lt (Nat.lt_of_lt_of_le hm (Nat.pow_le_pow_right (by omega) hge))
    have eb : decide ((((m >>> x : Nat) : Int)) % 2 = 1) = m.testBit x := by
      rw [Nat.testBit, Bool.eq_iff_iff, decide_eq_true_iff, bne_iff_ne]
      have h2 : (1 &&& m >>> x) = (m >>> x) % 2 := by rw [Nat.and_comm]; exact Nat.and_one_is_mod _
      rw [h2]
      generalize m >>> x = y
      omega
    have hlen := List.length_filter_le m.testBit (List.range x)
    rw [List.length_range] at hlen
    walk_at "st"
    walk_at "ev"
    refine ⟨by decide, ?_⟩
    walk_at "ev"
    rw [eb]
    refine ⟨fun ht => ?_, fun hf => ?_⟩
    · walk_at "st"
      refine ax_append ?_
      walk_at "ev"
      refine ⟨⟨0, _, rfl⟩, ?_⟩
      walk_at "ev"
      refine ⟨0, _, rfl, by rw [List.length_map]; omega, ?_⟩
      walk_at "st"
      walk_at "st"
      walk_at "ev"
      refine ⟨⟨by decide, by decide⟩, ?_⟩
      walk_at "st"
      walk_at "ev"
      walk_at "st"
      refine ⟨m >>> (x + 1), hlt, x + 1, rfl, hnx, hx1, ?_, ?_⟩
      · rw [filter_succ_t ht, List.map_append]
        rfl
      · rw [e2]
        rfl
    · walk_at "st"
      walk_at "st"
      walk_at "ev"
      refine ⟨⟨by decide, by decide⟩, ?_⟩
      walk_at "st"
      walk_at "ev"
      walk_at "st"
      refine ⟨m >>> (x + 1), hlt, x + 1, rfl, hnx, hx1, ?_, ?_⟩
      · rw [filter_succ_f hf]
      · rw [e2]
        rfl
  · have hz : m >>> x = 0 := by
      have := of_decide_eq_false hp
      generalize m >>> x = y at *
      omega
    refine as_cons (a1_ret (ax_freeze ?_))
    walk_at "ev"
    refine ⟨0, p, _, rfl, rfl, ⟨1, by decide, rfl⟩, ?_⟩
    rw [members_done hz]
    exact k
end

end G
namespace G
open PySem PySem.Spec PyProof.Rows L2 Evl
local macro_rules | `(tactic| walk_at "ix") => `(tactic| with_reducible (first
  | exact AtN.z | exact AtN.s AtN.z | exact AtN.s (AtN.s AtN.z) | exact AtN.s (AtN.s (AtN.s AtN.z)) | exact AtN.s (AtN.s (AtN.s (AtN.s AtN.z)))
  | exact AtN.s (AtN.s (AtN.s (AtN.s (AtN.s AtN.z)))) | exact AtN.s (AtN.s (AtN.s (AtN.s (AtN.s (AtN.s AtN.z))))) | exact AtN.s (AtN.s (AtN.s (AtN.s (AtN.s (AtN.s (AtN.s AtN.z))))))
  | exact AtN.s (AtN.s (AtN.s (AtN.s (AtN.s (AtN.s (AtN.s (AtN.s AtN.z))))))) | exact AtN.s (AtN.s (AtN.s (AtN.s (AtN.s (AtN.s (AtN.s (AtN.s (AtN.s AtN.z)))))))) | exact AtN.s (AtN.s (AtN.s (AtN.s (AtN.s (AtN.s (AtN.s (AtN.s (AtN.s (AtN.s AtN.z)))))))))
  | exact AtN.s (AtN.s (AtN.s (AtN.s (AtN.s (AtN.s (AtN.s (AtN.s (AtN.s (AtN.s (AtN.s AtN.z))))))))))
  | exact AtN.s (AtN.s (AtN.s (AtN.s (AtN.s (AtN.s (AtN.s (AtN.s (AtN.s (AtN.s (AtN.s (AtN.s AtN.z)))))))))))
  | exact AtN.s (AtN.s (AtN.s (AtN.s (AtN.s (AtN.s (AtN.s (AtN.s (AtN.s (AtN.s (AtN.s (AtN.s (AtN.s AtN.z))))))))))))
  | exact AtN.s (AtN.s (AtN.s (AtN.s (AtN.s (AtN.s (AtN.s (AtN.s (AtN.s (AtN.s (AtN.s (AtN.s (AtN.s (AtN.s AtN.z)))))))))))))
  | exact AtN.s (AtN.s (AtN.s (AtN.s (AtN.s (AtN.s (AtN.s (AtN.s (AtN.s (AtN.s (AtN.s (AtN.s (AtN.s (AtN.s (AtN.s AtN.z))))))))))))))))
local macro_rules | `(tactic| walk_at "ev1") => `(tactic| first
  | with_reducible refine ax_int ?_ | with_reducible refine ax_bl ?_ | with_reducible refine ax_non ?_ | with_reducible refine ax_str ?_
  | ((with_reducible show Ax _ _ (Expr.Name _ _) _ _ _); refine ax_u $(Lean.mkIdent `hN) (by walk_at "ix") rfl ?_)
  | ((with_reducible show Ax _ _ (Expr.Compare _ _ _ _) _ _ _); first | (with_reducible refine ax_cmpR cmp_lt ?_) | (with_reducible refine ax_cmpR cmp_le ?_) | (with_reducible refine ax_cmpR cmp_gt ?_) | (with_reducible refine ax_cmpR cmp_ge ?_) | (with_reducible refine ax_cmpR cmp_eq ?_) | (with_reducible refine ax_cmpR cmp_ne ?_) | (with_reducible refine ax_cmpR cmp_is ?_) | (with_reducible refine ax_cmpR cmp_isN ?_))
  | ((with_reducible show At _ _ (Expr.Compare _ _ _ _) _ _ _); first | (with_reducible refine at_cmpR cmp_lt ?_) | (with_reducible refine at_cmpR cmp_le ?_) | (with_reducible refine at_cmpR cmp_gt ?_) | (with_reducible refine at_cmpR cmp_ge ?_) | (with_reducible refine at_cmpR cmp_eq ?_) | (with_reducible refine at_cmpR cmp_ne ?_) | (with_reducible refine at_cmpR cmp_is ?_) | (with_reducible refine at_cmpR cmp_isN ?_))
  | with_reducible refine ax_add ?_ | with_reducible refine ax_sub ?_ | with_reducible refine ax_mul ?_ | with_reducible refine ax_fdiv ?_ | with_reducible refine ax_mod ?_ | with_reducible refine ax_shl ?_ | with_reducible refine ax_shr ?_ | with_reducible refine ax_and ?_ | with_reducible refine ax_or ?_ | with_reducible refine ax_neg ?_
  | with_reducible refine ax_one ?_ | with_reducible refine ax_andv ?_ | with_reducible refine ax_orv ?_ | with_reducible refine ax_notv ?_ | with_reducible refine at_one ?_ | with_reducible refine at_and ?_ | with_reducible refine at_or ?_ | with_reducible refine at_not ?_ | with_reducible refine ax_if ?_
  | ((with_reducible show Ax _ _ (Expr.Subscript _ _ _) _ _ _); refine ax_ix ?_) | with_reducible refine ax_tup ?_ | ((with_reducible show Aa _ _ (_ :: _) _ _ _); refine aa_cons ?_) | with_reducible refine aa_nil ?_
  | ((with_reducible show Ax _ _ (Expr.Call (Expr.Name "len" _) _ _ _) _ _ _); refine ax_len (Mods.len $(Lean.mkIdent `M)) ?_)
  | ((with_reducible show Ax _ _ (Expr.Call (Expr.Name "int" _) _ _ _) _ _ _); refine ax_int1 (Mods.int $(Lean.mkIdent `M)) ?_)
  | ((with_reducible show Ax _ _ (Expr.Call (Expr.Name "abs" _) _ _ _) _ _ _); refine ax_abs (Mods.abs $(Lean.mkIdent `M)) ?_)
  | ((with_reducible show Ax _ _ (Expr.Call (Expr.Name "tuple" _) _ _ _) _ _ _); refine ax_tuple (Mods.tuple $(Lean.mkIdent `M)) ?_)
  | ((with_reducible show Ax _ _ (Expr.Call (Expr.Name "has" _) _ _ _) _ _ _); refine ax_call $(Lean.mkIdent `cHas) (Room.mono $(Lean.mkIdent `hr) (by decide)) pas0 ?_)
  | ((with_reducible show Ax _ _ (Expr.Call (Expr.Name "set_of" _) _ _ _) _ _ _); refine ax_call $(Lean.mkIdent `cSetOf) (Room.mono $(Lean.mkIdent `hr) (by decide)) pas0 ?_)
  | ((with_reducible show Ax _ _ (Expr.Call (Expr.Name "members" _) _ _ _) _ _ _); refine ax_call $(Lean.mkIdent `cMembers) (Room.mono $(Lean.mkIdent `hr) (by decide)) pas0 ?_)
  | ((with_reducible show Ax _ _ (Expr.Call (Expr.Name "is_integer" _) _ _ _) _ _ _); refine ax_call $(Lean.mkIdent `cIsInt) (Room.mono $(Lean.mkIdent `hr) (by decide)) pas0 ?_)
  | ((with_reducible show Ax _ _ (Expr.Call (Expr.Attribute _ "bit_length" _) _ _ _) _ _ _); refine ax_bits ?_)
  | ((with_reducible show Ax _ _ (Expr.Call (Expr.Name "isinstance" _) [_, Expr.Name "int" _] _ _) _ _ _); refine ax_isi (u := "int") (Mods.isinstance $(Lean.mkIdent `M)) (Mods.int $(Lean.mkIdent `M)) boot_int ?_)
  | ((with_reducible show Ax _ _ (Expr.Call (Expr.Name "isinstance" _) [_, Expr.Name "bool" _] _ _) _ _ _); refine ax_isi (u := "bool") (Mods.isinstance $(Lean.mkIdent `M)) (Mods.bool $(Lean.mkIdent `M)) boot_bool ?_)
  | ((with_reducible show Ax _ _ (Expr.Call (Expr.Name "isinstance" _) [_, Expr.Name "tuple" _] _ _) _ _ _); refine ax_isi (u := "tuple") (Mods.isinstance $(Lean.mkIdent `M)) (Mods.tuple $(Lean.mkIdent `M)) boot_tuple ?_)
  | ((with_reducible show Ax _ _ (Expr.Call (Expr.Name "isinstance" _) [_, Expr.Tuple [Expr.Name "list" _, Expr.Name "tuple" _] _ _] _ _) _ _ _); refine ax_isi2 (u1 := "list") (u2 := "tuple") (Mods.isinstance $(Lean.mkIdent `M)) (Mods.list $(Lean.mkIdent `M)) (Mods.tuple $(Lean.mkIdent `M)) boot_list boot_tuple ?_)
  | ((with_reducible show ∃ t k, tyD _ = some t ∧ kitB t _ = some k ∧ _); refine ⟨_, _, rfl, by with_reducible (first | exact kit_ii | exact kit_ib | exact kit_tt), ?_⟩)
  | ((with_reducible show S_isInt _ _ _); refine ⟨_, rfl, ?_⟩) | ((with_reducible show S_has _ _ _); refine ⟨_, _, rfl, ?_⟩)
  | ((with_reducible show REq _ _ _ _); refine ⟨_, rfl, ?_⟩) | ((with_reducible show RNe _ _ _ _); refine ⟨_, rfl, ?_⟩) | ((with_reducible show RI _ _ _ _ _); refine ⟨_, _, rfl, rfl, ?_⟩)
  | with_reducible refine ⟨_, _, rfl, rfl, ?_⟩
  | with_reducible refine ⟨_, rfl, ?_⟩
  | ((with_reducible show At _ _ (Expr.Name _ _) _ _ _); refine at_val ?_) | ((with_reducible show At _ _ (Expr.Call _ _ _ _) _ _ _); refine at_val ?_) | ((with_reducible show At _ _ (Expr.Subscript _ _ _) _ _ _); refine at_val ?_))
local macro_rules | `(tactic| walk_at "ev") => `(tactic| repeat walk_at "ev1")
local macro_rules | `(tactic| walk_at "st1") => `(tactic| first
    | ((with_reducible show A1 _ _ (Stmt.Return _ _) _ _ _); refine a1_ret ?_)
    | ((with_reducible show A1 _ _ (Stmt.If _ _ _ _) _ _ _); refine a1_if ?_)
    | ((with_reducible show A1 _ _ (Stmt.Expr _ _) _ _ _); refine a1_drop ?_)
    | ((with_reducible show A1 _ _ (Stmt.Assign [Expr.Name _ _] _ _) _ _ _); refine a1_setU $(Lean.mkIdent `hN) (by walk_at "ix") $(Lean.mkIdent `hnd) ?_)
    | ((with_reducible show A1 _ _ (Stmt.Assign _ _ _) _ _ _); refine a1_asg ?_))
local macro_rules | `(tactic| walk_at "st") => `(tactic| first
  | ((with_reducible show As _ _ [] _ _ _); refine as_nil ?_)
  | (refine as_cons ?_; walk_at "st1"))
local macro_rules | `(tactic| walk_at "newl") => `(tactic| refine as_setU $(Lean.mkIdent `hN) (by walk_at "ix") $(Lean.mkIdent `hnd) (ax_lstC (aa_nil ⟨by decide, ?_⟩)))
local macro_rules | `(tactic| walk_at "for") => `(tactic| (refine as_cons ?_; refine a1_for ?hp ?_ ?hc ?hs; (case hp => exact PassesOwn.never); (case hc => rfl); (case hs => intro _; rfl)))
local macro_rules | `(tactic| walk_at "tgt") => `(tactic| refine ag_nameU $(Lean.mkIdent `hN) (by walk_at "ix") $(Lean.mkIdent `hnd) ?_)
local macro_rules | `(tactic| walk_at "rng") => `(tactic| refine ai_range1 (Mods.range $(Lean.mkIdent `M)) ?_)
local macro_rules | `(tactic| walk_at "while") => `(tactic| (refine as_cons ?_; refine a1_while ?hp ?I ?h0 ?hs; (case hp => exact PassesOwn.never)))
local macro_rules | `(tactic| walk_at "pair") => `(tactic| refine ag_pairU $(Lean.mkIdent `hN) (by walk_at "ix") (by walk_at "ix") $(Lean.mkIdent `hnd) ?hd ?_)
local macro_rules | `(tactic| walk_at "blk") => `(tactic| exact blkOk_by (by decide +kernel))
local macro_rules | `(tactic| walk_at "forX") => `(tactic| (refine as_cons ?_; refine a1_for ?hp ?_ ?hc ?hs; (case hp => exact passes_of rfl); (case hc => rfl); (case hs => intro _; rfl)))
/-! L2: what the law draws -/
theorem erase_perm {α : Type} : ∀ {l : List α} {i : Nat} {z : α}, l[i]? = some z → (z :: l.eraseIdx i).Perm l
  | [], _, _, h => by simp at h
  | x :: l, 0, z, h => by
    have h : x = z := by simpa using h
    subst h
    exact .refl _
  | x :: l, i + 1, z, h => by
    have h : l[i]? = some z := by simpa using h
    exact (List.Perm.swap x z _).trans ((erase_perm h).cons x)
theorem perm_pop {N L R : List Nat} {i z : Nat} (h : L[i]? = some z) (p : (N ++ L).Perm R) : ((N ++ [z]) ++ L.eraseIdx i).Perm R := by
  rw [List.append_assoc]
  exact ((erase_perm h).append_left N).trans p
theorem rangeD (n : Nat) : ((List.range n).map fun i : Nat => Dt.int (i : Int)) = (List.range n).map natD := rfl
section
variable {P : Program} {w : World} {K : PySem.W.Frag} {mg : Str → Option Value} {base : Heap} {CR : Addr}
abbrev sDrawn : Stmt := topS 27
abbrev nDrawn : List Str := ["_law_state_here", "_law_most", "_law_n", "_law_rest", "_law_names", "_law_k", "_law_pairs", "_law_thick", "_law_i", "_law_j"]
theorem scDrawn : FnScope nDrawn ["_law_state_here", "_law_most"] (defScope sDrawn) := ⟨rfl, rfl, rfl, by decide +kernel, rfl, by decide +kernel, by decide +kernel⟩
def S_drawn : Sd := fun ds cs P _ => ∃ (a : Addr) (s t : Int), ds = [.cell a, .int 3] ∧ StOk s t ∧ cs = [stC a s t] ∧ ∀ n ps s' t', n ≤ 3 → InR n ps → ps.length ≤ 100 → StOk s' t' → P (.tup [natD n, .tup (ps.map pairN)]) [stC a s' t']
theorem ok_drawn {f : Addr} {fd : FuncData} (F : Fun K "_law_drawn" "_law_drawn" sDrawn f fd) (M : Mods mg) (cTake : Fo P w K mg base CX0 CR 1 "_law_take" S_take) : FnOk P w K mg base CX0 2 f fd ["_law_state_here", "_law_most"] (spOf K CR S_drawn) := by
  refine def_ok F scDrawn (fun ds cs Pd R ⟨_, _, _, h, _⟩ => by rw [h]; rfl) fun cdv A outer s F H E ds cs Pd R hr ⟨a, s0, t0, hd, hst, hcs, kont⟩ => ?_
  subst hcs
  subst hd
  have hnd := scDrawn.nd
  have hN := cx_N CX0 P w K mg base nDrawn "_law_drawn" (defScope sDrawn) f cdv A outer s H E
  refine as_setU hN (by walk_at "ix") hnd (ax_callN 0 cTake (Room.mono hr (by decide)) pas0 ?_)
  walk_at "ev"
  refine ⟨a, 4, s0, t0, rfl, by decide, by decide, hst, rfl, fun n s1 t1 hn hst1 => ?_⟩
  refine as_setU hN (by walk_at "ix") hnd (ax_listRg M.list M.range ?_)
  walk_at "ev"
  refine ⟨by omega, fun q => ?_⟩
  rw [rangeD]
  walk_at "newl"
  intro p
  walk_at "for"
  walk_at "rng"
  walk_at "ev"
  refine ⟨by omega, fun i ρ cs => (∃ (N L : List Nat) (s t : Int), (N ++ L).Perm (List.range n) ∧ N.length = i ∧ StOk s t ∧ cs = [(p, .l (N.map natD)), (q, .l (L.map natD)), stC a s t]) ∧ ∃ z1 z2 z3 z4 z5, ρ = [some (.cell a), some (.int 3), some (natD n), some (.cell q), some (.cell p), z1, z2, z3, z4, z5], ⟨⟨[], _, _, _, .refl _, rfl, hst1, rfl⟩, _, _, _, _, _, rfl⟩, ?_, ?_⟩
  · rintro i e ρ' cs' hi ⟨⟨N, L, s2, t2, hp, hNl, hst2, rfl⟩, z1, z2, z3, z4, z5, rfl⟩
    obtain ⟨hi1, rfl⟩ := rng_item hi
    have hlen := hp.length_eq
    rw [List.length_append, List.length_range] at hlen
    walk_at "tgt"
    walk_at "st"
    refine ax_append ?_
    walk_at "ev"
    refine ⟨⟨0, _, rfl⟩, ax_pop ?_⟩
    walk_at "ev"
    refine ⟨⟨1, _, rfl⟩, ax_callN 2 cTake (Room.mono hr (by decide)) pas0 ?_⟩
    walk_at "ev"
    refine ⟨_, .inr (.inr ⟨1, q, rfl, rfl⟩), ?_⟩
    walk_at "ev"
    refine ⟨a, (L.map natD).length, s2, t2, rfl, by rw [List.length_map]; omega, by rw [List.length_map]; omega, hst2, rfl, fun v s3 t3 hv hst3 => ?_⟩
    rw [List.length_map] at hv
    have hz : L[v]? = some (L[v]) := List.getElem?_eq_getElem hv
    refine ⟨1, _, v, natD (L[v]), rfl, rfl, by rw [List.getElem?_map, hz]; rfl, by rw [List.length_map]; omega, 0, _, rfl, by rw [List.length_map]; omega, ?_⟩
    walk_at "st"
    refine ⟨⟨N ++ [L[v]], L.eraseIdx v, s3, t3, perm_pop hz hp, by rw [List.length_append, hNl]; rfl, hst3, ?_⟩, _, _, _, _, _, rfl⟩
    rw [List.map_append, map_erase]
    rfl
  rintro ρ' cs' ⟨⟨N, L, s2, t2, hp, hNl, hst2, rfl⟩, z1, z2, z3, z4, z5, rfl⟩
  have hNl : N.length = n := hNl
  have hNn : ∀ x ∈ N, x < n := fun x hx => List.mem_range.mp (hp.mem_iff.mp (List.mem_append_left _ hx))
  have hNg : ∀ i, i < n → (N.map natD)[i]? = some (natD (atL N i)) := fun i hi => by rw [List.getElem?_map, atL_get (by omega)]; rfl
  walk_at "newl"
  intro r
  walk_at "st"
  walk_at "ev"
  refine ax_callN 3 cTake (Room.mono hr (by decide)) pas0 ?_
  walk_at "ev"
  refine ⟨a, 3, s2, t2, rfl, by decide, by decide, hst2, rfl, fun v s3 t3 hv hst3 => ?_⟩
  walk_at "ev"
  walk_at "for"
  walk_at "rng"
  walk_at "ev"
  refine ⟨by omega, fun i ρ cs => (∃ (ps : List (Nat × Nat)) (s t : Int), InR n ps ∧ ps.length ≤ i * n ∧ StOk s t ∧ cs = [(r, .l (ps.map pairN)), (p, .l (N.map natD)), (q, .l (L.map natD)), stC a s t]) ∧ ∃ z1 z4 z5, ρ = [some (.cell a), some (.int 3), some (natD n), some (.cell q), some (.cell p), z1, some (.cell r), some (.int (2 + (v : Int))), z4, z5], ⟨⟨[], _, _, fun q h => by simp at h, Nat.zero_le _, hst3, rfl⟩, _, _, _, rfl⟩, ?_, ?_⟩
  · rintro i e ρ' cs' hi ⟨⟨ps, s4, t4, hin, hpl, hst4, rfl⟩, z1, z4, z5, rfl⟩
    obtain ⟨hi1, rfl⟩ := rng_item hi
    have hin3 : i * n ≤ 3 * 3 := Nat.mul_le_mul (by omega) (by omega)
    walk_at "tgt"
    walk_at "for"
    walk_at "rng"
    walk_at "ev"
    refine ⟨by omega, fun j ρ cs => (∃ (ps : List (Nat × Nat)) (s t : Int), InR n ps ∧ ps.length ≤ i * n + j ∧ StOk s t ∧ cs = [(r, .l (ps.map pairN)), (p, .l (N.map natD)), (q, .l (L.map natD)), stC a s t]) ∧ ∃ z5, ρ = [some (.cell a), some (.int 3), some (natD n), some (.cell q), some (.cell p), z1, some (.cell r), some (.int (2 + (v : Int))), some (natD i), z5], ⟨⟨ps, _, _, hin, hpl, hst4, rfl⟩, _, rfl⟩, ?_, ?_⟩
    · rintro j e ρ' cs' hj ⟨⟨ps, s5, t5, hin, hpl, hst5, rfl⟩, z5, rfl⟩
      obtain ⟨hj1, rfl⟩ := rng_item hj
      walk_at "tgt"
      walk_at "st"
      walk_at "ev"
      refine ax_callN 3 cTake (Room.mono hr (by decide)) pas0 ?_
      walk_at "ev"
      refine ⟨a, 2 + v, s5, t5, rfl, by omega, by omega, hst5, rfl, fun u s6 t6 hu hst6 => ?_⟩
      walk_at "ev"
      refine ⟨fun _ => ?_, fun _ => ?_⟩
      · walk_at "st"
        refine ax_append ?_
        walk_at "ev"
        refine ⟨⟨0, _, rfl⟩, ?_⟩
        walk_at "ev"
        refine ⟨_, _, _, .inr (.inr ⟨1, p, rfl, rfl⟩), rfl, hNg j (by omega), ?_⟩
        walk_at "ev"
        refine ⟨_, _, _, .inr (.inr ⟨1, p, rfl, rfl⟩), rfl, hNg i hi1, ?_⟩
        walk_at "ev"
        refine ⟨by show 2 ≤ 1000; decide, 0, _, rfl, by rw [List.length_map]; omega, ?_⟩
        walk_at "st"
        walk_at "st"
        refine ⟨⟨ps ++ [(atL N j, atL N i)], s6, t6, fun x hx => ?_, by rw [List.length_append]; show ps.length + 1 ≤ _; omega, hst6, ?_⟩, _, rfl⟩
        · rcases List.mem_append.mp hx with hx | hx
          · exact hin x hx
          · obtain rfl := List.mem_singleton.mp hx
            exact ⟨hNn _ (atL_mem (by omega)), hNn _ (atL_mem (by omega))⟩
        · rw [List.map_append]
          rfl
      · walk_at "st"
        walk_at "st"
        exact ⟨⟨ps, s6, t6, hin, by omega, hst6, rfl⟩, _, rfl⟩
    · rintro ρ' cs' ⟨⟨ps, s5, t5, hin, hpl, hst5, rfl⟩, z5, rfl⟩
      have hpl : ps.length ≤ i * n + i := hpl
      walk_at "st"
      refine ⟨⟨ps, _, _, hin, ?_, hst5, rfl⟩, _, _, _, rfl⟩
      rw [Nat.add_mul]
      omega
  rintro ρ' cs' ⟨⟨ps, s4, t4, hin, hpl, hst4, rfl⟩, z1, z4, z5, rfl⟩
  have hpl : ps.length ≤ n * n := hpl
  have hin3 : n * n ≤ 3 * 3 := Nat.mul_le_mul (by omega) (by omega)
  refine as_freeze 6 0 rfl rfl ⟨3, by decide, rfl⟩ ?_
  refine as_drop 4 0 rfl ⟨2, by decide, rfl⟩ ?_
  refine as_drop 3 0 rfl ⟨1, by decide, rfl⟩ ?_
  walk_at "st"
  walk_at "ev"
  refine ⟨_, .inl rfl, ?_⟩
  walk_at "ev"
  exact ⟨by show 2 ≤ 1000; decide, kont n ps s4 t4 (by omega) hin (by omega) hst4⟩
end

end G
namespace G
open PySem PySem.Spec PyProof.Rows L2 Evl
local macro_rules | `(tactic| walk_at "ix") => `(tactic| with_reducible (first
  | exact AtN.z | exact AtN.s AtN.z | exact AtN.s (AtN.s AtN.z) | exact AtN.s (AtN.s (AtN.s AtN.z)) | exact AtN.s (AtN.s (AtN.s (AtN.s AtN.z)))
  | exact AtN.s (AtN.s (AtN.s (AtN.s (AtN.s AtN.z)))) | exact AtN.s (AtN.s (AtN.s (AtN.s (AtN.s (AtN.s AtN.z))))) | exact AtN.s (AtN.s (AtN.s (AtN.s (AtN.s (AtN.s (AtN.s AtN.z))))))
  | exact AtN.s (AtN.s (AtN.s (AtN.s (AtN.s (AtN.s (AtN.s (AtN.s AtN.z))))))) | exact AtN.s (AtN.s (AtN.s (AtN.s (AtN.s (AtN.s (AtN.s (AtN.s (AtN.s AtN.z)))))))) | exact AtN.s (AtN.s (AtN.s (AtN.s (AtN.s (AtN.s (AtN.s (AtN.s (AtN.s (AtN.s AtN.z)))))))))
  | exact AtN.s (AtN.s (AtN.s (AtN.s (AtN.s (AtN.s (AtN.s (AtN.s (AtN.s (AtN.s (AtN.s AtN.z))))))))))
  | exact AtN.s (AtN.s (AtN.s (AtN.s (AtN.s (AtN.s (AtN.s (AtN.s (AtN.s (AtN.s (AtN.s (AtN.s AtN.z)))))))))))
  | exact AtN.s (AtN.s (AtN.s (AtN.s (AtN.s (AtN.s (AtN.s (AtN.s (AtN.s (AtN.s (AtN.s (AtN.s (AtN.s AtN.z))))))))))))
  | exact AtN.s (AtN.s (AtN.s (AtN.s (AtN.s (AtN.s (AtN.s (AtN.s (AtN.s (AtN.s (AtN.s (AtN.s (AtN.s (AtN.s AtN.z)))))))))))))
  | exact AtN.s (AtN.s (AtN.s (AtN.s (AtN.s (AtN.s (AtN.s (AtN.s (AtN.s (AtN.s (AtN.s (AtN.s (AtN.s (AtN.s (AtN.s AtN.z))))))))))))))))
local macro_rules | `(tactic| walk_at "ev1") => `(tactic| first
  | with_reducible refine ax_int ?_ | with_reducible refine ax_bl ?_ | with_reducible refine ax_non ?_ | with_reducible refine ax_str ?_
  | ((with_reducible show Ax _ _ (Expr.Name _ _) _ _ _); refine ax_u $(Lean.mkIdent `hN) (by walk_at "ix") rfl ?_)
  | ((with_reducible show Ax _ _ (Expr.Compare _ _ _ _) _ _ _); first | (with_reducible refine ax_cmpR cmp_lt ?_) | (with_reducible refine ax_cmpR cmp_le ?_) | (with_reducible refine ax_cmpR cmp_gt ?_) | (with_reducible refine ax_cmpR cmp_ge ?_) | (with_reducible refine ax_cmpR cmp_eq ?_) | (with_reducible refine ax_cmpR cmp_ne ?_) | (with_reducible refine ax_cmpR cmp_is ?_) | (with_reducible refine ax_cmpR cmp_isN ?_))
  | ((with_reducible show At _ _ (Expr.Compare _ _ _ _) _ _ _); first | (with_reducible refine at_cmpR cmp_lt ?_) | (with_reducible refine at_cmpR cmp_le ?_) | (with_reducible refine at_cmpR cmp_gt ?_) | (with_reducible refine at_cmpR cmp_ge ?_) | (with_reducible refine at_cmpR cmp_eq ?_) | (with_reducible refine at_cmpR cmp_ne ?_) | (with_reducible refine at_cmpR cmp_is ?_) | (with_reducible refine at_cmpR cmp_isN ?_))
  | with_reducible refine ax_add ?_ | with_reducible refine ax_sub ?_ | with_reducible refine ax_mul ?_ | with_reducible refine ax_fdiv ?_ | with_reducible refine ax_mod ?_ | with_reducible refine ax_shl ?_ | with_reducible refine ax_shr ?_ | with_reducible refine ax_and ?_ | with_reducible refine ax_or ?_ | with_reducible refine ax_neg ?_
  | with_reducible refine ax_one ?_ | with_reducible refine ax_andv ?_ | with_reducible refine ax_orv ?_ | with_reducible refine ax_notv ?_ | with_reducible refine at_one ?_ | with_reducible refine at_and ?_ | with_reducible refine at_or ?_ | with_reducible refine at_not ?_ | with_reducible refine ax_if ?_
  | ((with_reducible show Ax _ _ (Expr.Subscript _ _ _) _ _ _); refine ax_ix ?_) | with_reducible refine ax_tup ?_ | ((with_reducible show Aa _ _ (_ :: _) _ _ _); refine aa_cons ?_) | with_reducible refine aa_nil ?_
  | ((with_reducible show Ax _ _ (Expr.Call (Expr.Name "len" _) _ _ _) _ _ _); refine ax_len (Mods.len $(Lean.mkIdent `M)) ?_)
  | ((with_reducible show Ax _ _ (Expr.Call (Expr.Name "int" _) _ _ _) _ _ _); refine ax_int1 (Mods.int $(Lean.mkIdent `M)) ?_)
  | ((with_reducible show Ax _ _ (Expr.Call (Expr.Name "abs" _) _ _ _) _ _ _); refine ax_abs (Mods.abs $(Lean.mkIdent `M)) ?_)
  | ((with_reducible show Ax _ _ (Expr.Call (Expr.Name "tuple" _) _ _ _) _ _ _); refine ax_tuple (Mods.tuple $(Lean.mkIdent `M)) ?_)
  | ((with_reducible show Ax _ _ (Expr.Call (Expr.Name "has" _) _ _ _) _ _ _); refine ax_call $(Lean.mkIdent `cHas) (Room.mono $(Lean.mkIdent `hr) (by decide)) pas0 ?_)
  | ((with_reducible show Ax _ _ (Expr.Call (Expr.Name "set_of" _) _ _ _) _ _ _); refine ax_call $(Lean.mkIdent `cSetOf) (Room.mono $(Lean.mkIdent `hr) (by decide)) pas0 ?_)
  | ((with_reducible show Ax _ _ (Expr.Call (Expr.Name "members" _) _ _ _) _ _ _); refine ax_call $(Lean.mkIdent `cMembers) (Room.mono $(Lean.mkIdent `hr) (by decide)) pas0 ?_)
  | ((with_reducible show Ax _ _ (Expr.Call (Expr.Name "is_integer" _) _ _ _) _ _ _); refine ax_call $(Lean.mkIdent `cIsInt) (Room.mono $(Lean.mkIdent `hr) (by decide)) pas0 ?_)
  | ((with_reducible show Ax _ _ (Expr.Call (Expr.Attribute _ "bit_length" _) _ _ _) _ _ _); refine ax_bits ?_)
  | ((with_reducible show Ax _ _ (Expr.Call (Expr.Name "isinstance" _) [_, Expr.Name "int" _] _ _) _ _ _); refine ax_isi (u := "int") (Mods.isinstance $(Lean.mkIdent `M)) (Mods.int $(Lean.mkIdent `M)) boot_int ?_)
  | ((with_reducible show Ax _ _ (Expr.Call (Expr.Name "isinstance" _) [_, Expr.Name "bool" _] _ _) _ _ _); refine ax_isi (u := "bool") (Mods.isinstance $(Lean.mkIdent `M)) (Mods.bool $(Lean.mkIdent `M)) boot_bool ?_)
  | ((with_reducible show Ax _ _ (Expr.Call (Expr.Name "isinstance" _) [_, Expr.Name "tuple" _] _ _) _ _ _); refine ax_isi (u := "tuple") (Mods.isinstance $(Lean.mkIdent `M)) (Mods.tuple $(Lean.mkIdent `M)) boot_tuple ?_)
  | ((with_reducible show Ax _ _ (Expr.Call (Expr.Name "isinstance" _) [_, Expr.Tuple [Expr.Name "list" _, Expr.Name "tuple" _] _ _] _ _) _ _ _); refine ax_isi2 (u1 := "list") (u2 := "tuple") (Mods.isinstance $(Lean.mkIdent `M)) (Mods.list $(Lean.mkIdent `M)) (Mods.tuple $(Lean.mkIdent `M)) boot_list boot_tuple ?_)
  | ((with_reducible show ∃ t k, tyD _ = some t ∧ kitB t _ = some k ∧ _); refine ⟨_, _, rfl, by with_reducible (first | exact kit_ii | exact kit_ib | exact kit_tt), ?_⟩)
  | ((with_reducible show S_isInt _ _ _); refine ⟨_, rfl, ?_⟩) | ((with_reducible show S_has _ _ _); refine ⟨_, _, rfl, ?_⟩)
  | ((with_reducible show REq _ _ _ _); refine ⟨_, rfl, ?_⟩) | ((with_reducible show RNe _ _ _ _); refine ⟨_, rfl, ?_⟩) | ((with_reducible show RI _ _ _ _ _); refine ⟨_, _, rfl, rfl, ?_⟩)
  | with_reducible refine ⟨_, _, rfl, rfl, ?_⟩
  | with_reducible refine ⟨_, rfl, ?_⟩
  | ((with_reducible show At _ _ (Expr.Name _ _) _ _ _); refine at_val ?_) | ((with_reducible show At _ _ (Expr.Call _ _ _ _) _ _ _); refine at_val ?_) | ((with_reducible show At _ _ (Expr.Subscript _ _ _) _ _ _); refine at_val ?_))
local macro_rules | `(tactic| walk_at "ev") => `(tactic| repeat walk_at "ev1")
local macro_rules | `(tactic| walk_at "st1") => `(tactic| first
    | ((with_reducible show A1 _ _ (Stmt.Return _ _) _ _ _); refine a1_ret ?_)
    | ((with_reducible show A1 _ _ (Stmt.If _ _ _ _) _ _ _); refine a1_if ?_)
    | ((with_reducible show A1 _ _ (Stmt.Expr _ _) _ _ _); refine a1_drop ?_)
    | ((with_reducible show A1 _ _ (Stmt.Assign [Expr.Name _ _] _ _) _ _ _); refine a1_setU $(Lean.mkIdent `hN) (by walk_at "ix") $(Lean.mkIdent `hnd) ?_)
    | ((with_reducible show A1 _ _ (Stmt.Assign _ _ _) _ _ _); refine a1_asg ?_))
local macro_rules | `(tactic| walk_at "st") => `(tactic| first
  | ((with_reducible show As _ _ [] _ _ _); refine as_nil ?_)
  | (refine as_cons ?_; walk_at "st1"))
local macro_rules | `(tactic| walk_at "newl") => `(tactic| refine as_setU $(Lean.mkIdent `hN) (by walk_at "ix") $(Lean.mkIdent `hnd) (ax_lstC (aa_nil ⟨by decide, ?_⟩)))
local macro_rules | `(tactic| walk_at "for") => `(tactic| (refine as_cons ?_; refine a1_for ?hp ?_ ?hc ?hs; (case hp => exact PassesOwn.never); (case hc => rfl); (case hs => intro _; rfl)))
local macro_rules | `(tactic| walk_at "tgt") => `(tactic| refine ag_nameU $(Lean.mkIdent `hN) (by walk_at "ix") $(Lean.mkIdent `hnd) ?_)
local macro_rules | `(tactic| walk_at "rng") => `(tactic| refine ai_range1 (Mods.range $(Lean.mkIdent `M)) ?_)
local macro_rules | `(tactic| walk_at "while") => `(tactic| (refine as_cons ?_; refine a1_while ?hp ?I ?h0 ?hs; (case hp => exact PassesOwn.never)))
local macro_rules | `(tactic| walk_at "pair") => `(tactic| refine ag_pairU $(Lean.mkIdent `hN) (by walk_at "ix") (by walk_at "ix") $(Lean.mkIdent `hnd) ?hd ?_)
local macro_rules | `(tactic| walk_at "blk") => `(tactic| exact blkOk_by (by decide +kernel))
local macro_rules | `(tactic| walk_at "forX") => `(tactic| (refine as_cons ?_; refine a1_for ?hp ?_ ?hc ?hs; (case hp => exact passes_of rfl); (case hc => rfl); (case hs => intro _; rfl)))
/-! L3: the law's closure -/
section
variable {X : Cx} {T : Ent} {ρ : Rho} {cs : Cs} {rest : List Stmt} {E : AE}
theorem ax_perm {e : Expr} {P : Dt → Cs → Prop} (h : Ax X T e ρ cs fun y cs' => ∃ cs'', cs'.Perm cs'' ∧ P y cs'') : Ax X T e ρ cs P := fun σ F H he hh =>
  wE_mono (h σ F H he hh) fun v H' ⟨F', d, cs', e1, h1, r1, cs'', p, q⟩ => ⟨F', d, cs'', e1, h1.perm p, r1, q⟩
theorem RpL.same {K : PySem.W.Frag} {F : Hp} {es : List Dt} {vs : List V} {j : Nat} {d : Dt} {v : V} (h : RpL K F es vs) (hv : vs[j]? = some v) (r : Rp K F d v) : RpL K F (es.set j d) vs := by
  have z := h.set (j := j) r
  have e : vs.set j v = vs := by
    refine List.ext_getElem? fun i => ?_
    by_cases hj : j = i
    · subst hj
      rw [List.getElem?_set_self (List.getElem?_eq_some_iff.mp hv).1, hv]
    · rw [List.getElem?_set_ne hj]
  rw [e] at z
  exact z
/-- a row within a table is let be -/
theorem as_freezeIn {k m j : Nat} {l t : Addr} {ds es : List Dt} (hm : m < k) (hk : cs[k]? = some (l, .l ds)) (ht : cs[m]? = some (t, .l es)) (hj : es[j]? = some (.cell l)) (hp : Pre T cs k) (h : As X T rest ρ ((cs.eraseIdx k).set m (t, .l (es.set j (.lst ds)))) E) : As X T rest ρ cs E := fun σ F H he hh => by
  obtain ⟨o, g1, g2, e1, h1⟩ := hh.freeze hk hp
  obtain ⟨vs, rfl, g2⟩ := g2
  have ht1 : (cs.eraseIdx k)[m]? = some (t, .l es) := by rw [List.getElem?_eraseIdx_of_lt hm]; exact ht
  obtain ⟨_, _, o2, q1, q2⟩ := h1.cell _ (List.mem_of_getElem? ht1)
  obtain ⟨ws, rfl, q2⟩ := q2
  obtain ⟨v, hv, rv⟩ := q2.get hj
  obtain rfl := (show v = _ from rv)
  have h2 := h1.write ht1 (c' := .l (es.set j (.lst ds))) (o := .lst ws) ⟨ws, rfl, q2.same hv ⟨l, vs, rfl, upd_same, g2.mono e1⟩⟩
  have eu : upd H t (.lst ws) = H := by
    funext b
    by_cases hb : b = t
    · rw [hb, upd_same, q1]
    · rw [upd_ne hb]
  rw [eu] at h2
  exact wSs_mono (h σ _ H (he.mono e1) h2) (rE_le e1)
/-- all rows -/
theorem as_rows (hmu : T.mu = []) {t : Addr} : ∀ (rs : List (Addr × List Dt)) (done : List Dt), As X T rest ρ [(t, .l (done ++ rs.map fun p => .lst p.2))] E → As X T rest ρ ((t, .l (done ++ rs.map fun p => .cell p.1)) :: rs.map fun p => (p.1, .l p.2)) E
  | [], done, h => h
  | p :: rs, done, h => by
    refine as_freezeIn (k := 1) (m := 0) (j := done.length) (by decide) rfl rfl (by simp) ⟨(p :: rs).length + 1, by simp, by rw [hmu]; simp⟩ ?_
    have e : ((done ++ (p :: rs).map fun p => Dt.cell p.1).set done.length (.lst p.2)) = (done ++ [.lst p.2]) ++ rs.map fun p => Dt.cell p.1 := by
      rw [List.set_append_right _ _ (Nat.le_refl _)]
      simp
    show As X T rest ρ ((t, .l ((done ++ (p :: rs).map fun p => Dt.cell p.1).set done.length (.lst p.2))) :: rs.map fun p => (p.1, .l p.2)) E
    rw [e]
    refine as_rows hmu rs (done ++ [.lst p.2]) ?_
    have e2 : (done ++ [.lst p.2]) ++ (rs.map fun p => Dt.lst p.2) = done ++ (p :: rs).map fun p => Dt.lst p.2 := by simp
    rw [e2]
    exact h
end
section
variable {X : Cx} {T : Ent} {ρ : Rho} {cs : Cs} {elt iter : Expr} {ifs : List Expr} {scope scope1 sc : Scope} {pos : Pos} {N0 : List Str} {s0 : Shared} {H0 : Hp} {C0 : Addr} {cl0 : List (Str × Addr)} {fp0 : List Addr}
theorem ax_lcC2 {j : Nat} {x : Str} {px : Pos} {P : Dt → Cs → Prop} (hN : X.N = N0) (ha : AtN N0 j x) (hnd : N0.Nodup) (hsc : X.env.scope = sc) (hok : BlkOk N0 (relS scope1 sc) scope [(x, j)])
    (h : Ai (Bk X scope1 s0 H0 C0 cl0 fp0) T (.Name x px) iter ρ cs fun src cs1 => src.len ≤ 90000 ∧ ∃ g : Nat → Option Dt, (∀ i d, src.item i = some d → TurnQ (Bk X scope1 s0 H0 C0 cl0 fp0) T scope elt ifs ((ρ.set j none).set j (some d)) cs1 (g i)) ∧ ∀ D, P (.cell D) ((D, .l ((List.range src.len).filterMap g)) :: cs1))
    (hx : LocB scope (Bk X scope1 s0 H0 C0 cl0 fp0).env.scope x := by first | exact .inl rfl | exact .inr ⟨rfl, rfl⟩) (hc : X.calm = true := by rfl) (hs : ∀ x, foldedSetIterable iter (Bk X scope1 s0 H0 C0 cl0 fp0).env x = pure x := by intro _; rfl) :
    Ax (Bk X scope1 s0 H0 C0 cl0 fp0) T (.ListComp elt [⟨.Name x px, iter, ifs, 0⟩] scope pos) ρ cs P :=
  ax_lcC (X := Bk X scope1 s0 H0 C0 cl0 fp0) hN ha hnd hok (by subst hsc; rfl) h hx hc hs
end
def bRow (n : Nat) (f : Nat → Bool) : List Dt := (List.range n).map fun y => .bl (f y)
def tabB (n : Nat) (R : Rl) : List Dt := (List.range n).map fun x => .lst (bRow n (R x))
theorem bRow_get {n y : Nat} {f : Nat → Bool} (h : y < n) : (bRow n f)[y]? = some (.bl (f y)) := map_range_get h
theorem tabB_get {n y : Nat} {f : Rl} (h : y < n) : (tabB n f)[y]? = some (.lst (bRow n (f y))) := map_range_get h
theorem bRow_len (n : Nat) (f : Nat → Bool) : (bRow n f).length = n := by unfold bRow; rw [List.length_map, List.length_range]
theorem tabB_len (n : Nat) (f : Rl) : (tabB n f).length = n := by unfold tabB; rw [List.length_map, List.length_range]
theorem tabB_congr {n : Nat} {R S : Rl} (h : ∀ x y, x < n → y < n → R x y = S x y) : tabB n R = tabB n S := map_range_congr fun x hx => congrArg Dt.lst (map_range_congr fun y hy => congrArg Dt.bl (h x y hx hy))
/-- the rows as cells -/
def rowC (n : Nat) (ad : Nat → Addr) (R : Rl) (i : Nat) : Cs := (List.range i).map fun x => (ad x, .l (bRow n (R x)))
def adC (ad : Nat → Addr) (i : Nat) : List Dt := (List.range i).map fun x => .cell (ad x)
theorem rowC_get {n x i : Nat} {ad : Nat → Addr} {R : Rl} (h : x < i) : (rowC n ad R i)[x]? = some (ad x, .l (bRow n (R x))) := map_range_get h
theorem adC_get {x i : Nat} {ad : Nat → Addr} (h : x < i) : (adC ad i)[x]? = some (.cell (ad x)) := map_range_get h
theorem rowC_congr {n i : Nat} {ad : Nat → Addr} {R S : Rl} (h : ∀ x y, x < i → y < n → R x y = S x y) : rowC n ad R i = rowC n ad S i := map_range_congr fun x hx => congrArg (fun l => (ad x, Ct.l l)) (map_range_congr fun y hy => congrArg Dt.bl (h x y hx hy))
theorem adC_push (ad : Nat → Addr) (i : Nat) (D : Addr) : adC ad i ++ [.cell D] = adC (fun x => if x = i then D else ad x) (i + 1) := by
  unfold adC
  rw [List.range_succ, List.map_append]
  have e1 : (List.range i).map (fun x => Dt.cell (if x = i then D else ad x)) = (List.range i).map fun x => Dt.cell (ad x) := map_range_congr fun x hx => by rw [if_neg (by omega)]
  rw [e1]
  show _ = _ ++ [Dt.cell (if i = i then D else ad i)]
  rw [if_pos rfl]
theorem rowC_push (n : Nat) (ad : Nat → Addr) (R : Rl) (i : Nat) (D : Addr) : rowC n ad R i ++ [(D, .l (bRow n (R i)))] = rowC n (fun x => if x = i then D else ad x) R (i + 1) := by
  unfold rowC
  rw [List.range_succ, List.map_append]
  have e1 : (List.range i).map (fun x => ((if x = i then D else ad x), Ct.l (bRow n (R x)))) = (List.range i).map fun x => (ad x, Ct.l (bRow n (R x))) := map_range_congr fun x hx => by rw [if_neg (by omega)]
  rw [e1]
  show _ = _ ++ [((if i = i then D else ad i), Ct.l (bRow n (R i)))]
  rw [if_pos rfl]
theorem as_tab {X : Cx} {T : Ent} {ρ : Rho} {rest : List Stmt} {E : AE} (hmu : T.mu = []) {t : Addr} {n : Nat} {ad : Nat → Addr} {R : Rl} (h : As X T rest ρ [(t, .l (tabB n R))] E) : As X T rest ρ ((t, .l (adC ad n)) :: rowC n ad R n) E := by
  have z := as_rows (X := X) (T := T) (ρ := ρ) (rest := rest) (E := E) hmu (t := t) ((List.range n).map fun x => (ad x, bRow n (R x))) []
  rw [List.map_map, List.map_map, List.map_map] at z
  exact z h
/-- in the midst of phase k: rows before x done, of row x the places before y -/
def mid2 (k x y : Nat) (R : Rl) : Rl := fun a b => if a < x ∨ (a = x ∧ b < y) then phase k R a b else R a b
theorem mid2_col (k x y : Nat) (R : Rl) (a : Nat) : mid2 k x y R a k = R a k := by
  unfold mid2
  split
  · exact phase_col k R a
  · rfl
theorem mid2_row (k x y : Nat) (R : Rl) (b : Nat) : mid2 k x y R k b = R k b := by
  unfold mid2
  split
  · exact phase_row k R b
  · rfl
theorem mid2_zero (k : Nat) (R : Rl) : mid2 k 0 0 R = R := by
  funext a b
  unfold mid2
  rw [if_neg (by omega)]
theorem mid2_next {k x n : Nat} {R : Rl} {a b : Nat} (hb : b < n) : mid2 k x n R a b = mid2 k (x + 1) 0 R a b := by
  unfold mid2
  by_cases h : a < x ∨ (a = x ∧ b < n)
  · rw [if_pos h, if_pos (by omega)]
  · rw [if_neg h, if_neg (by omega)]
theorem mid2_full {k n : Nat} {R : Rl} {a : Nat} (ha : a < n) (b : Nat) : mid2 k n 0 R a b = phase k R a b := by
  unfold mid2
  rw [if_pos (by omega)]
theorem mid2_set {n k x y : Nat} {ad : Nat → Addr} {R : Rl} (h : (R x k && R k y) = true) (hx : x < n) (hy : y < n) :
    (rowC n ad (mid2 k x y R) n).set x (ad x, .l ((bRow n (mid2 k x y R x)).set y (.bl true))) = rowC n ad (mid2 k x (y + 1) R) n := by
  unfold rowC bRow
  rw [map_range_set, map_range_set]
  refine map_range_congr fun i hi => ?_
  by_cases e : i = x
  · subst e
    rw [if_pos rfl]
    refine congrArg (fun l => (ad i, Ct.l l)) (map_range_congr fun b hb => ?_)
    unfold mid2 phase
    by_cases eb : b = y
    · subst eb
      rw [if_pos rfl, if_pos (by omega), h, Bool.or_true]
    · rw [if_neg eb]
      by_cases hby : b < y
      · rw [if_pos (by omega), if_pos (by omega)]
      · rw [if_neg (by omega), if_neg (by omega)]
  · rw [if_neg e]
    refine congrArg (fun l => (ad i, Ct.l l)) (map_range_congr fun b hb => ?_)
    unfold mid2
    by_cases hix : i < x
    · rw [if_pos (by omega), if_pos (by omega)]
    · rw [if_neg (by omega), if_neg (by omega)]
theorem mid2_keep {k x y : Nat} {R : Rl} (h : (R x k && R k y) = false) (a b : Nat) : mid2 k x y R a b = mid2 k x (y + 1) R a b := by
  unfold mid2 phase
  by_cases e : a = x ∧ b = y
  · obtain ⟨rfl, rfl⟩ := e
    rw [if_neg (by omega), if_pos (by omega), h, Bool.or_false]
  · by_cases h2 : a < x ∨ (a = x ∧ b < y)
    · rw [if_pos h2, if_pos (by omega)]
    · rw [if_neg h2, if_neg (by omega)]
def intP (q : Nat × Nat) : Int × Int := ((q.1 : Int), (q.2 : Int))
theorem pairs_int (ps : List (Nat × Nat)) : ps.map pairN = (ps.map intP).map pairD := by rw [List.map_map]; rfl
theorem mem_intP (ps : List (Nat × Nat)) (x y : Nat) : decide ((((x : Int), (y : Int)) : Int × Int) ∈ ps.map intP) = rel ps x y := by
  unfold rel
  rw [Bool.eq_iff_iff, decide_eq_true_iff, decide_eq_true_iff, List.mem_map]
  constructor
  · rintro ⟨q, hq, e⟩
    unfold intP at e
    have e1 := congrArg Prod.fst e
    have e2 := congrArg Prod.snd e
    obtain ⟨a, b⟩ := q
    have h1 : (a : Int) = x := e1
    have h2 : (b : Int) = y := e2
    have h1 : a = x := by omega
    have h2 : b = y := by omega
    subst h1 h2
    exact hq
  · exact fun h => ⟨_, h, rfl⟩
section
variable {P : Program} {w : World} {K : PySem.W.Frag} {mg : Str → Option Value} {base : Heap} {CR : Addr}
abbrev sLCl : Stmt := topS 28
abbrev nLCl : List Str := ["_law_n", "_law_pairs", "_law_table", "_law_y", "_law_x", "_law_k"]
theorem scLCl : FnScope nLCl ["_law_n", "_law_pairs"] (defScope sLCl) := ⟨rfl, rfl, rfl, by decide +kernel, rfl, by decide +kernel, by decide +kernel⟩
def S_lcl : List Dt → (Dt → Prop) → (Str → Prop) → Prop := fun ds P _ => ∃ (n : Nat) (ps : List (Nat × Nat)), ds = [natD n, .tup (ps.map pairN)] ∧ n ≤ 100 ∧ P (.lst (tabB n (war n (rel ps))))
theorem ok_lcl {f : Addr} {fd : FuncData} (F : Fun K "_law_closed" "_law_closed" sLCl f fd) (M : Mods mg) : FnOk P w K mg base CX0 2 f fd ["_law_n", "_law_pairs"] (spOf K CR (pureS S_lcl)) := by
  refine def_ok F scLCl (fun ds cs Pd R ⟨_, n, ps, h, _⟩ => by rw [h]; rfl) fun cdv A outer s F H E ds cs Pd R hr ⟨hcs, n, ps, hd, hn, kont⟩ => ?_
  subst hcs
  subst hd
  have hnd := scLCl.nd
  have hN := cx_N CX0 P w K mg base nLCl "_law_closed" (defScope sLCl) f cdv A outer s H E
  refine as_cons (a1_setLc 2 4 (by rw [hN]; exact hnd) (by rw [hN]; rfl) (by rw [hN]; exact blkOk_by (sc := defScope sLCl) (by decide +kernel)) (by rw [hN]; rfl) (ai_range1 M.range ?_) (sw_true rfl rfl rfl rfl) rfl)
  walk_at "ev"
  refine ⟨by omega, by show n ≤ 90000; omega, fun i acc cs2 => ∃ ad, acc = adC ad i ∧ cs2 = rowC n ad (rel ps) i, ⟨fun _ => 0, rfl, rfl⟩, ?_, ?_⟩
  · rintro i d acc cs2 D hi ⟨ad, rfl, rfl⟩
    obtain ⟨hx, rfl⟩ := rng_item hi
    intro s0 H0 C cl fp
    refine ats_nil ⟨fun _ s1 H1 C1 cl1 fp1 => ax_perm ?_, fun h => (nomatch h)⟩
    refine ax_lcC2 hN (by walk_at "ix") hnd (sc := defScope sLCl) rfl (blkOk_by (by decide +kernel)) (ai_range1 M.range ?_)
    walk_at "ev"
    refine ⟨by omega, by show n ≤ 90000; omega, fun y => some (.bl (rel ps i y)), fun y d hy => fun s0 H0 C cl fp D acc => ats_nil ⟨rfl, fun _ _ _ _ _ _ => ?_, fun h => (nomatch h)⟩, fun D2 => ?_⟩
    · obtain ⟨hy, rfl⟩ := rng_item hy
      refine ax_cmpR (cmp_inP (Room.u65 hr) rfl) ?_
      walk_at "ev"
      refine ⟨by show 2 ≤ 1000; decide, ?_⟩
      walk_at "ev"
      refine ⟨((i : Int), (y : Int)), ps.map intP, rfl, .inr (by rw [pairs_int]), ?_⟩
      rw [mem_intP]
      exact ⟨rfl, rfl⟩
    · have e0 : (List.range (Src.len (.rng 0 n))).filterMap (fun y => some (Dt.bl (rel ps i y))) = bRow n (rel ps i) := fm_some _ _
      rw [e0]
      refine ⟨(D, .l (adC ad i)) :: (rowC n ad (rel ps) i ++ [(D2, .l (bRow n (rel ps i)))]), ?_, _, rfl, fun x => if x = i then D2 else ad x, ?_, ?_⟩
      · refine (List.Perm.swap _ _ _).trans (List.Perm.cons _ ?_)
        exact (List.perm_append_comm (l₁ := [_]))
      · exact adC_push ad i D2
      · exact rowC_push n ad (rel ps) i D2
  rintro acc cs2 tb ⟨ad, rfl, rfl⟩
  have e0 : Src.len (.rng 0 n) = n := rfl
  rw [e0]
  have gx : ∀ (R : Rl) (x : Nat), x < n → ((tb, Ct.l (adC ad n)) :: rowC n ad R n)[x + 1]? = some (ad x, .l (bRow n (R x))) := fun R x hx => by rw [List.getElem?_cons_succ]; exact rowC_get hx
  walk_at "for"
  walk_at "rng"
  walk_at "ev"
  refine ⟨by omega, fun k ρ cs => cs = (tb, .l (adC ad n)) :: rowC n ad (war k (rel ps)) n ∧ ∃ z1 z2 z3, ρ = [some (natD n), some (.tup (ps.map pairN)), some (.cell tb), z1, z2, z3], ⟨rfl, _, _, _, rfl⟩, ?_, ?_⟩
  · rintro k e ρ' cs' hi ⟨rfl, z1, z2, z3, rfl⟩
    obtain ⟨hk, rfl⟩ := rng_item hi
    walk_at "tgt"
    walk_at "for"
    walk_at "rng"
    walk_at "ev"
    refine ⟨by omega, fun x ρ cs => cs = (tb, .l (adC ad n)) :: rowC n ad (mid2 k x 0 (war k (rel ps))) n ∧ ∃ z1 z2, ρ = [some (natD n), some (.tup (ps.map pairN)), some (.cell tb), z1, z2, some (natD k)], ⟨by rw [mid2_zero], _, _, rfl⟩, ?_, ?_⟩
    · rintro x e ρ' cs' hi ⟨rfl, z1, z2, rfl⟩
      obtain ⟨hx, rfl⟩ := rng_item hi
      walk_at "tgt"
      walk_at "for"
      walk_at "rng"
      walk_at "ev"
      refine ⟨by omega, fun y ρ cs => cs = (tb, .l (adC ad n)) :: rowC n ad (mid2 k x y (war k (rel ps))) n ∧ ∃ z1, ρ = [some (natD n), some (.tup (ps.map pairN)), some (.cell tb), z1, some (natD x), some (natD k)], ⟨rfl, _, rfl⟩, ?_, ?_⟩
      · rintro y e ρ' cs' hi ⟨rfl, z1, rfl⟩
        obtain ⟨hy, rfl⟩ := rng_item hi
        have hno : ∀ E : AE, E.nx [some (natD n), some (.tup (ps.map pairN)), some (.cell tb), some (natD y), some (natD x), some (natD k)] ((tb, .l (adC ad n)) :: rowC n ad (mid2 k x y (war k (rel ps))) n) → True := fun _ _ => trivial
        have hkeep : (war k (rel ps) x k && war k (rel ps) k y) = false → (tb, Ct.l (adC ad n)) :: rowC n ad (mid2 k x y (war k (rel ps))) n = (tb, .l (adC ad n)) :: rowC n ad (mid2 k x (y + 1) (war k (rel ps))) n := fun h => congrArg _ (rowC_congr fun a b _ _ => mid2_keep h a b)
        walk_at "tgt"
        walk_at "st"
        walk_at "ev"
        refine ⟨_, _, _, .inr (.inr ⟨0, tb, rfl, rfl⟩), rfl, adC_get hx, ?_⟩
        walk_at "ev"
        refine ⟨_, _, _, .inr (.inr ⟨x + 1, ad x, rfl, gx _ _ hx⟩), rfl, bRow_get hk, ?_⟩
        rw [mid2_col]
        refine ⟨_, rfl, fun h1 => ?_, fun h1 => ⟨fun h => (nomatch h), fun _ => ?_⟩⟩
        · walk_at "ev"
          refine ⟨_, _, _, .inr (.inr ⟨0, tb, rfl, rfl⟩), rfl, adC_get hk, ?_⟩
          walk_at "ev"
          refine ⟨_, _, _, .inr (.inr ⟨k + 1, ad k, rfl, gx _ _ hk⟩), rfl, bRow_get hy, ?_⟩
          rw [mid2_row]
          refine ⟨_, rfl, fun h2 => ?_, fun h2 => ?_⟩
          · walk_at "st"
            walk_at "ev"
            refine ag_sub ?_
            walk_at "ev"
            refine ⟨_, _, _, .inr (.inr ⟨0, tb, rfl, rfl⟩), rfl, adC_get hx, ?_⟩
            walk_at "ev"
            refine ⟨x + 1, ad x, _, y, rfl, rfl, gx _ _ hx, by rw [bRow_len]; exact hy, ?_⟩
            walk_at "st"
            walk_at "st"
            refine ⟨?_, _, rfl⟩
            rw [List.set_cons_succ, mid2_set (by rw [h1, h2]; rfl) hx hy]
          · walk_at "st"
            walk_at "st"
            exact ⟨hkeep (by rw [h1, h2]; rfl), _, rfl⟩
        · walk_at "st"
          walk_at "st"
          exact ⟨hkeep (by rw [h1]; rfl), _, rfl⟩
      · rintro ρ' cs' ⟨rfl, z1, rfl⟩
        walk_at "st"
        exact ⟨congrArg _ (rowC_congr fun a b _ hb => mid2_next hb), _, _, rfl⟩
    · rintro ρ' cs' ⟨rfl, z1, z2, rfl⟩
      walk_at "st"
      exact ⟨congrArg _ (rowC_congr fun a b ha _ => mid2_full ha b), _, _, _, rfl⟩
  rintro ρ' cs' ⟨rfl, z1, z2, z3, rfl⟩
  refine as_tab rfl ?_
  refine as_freeze 2 0 rfl rfl ⟨1, by decide, rfl⟩ ?_
  walk_at "st"
  walk_at "ev"
  exact kont
end

end G
namespace G
open PySem PySem.Spec PyProof.Rows L2 Evl
local macro_rules | `(tactic| walk_at "ix") => `(tactic| with_reducible (first
  | exact AtN.z | exact AtN.s AtN.z | exact AtN.s (AtN.s AtN.z) | exact AtN.s (AtN.s (AtN.s AtN.z)) | exact AtN.s (AtN.s (AtN.s (AtN.s AtN.z)))
  | exact AtN.s (AtN.s (AtN.s (AtN.s (AtN.s AtN.z)))) | exact AtN.s (AtN.s (AtN.s (AtN.s (AtN.s (AtN.s AtN.z))))) | exact AtN.s (AtN.s (AtN.s (AtN.s (AtN.s (AtN.s (AtN.s AtN.z))))))
  | exact AtN.s (AtN.s (AtN.s (AtN.s (AtN.s (AtN.s (AtN.s (AtN.s AtN.z))))))) | exact AtN.s (AtN.s (AtN.s (AtN.s (AtN.s (AtN.s (AtN.s (AtN.s (AtN.s AtN.z)))))))) | exact AtN.s (AtN.s (AtN.s (AtN.s (AtN.s (AtN.s (AtN.s (AtN.s (AtN.s (AtN.s AtN.z)))))))))
  | exact AtN.s (AtN.s (AtN.s (AtN.s (AtN.s (AtN.s (AtN.s (AtN.s (AtN.s (AtN.s (AtN.s AtN.z))))))))))
  | exact AtN.s (AtN.s (AtN.s (AtN.s (AtN.s (AtN.s (AtN.s (AtN.s (AtN.s (AtN.s (AtN.s (AtN.s AtN.z)))))))))))
  | exact AtN.s (AtN.s (AtN.s (AtN.s (AtN.s (AtN.s (AtN.s (AtN.s (AtN.s (AtN.s (AtN.s (AtN.s (AtN.s AtN.z))))))))))))
  | exact AtN.s (AtN.s (AtN.s (AtN.s (AtN.s (AtN.s (AtN.s (AtN.s (AtN.s (AtN.s (AtN.s (AtN.s (AtN.s (AtN.s AtN.z)))))))))))))
  | exact AtN.s (AtN.s (AtN.s (AtN.s (AtN.s (AtN.s (AtN.s (AtN.s (AtN.s (AtN.s (AtN.s (AtN.s (AtN.s (AtN.s (AtN.s AtN.z))))))))))))))))
local macro_rules | `(tactic| walk_at "ev1") => `(tactic| first
  | with_reducible refine ax_int ?_ | with_reducible refine ax_bl ?_ | with_reducible refine ax_non ?_ | with_reducible refine ax_str ?_
  | ((with_reducible show Ax _ _ (Expr.Name _ _) _ _ _); refine ax_u $(Lean.mkIdent `hN) (by walk_at "ix") rfl ?_)
  | ((with_reducible show Ax _ _ (Expr.Compare _ _ _ _) _ _ _); first | (with_reducible refine ax_cmpR cmp_lt ?_) | (with_reducible refine ax_cmpR cmp_le ?_) | (with_reducible refine ax_cmpR cmp_gt ?_) | (with_reducible refine ax_cmpR cmp_ge ?_) | (with_reducible refine ax_cmpR cmp_eq ?_) | (with_reducible refine ax_cmpR cmp_ne ?_) | (with_reducible refine ax_cmpR cmp_is ?_) | (with_reducible refine ax_cmpR cmp_isN ?_))
  | ((with_reducible show At _ _ (Expr.Compare _ _ _ _) _ _ _); first | (with_reducible refine at_cmpR cmp_lt ?_) | (with_reducible refine at_cmpR cmp_le ?_) | (with_reducible refine at_cmpR cmp_gt ?_) | (with_reducible refine at_cmpR cmp_ge ?_) | (with_reducible refine at_cmpR cmp_eq ?_) | (with_reducible refine at_cmpR cmp_ne ?_) | (with_reducible refine at_cmpR cmp_is ?_) | (with_reducible refine at_cmpR cmp_isN ?_))
  | with_reducible refine ax_add ?_ | with_reducible refine ax_sub ?_ | with_reducible refine ax_mul ?_ | with_reducible refine ax_fdiv ?_ | with_reducible refine ax_mod ?_ | with_reducible refine ax_shl ?_ | with_reducible refine ax_shr ?_ | with_reducible refine ax_and ?_ | with_reducible refine ax_or ?_ | with_reducible refine ax_neg ?_
  | with_reducible refine ax_one ?_ | with_reducible refine ax_andv ?_ | with_reducible refine ax_orv ?_ | with_reducible refine ax_notv ?_ | with_reducible refine at_one ?_ | with_reducible refine at_and ?_ | with_reducible refine at_or ?_ | with_reducible refine at_not ?_ | with_reducible refine ax_if ?_
  | ((with_reducible show Ax _ _ (Expr.Subscript _ _ _) _ _ _); refine ax_ix ?_) | with_reducible refine ax_tup ?_ | ((with_reducible show Aa _ _ (_ :: _) _ _ _); refine aa_cons ?_) | with_reducible refine aa_nil ?_
  | ((with_reducible show Ax _ _ (Expr.Call (Expr.Name "len" _) _ _ _) _ _ _); refine ax_len (Mods.len $(Lean.mkIdent `M)) ?_)
  | ((with_reducible show Ax _ _ (Expr.Call (Expr.Name "int" _) _ _ _) _ _ _); refine ax_int1 (Mods.int $(Lean.mkIdent `M)) ?_)
  | ((with_reducible show Ax _ _ (Expr.Call (Expr.Name "abs" _) _ _ _) _ _ _); refine ax_abs (Mods.abs $(Lean.mkIdent `M)) ?_)
  | ((with_reducible show Ax _ _ (Expr.Call (Expr.Name "tuple" _) _ _ _) _ _ _); refine ax_tuple (Mods.tuple $(Lean.mkIdent `M)) ?_)
  | ((with_reducible show Ax _ _ (Expr.Call (Expr.Name "has" _) _ _ _) _ _ _); refine ax_call $(Lean.mkIdent `cHas) (Room.mono $(Lean.mkIdent `hr) (by decide)) pas0 ?_)
  | ((with_reducible show Ax _ _ (Expr.Call (Expr.Name "set_of" _) _ _ _) _ _ _); refine ax_call $(Lean.mkIdent `cSetOf) (Room.mono $(Lean.mkIdent `hr) (by decide)) pas0 ?_)
  | ((with_reducible show Ax _ _ (Expr.Call (Expr.Name "members" _) _ _ _) _ _ _); refine ax_call $(Lean.mkIdent `cMembers) (Room.mono $(Lean.mkIdent `hr) (by decide)) pas0 ?_)
  | ((with_reducible show Ax _ _ (Expr.Call (Expr.Name "is_integer" _) _ _ _) _ _ _); refine ax_call $(Lean.mkIdent `cIsInt) (Room.mono $(Lean.mkIdent `hr) (by decide)) pas0 ?_)
  | ((with_reducible show Ax _ _ (Expr.Call (Expr.Attribute _ "bit_length" _) _ _ _) _ _ _); refine ax_bits ?_)
  | ((with_reducible show Ax _ _ (Expr.Call (Expr.Name "isinstance" _) [_, Expr.Name "int" _] _ _) _ _ _); refine ax_isi (u := "int") (Mods.isinstance $(Lean.mkIdent `M)) (Mods.int $(Lean.mkIdent `M)) boot_int ?_)
  | ((with_reducible show Ax _ _ (Expr.Call (Expr.Name "isinstance" _) [_, Expr.Name "bool" _] _ _) _ _ _); refine ax_isi (u := "bool") (Mods.isinstance $(Lean.mkIdent `M)) (Mods.bool $(Lean.mkIdent `M)) boot_bool ?_)
  | ((with_reducible show Ax _ _ (Expr.Call (Expr.Name "isinstance" _) [_, Expr.Name "tuple" _] _ _) _ _ _); refine ax_isi (u := "tuple") (Mods.isinstance $(Lean.mkIdent `M)) (Mods.tuple $(Lean.mkIdent `M)) boot_tuple ?_)
  | ((with_reducible show Ax _ _ (Expr.Call (Expr.Name "isinstance" _) [_, Expr.Tuple [Expr.Name "list" _, Expr.Name "tuple" _] _ _] _ _) _ _ _); refine ax_isi2 (u1 := "list") (u2 := "tuple") (Mods.isinstance $(Lean.mkIdent `M)) (Mods.list $(Lean.mkIdent `M)) (Mods.tuple $(Lean.mkIdent `M)) boot_list boot_tuple ?_)
  | ((with_reducible show ∃ t k, tyD _ = some t ∧ kitB t _ = some k ∧ _); refine ⟨_, _, rfl, by with_reducible (first | exact kit_ii | exact kit_ib | exact kit_tt), ?_⟩)
  | ((with_reducible show S_isInt _ _ _); refine ⟨_, rfl, ?_⟩) | ((with_reducible show S_has _ _ _); refine ⟨_, _, rfl, ?_⟩)
  | ((with_reducible show REq _ _ _ _); refine ⟨_, rfl, ?_⟩) | ((with_reducible show RNe _ _ _ _); refine ⟨_, rfl, ?_⟩) | ((with_reducible show RI _ _ _ _ _); refine ⟨_, _, rfl, rfl, ?_⟩)
  | with_reducible refine ⟨_, _, rfl, rfl, ?_⟩
  | with_reducible refine ⟨_, rfl, ?_⟩
  | ((with_reducible show At _ _ (Expr.Name _ _) _ _ _); refine at_val ?_) | ((with_reducible show At _ _ (Expr.Call _ _ _ _) _ _ _); refine at_val ?_) | ((with_reducible show At _ _ (Expr.Subscript _ _ _) _ _ _); refine at_val ?_))
local macro_rules | `(tactic| walk_at "ev") => `(tactic| repeat walk_at "ev1")
local macro_rules | `(tactic| walk_at "st1") => `(tactic| first
    | ((with_reducible show A1 _ _ (Stmt.Return _ _) _ _ _); refine a1_ret ?_)
    | ((with_reducible show A1 _ _ (Stmt.If _ _ _ _) _ _ _); refine a1_if ?_)
    | ((with_reducible show A1 _ _ (Stmt.Expr _ _) _ _ _); refine a1_drop ?_)
    | ((with_reducible show A1 _ _ (Stmt.Assign [Expr.Name _ _] _ _) _ _ _); refine a1_setU $(Lean.mkIdent `hN) (by walk_at "ix") $(Lean.mkIdent `hnd) ?_)
    | ((with_reducible show A1 _ _ (Stmt.Assign _ _ _) _ _ _); refine a1_asg ?_))
local macro_rules | `(tactic| walk_at "st") => `(tactic| first
  | ((with_reducible show As _ _ [] _ _ _); refine as_nil ?_)
  | (refine as_cons ?_; walk_at "st1"))
local macro_rules | `(tactic| walk_at "newl") => `(tactic| refine as_setU $(Lean.mkIdent `hN) (by walk_at "ix") $(Lean.mkIdent `hnd) (ax_lstC (aa_nil ⟨by decide, ?_⟩)))
local macro_rules | `(tactic| walk_at "for") => `(tactic| (refine as_cons ?_; refine a1_for ?hp ?_ ?hc ?hs; (case hp => exact PassesOwn.never); (case hc => rfl); (case hs => intro _; rfl)))
local macro_rules | `(tactic| walk_at "tgt") => `(tactic| refine ag_nameU $(Lean.mkIdent `hN) (by walk_at "ix") $(Lean.mkIdent `hnd) ?_)
local macro_rules | `(tactic| walk_at "rng") => `(tactic| refine ai_range1 (Mods.range $(Lean.mkIdent `M)) ?_)
local macro_rules | `(tactic| walk_at "while") => `(tactic| (refine as_cons ?_; refine a1_while ?hp ?I ?h0 ?hs; (case hp => exact PassesOwn.never)))
local macro_rules | `(tactic| walk_at "pair") => `(tactic| refine ag_pairU $(Lean.mkIdent `hN) (by walk_at "ix") (by walk_at "ix") $(Lean.mkIdent `hnd) ?hd ?_)
local macro_rules | `(tactic| walk_at "blk") => `(tactic| exact blkOk_by (by decide +kernel))
local macro_rules | `(tactic| walk_at "forX") => `(tactic| (refine as_cons ?_; refine a1_for ?hp ?_ ?hc ?hs; (case hp => exact passes_of rfl); (case hc => rfl); (case hs => intro _; rfl)))
/-! L4: lower sets, bounds, inclusion pairs -/
abbrev intN (x : Nat) : Int := (x : Int)
theorem nat_ints (l : List Nat) : l.map natD = (l.map intN).map Dt.int := by rw [List.map_map]; rfl
theorem mem_ints (l : List Nat) (x : Nat) : decide ((x : Int) ∈ l.map intN) = decide (x ∈ l) := by
  rw [Bool.eq_iff_iff, decide_eq_true_iff, decide_eq_true_iff, List.mem_map]
  constructor
  · rintro ⟨y, hy, e⟩
    have e : y = x := by have : (y : Int) = x := e; omega
    rw [← e]
    exact hy
  · exact fun h => ⟨x, h, rfl⟩
def lowB (n : Nat) (T : Rl) (S : List Nat) : Bool := S.all fun y => (List.range n).all fun x => !(T x y && !decide (x ∈ S))
theorem low_no {n x y : Nat} {T : Rl} {S : List Nat} (hy : y ∈ S) (hx : x < n) (h1 : T x y = true) (h2 : decide (x ∈ S) = false) : lowB n T S = false := by
  cases hl : lowB n T S with
  | false => rfl
  | true =>
    have q := List.all_eq_true.mp (List.all_eq_true.mp hl y hy) x (List.mem_range.mpr hx)
    rw [h1, h2] at q
    cases q
theorem low_yes {n : Nat} {T : Rl} {S : List Nat} (h : ∀ y, y ∈ S → ∀ x, x < n → (T x y && !decide (x ∈ S)) = false) : lowB n T S = true :=
  List.all_eq_true.mpr fun y hy => List.all_eq_true.mpr fun x hx => by rw [h y hy x (List.mem_range.mp hx)]; rfl
section
variable {P : Program} {w : World} {K : PySem.W.Frag} {mg : Str → Option Value} {base : Heap} {CR : Addr}
abbrev sIsL : Stmt := topS 32
abbrev nIsL : List Str := ["_law_table", "_law_points_here", "_law_y", "_law_x"]
theorem scIsL : FnScope nIsL ["_law_table", "_law_points_here"] (defScope sIsL) := ⟨rfl, rfl, rfl, by decide +kernel, rfl, by decide +kernel, by decide +kernel⟩
def S_isl : List Dt → (Dt → Prop) → (Str → Prop) → Prop := fun ds P _ => ∃ (n : Nat) (T : Rl) (S : List Nat), ds = [.lst (tabB n T), .lst (S.map natD)] ∧ n ≤ 100 ∧ (∀ x ∈ S, x < n) ∧ P (.bl (lowB n T S))
theorem ok_isl {f : Addr} {fd : FuncData} (F : Fun K "_law_is_lower" "_law_is_lower" sIsL f fd) (M : Mods mg) : FnOk P w K mg base CX0 2 f fd ["_law_table", "_law_points_here"] (spOf K CR (pureS S_isl)) := by
  refine def_ok F scIsL (fun ds cs Pd R ⟨_, n, T, S, h, _⟩ => by rw [h]; rfl) fun cdv A outer s F H E ds cs Pd R hr ⟨hcs, n, T, S, hd, hn, hS, kont⟩ => ?_
  subst hcs
  subst hd
  have hnd := scIsL.nd
  have hN := cx_N CX0 P w K mg base nIsL "_law_is_lower" (defScope sIsL) f cdv A outer s H E
  walk_at "for"
  refine ai_seq ?_
  walk_at "ev"
  refine ⟨_, .inl rfl, fun i ρ cs => cs = [] ∧ (∀ y, y ∈ S.take i → ∀ x, x < n → (T x y && !decide (x ∈ S)) = false) ∧ ∃ z1 z2, ρ = [some (.lst (tabB n T)), some (.lst (S.map natD)), z1, z2], ⟨rfl, fun y hy => by simp at hy, _, _, rfl⟩, ?_, ?_⟩
  · rintro i e ρ' cs' hi ⟨rfl, hI, z1, z2, rfl⟩
    obtain ⟨y, hy, rfl⟩ := item_map hi
    have hyS := List.mem_of_getElem? hy
    have hyn := hS y hyS
    walk_at "tgt"
    walk_at "for"
    walk_at "rng"
    walk_at "ev"
    refine ⟨_, .inl rfl, n, by rw [tabB_len], by omega, fun k ρ cs => cs = [] ∧ (∀ x, x < k → (T x y && !decide (x ∈ S)) = false) ∧ ∃ z2, ρ = [some (.lst (tabB n T)), some (.lst (S.map natD)), some (natD y), z2], ⟨rfl, fun x h => absurd h (by omega), _, rfl⟩, ?_, ?_⟩
    · rintro x e ρ' cs' hi ⟨rfl, hI2, z2, rfl⟩
      obtain ⟨hx, rfl⟩ := rng_item hi
      have keep : (T x y && !decide (x ∈ S)) = false → ∀ x', x' < x + 1 → (T x' y && !decide (x' ∈ S)) = false := fun h x' hx' => by
        by_cases e : x' = x
        · rw [e]; exact h
        · exact hI2 x' (by omega)
      walk_at "tgt"
      walk_at "st"
      walk_at "ev"
      refine ⟨_, _, _, .inl rfl, rfl, tabB_get hx, ?_⟩
      walk_at "ev"
      refine ⟨_, _, _, .inl rfl, rfl, bRow_get hyn, _, rfl, fun h1 => ?_, fun h1 => ⟨fun h => (nomatch h), fun _ => ?_⟩⟩
      · refine at_one (at_cmpR (cmp_nin rfl) ?_)
        walk_at "ev"
        refine ⟨_, S.map intN, rfl, .inl (by rw [nat_ints]), ?_⟩
        rw [if_pos rfl, mem_ints]
        refine ⟨fun h2 => ?_, fun h2 => ?_⟩
        · walk_at "st"
          walk_at "ev"
          have h2 : decide (x ∈ S) = false := by simpa using h2
          rw [low_no hyS hx h1 h2] at kont
          exact kont
        · walk_at "st"
          walk_at "st"
          exact ⟨rfl, keep (by rw [h1, h2]; rfl), _, rfl⟩
      · walk_at "st"
        walk_at "st"
        exact ⟨rfl, keep (by rw [h1]; rfl), _, rfl⟩
    · rintro ρ' cs' ⟨rfl, hI2, z2, rfl⟩
      walk_at "st"
      refine ⟨rfl, fun y' hy' => ?_, _, _, rfl⟩
      rw [List.take_add_one, hy] at hy'
      rcases List.mem_append.mp hy' with hy' | hy'
      · exact hI y' hy'
      · obtain rfl := List.mem_singleton.mp hy'
        exact hI2
  rintro ρ' cs' ⟨rfl, hI, z1, z2, rfl⟩
  walk_at "st"
  walk_at "ev"
  have e : S.take (Src.len (.seq (S.map natD))) = S := by
    show S.take (S.map natD).length = S
    rw [List.length_map, List.take_length]
  rw [e] at hI
  rw [low_yes hI] at kont
  exact kont
abbrev sLSs : Stmt := topS 33
abbrev nLSs : List Str := ["_law_table", "_law_found", "_law_bits_here", "_law_points_here", "_law_size"]
theorem scLSs : FnScope nLSs ["_law_table"] (defScope sLSs) := ⟨rfl, rfl, rfl, by decide +kernel, rfl, by decide +kernel, by decide +kernel⟩
def lowS (n : Nat) (T : Rl) : List Nat := (List.range (2 ^ n)).filter fun b => lowB n T (membersN b)
def S_lss : List Dt → (Dt → Prop) → (Str → Prop) → Prop := fun ds P _ => ∃ (n : Nat) (T : Rl), ds = [.lst (tabB n T)] ∧ n ≤ 10 ∧ ∀ l : List Nat, l.Perm (lowS n T) → P (.lst (l.map natD))
theorem mem_members {m x n : Nat} (hm : m < 2 ^ n) (h : x ∈ membersN m) : x < n := by
  have h1 := List.mem_range.mp (List.mem_filter.mp h).1
  have := intBits_le hm
  omega
theorem ok_lss {f : Addr} {fd : FuncData} (F : Fun K "_law_lower_sets" "_law_lower_sets" sLSs f fd) (M : Mods mg) (cPlace : Fo P w K mg base CX0 CR 1 "_law_place" (pureS S_place)) (cPts : Fo P w K mg base CX0 CR 1 "_law_points" (pureS S_points)) (cIsl : Fo P w K mg base CX0 CR 2 "_law_is_lower" (pureS S_isl)) : FnOk P w K mg base CX0 3 f fd ["_law_table"] (spOf K CR (pureS S_lss)) := by
  refine def_ok F scLSs (fun ds cs Pd R ⟨_, n, T, h, _⟩ => by rw [h]; rfl) fun cdv A outer s F H E ds cs Pd R hr ⟨hcs, n, T, hd, hn, kont⟩ => ?_
  subst hcs
  subst hd
  have hnd := scLSs.nd
  have hN := cx_N CX0 P w K mg base nLSs "_law_lower_sets" (defScope sLSs) f cdv A outer s H E
  have hpow : 2 ^ n ≤ 1024 := Nat.pow_le_pow_right (n := 2) (by decide) hn
  have h900 : 2 ^ n ≤ 2 ^ 900 := Nat.pow_le_pow_right (n := 2) (by decide) (by omega)
  walk_at "newl"
  intro p
  walk_at "for"
  walk_at "rng"
  refine ax_call cPlace (Room.mono hr (by decide)) pas0 ?_
  walk_at "ev"
  refine ⟨_, .inl rfl, ?_⟩
  walk_at "ev"
  refine ⟨n, by rw [tabB_len], by omega, ?_⟩
  refine ⟨_, rfl, by omega, fun i ρ cs => cs = [(p, .l ((((List.range i).filter fun b => lowB n T (membersN b)).map fun b => ((membersN b).length, b)).map pairN))] ∧ ∃ z1 z2 z3, ρ = [some (.lst (tabB n T)), some (.cell p), z1, z2, z3], ⟨rfl, _, _, _, rfl⟩, ?_, ?_⟩
  · rintro b e ρ' cs' hi ⟨rfl, z1, z2, z3, rfl⟩
    obtain ⟨hb, rfl⟩ := rng_item hi
    have hlen := List.length_filter_le (fun b => lowB n T (membersN b)) (List.range b)
    rw [List.length_range] at hlen
    walk_at "tgt"
    refine as_setU hN (by walk_at "ix") hnd (ax_call cPts (Room.mono hr (by decide)) pas0 ?_)
    walk_at "ev"
    refine ⟨b, rfl, Nat.lt_of_lt_of_le hb h900, ?_⟩
    walk_at "st"
    walk_at "ev"
    refine ax_call cIsl (Room.mono hr (by decide)) pas0 ?_
    walk_at "ev"
    refine ⟨n, T, _, rfl, by omega, fun x hx => mem_members hb hx, _, rfl, fun h1 => ?_, fun h1 => ?_⟩
    · walk_at "st"
      refine ax_append ?_
      walk_at "ev"
      refine ⟨⟨0, _, rfl⟩, ?_⟩
      walk_at "ev"
      refine ⟨_, .inl rfl, ?_⟩
      walk_at "ev"
      refine ⟨by show 2 ≤ 1000; decide, 0, _, rfl, by rw [List.length_map, List.length_map]; omega, ?_⟩
      walk_at "st"
      walk_at "st"
      refine ⟨?_, _, _, _, rfl⟩
      rw [filter_succ_t h1, List.map_append, List.map_append, List.length_map]
      rfl
    · walk_at "st"
      walk_at "st"
      refine ⟨?_, _, _, _, rfl⟩
      rw [filter_succ_f h1]
  rintro ρ' cs' ⟨rfl, z1, z2, z3, rfl⟩
  have e0 : ((List.range (Src.len (.rng 0 (2 ^ n)))).filter fun b => lowB n T (membersN b)) = lowS n T := rfl
  rw [e0]
  have hlen := List.length_filter_le (fun b => lowB n T (membersN b)) (List.range (2 ^ n))
  rw [List.length_range] at hlen
  have hlen : (lowS n T).length ≤ 2 ^ n := hlen
  refine as_freeze 1 0 rfl rfl ⟨1, by decide, rfl⟩ ?_
  refine as_cons (a1_ret ?_)
  refine ax_lcPQ hN (by walk_at "ix") (by walk_at "ix") (by decide) hnd (blkOk_by (sc := defScope sLSs) (by decide +kernel)) rfl (ai_seq (ax_sortP M.sorted ?_))
  walk_at "ev"
  refine ⟨_, by rw [pairs_int], fun qs hq => ?_⟩
  have hql := hq.length_eq
  rw [List.length_map, List.length_map] at hql
  have hq2 := hq.map (·.2)
  rw [List.map_map, List.map_map] at hq2
  obtain ⟨l, hl, e⟩ := ints_perm (ns := lowS n T) hq2
  refine ⟨_, .inl rfl, by show (qs.map pairD).length ≤ 90000; rw [List.length_map]; omega, ⟨0, rfl⟩, fun i => (qs[i]?).bind fun q => some (Dt.int q.2), fun i d hi => ?_, ?_⟩
  · obtain ⟨q, hq, rfl⟩ := item_map hi
    refine ⟨_, _, rfl, fun s0 H0 C cl fp D acc => ats_nil ⟨rfl, fun _ _ _ _ _ _ => ?_, fun h => (nomatch h)⟩⟩
    walk_at "ev"
    refine ⟨rfl, ?_⟩
    show (qs[i]?).bind _ = _
    rw [hq]
    rfl
  · have e1 : ((List.range (Src.len (.seq (qs.map pairD)))).filterMap fun i => (qs[i]?).bind fun q => some (Dt.int q.2)) = l.map natD := by
      show ((List.range (qs.map pairD).length).filterMap _) = _
      rw [List.length_map, fm_get, nat_ints, show l.map intN = qs.map (·.2) from e.symm, List.map_map, ← List.filterMap_eq_map]
      rfl
    rw [e1]
    exact kont l hl
end

end G
namespace G
open PySem PySem.Spec PyProof.Rows L2 Evl
local macro_rules | `(tactic| walk_at "ix") => `(tactic| with_reducible (first
  | exact AtN.z | exact AtN.s AtN.z | exact AtN.s (AtN.s AtN.z) | exact AtN.s (AtN.s (AtN.s AtN.z)) | exact AtN.s (AtN.s (AtN.s (AtN.s AtN.z)))
  | exact AtN.s (AtN.s (AtN.s (AtN.s (AtN.s AtN.z)))) | exact AtN.s (AtN.s (AtN.s (AtN.s (AtN.s (AtN.s AtN.z))))) | exact AtN.s (AtN.s (AtN.s (AtN.s (AtN.s (AtN.s (AtN.s AtN.z))))))
  | exact AtN.s (AtN.s (AtN.s (AtN.s (AtN.s (AtN.s (AtN.s (AtN.s AtN.z))))))) | exact AtN.s (AtN.s (AtN.s (AtN.s (AtN.s (AtN.s (AtN.s (AtN.s (AtN.s AtN.z)))))))) | exact AtN.s (AtN.s (AtN.s (AtN.s (AtN.s (AtN.s (AtN.s (AtN.s (AtN.s (AtN.s AtN.z)))))))))
  | exact AtN.s (AtN.s (AtN.s (AtN.s (AtN.s (AtN.s (AtN.s (AtN.s (AtN.s (AtN.s (AtN.s AtN.z))))))))))
  | exact AtN.s (AtN.s (AtN.s (AtN.s (AtN.s (AtN.s (AtN.s (AtN.s (AtN.s (AtN.s (AtN.s (AtN.s AtN.z)))))))))))
  | exact AtN.s (AtN.s (AtN.s (AtN.s (AtN.s (AtN.s (AtN.s (AtN.s (AtN.s (AtN.s (AtN.s (AtN.s (AtN.s AtN.z))))))))))))
  | exact AtN.s (AtN.s (AtN.s (AtN.s (AtN.s (AtN.s (AtN.s (AtN.s (AtN.s (AtN.s (AtN.s (AtN.s (AtN.s (AtN.s AtN.z)))))))))))))
  | exact AtN.s (AtN.s (AtN.s (AtN.s (AtN.s (AtN.s (AtN.s (AtN.s (AtN.s (AtN.s (AtN.s (AtN.s (AtN.s (AtN.s (AtN.s AtN.z))))))))))))))))
local macro_rules | `(tactic| walk_at "ev1") => `(tactic| first
  | with_reducible refine ax_int ?_ | with_reducible refine ax_bl ?_ | with_reducible refine ax_non ?_ | with_reducible refine ax_str ?_
  | ((with_reducible show Ax _ _ (Expr.Name _ _) _ _ _); refine ax_u $(Lean.mkIdent `hN) (by walk_at "ix") rfl ?_)
  | ((with_reducible show Ax _ _ (Expr.Compare _ _ _ _) _ _ _); first | (with_reducible refine ax_cmpR cmp_lt ?_) | (with_reducible refine ax_cmpR cmp_le ?_) | (with_reducible refine ax_cmpR cmp_gt ?_) | (with_reducible refine ax_cmpR cmp_ge ?_) | (with_reducible refine ax_cmpR cmp_eq ?_) | (with_reducible refine ax_cmpR cmp_ne ?_) | (with_reducible refine ax_cmpR cmp_is ?_) | (with_reducible refine ax_cmpR cmp_isN ?_))
  | ((with_reducible show At _ _ (Expr.Compare _ _ _ _) _ _ _); first | (with_reducible refine at_cmpR cmp_lt ?_) | (with_reducible refine at_cmpR cmp_le ?_) | (with_reducible refine at_cmpR cmp_gt ?_) | (with_reducible refine at_cmpR cmp_ge ?_) | (with_reducible refine at_cmpR cmp_eq ?_) | (with_reducible refine at_cmpR cmp_ne ?_) | (with_reducible refine at_cmpR cmp_is ?_) | (with_reducible refine at_cmpR cmp_isN ?_))
  | with_reducible refine ax_add ?_ | with_reducible refine ax_sub ?_ | with_reducible refine ax_mul ?_ | with_reducible refine ax_fdiv ?_ | with_reducible refine ax_mod ?_ | with_reducible refine ax_shl ?_ | with_reducible refine ax_shr ?_ | with_reducible refine ax_and ?_ | with_reducible refine ax_or ?_ | with_reducible refine ax_neg ?_
  | with_reducible refine ax_one ?_ | with_reducible refine ax_andv ?_ | with_reducible refine ax_orv ?_ | with_reducible refine ax_notv ?_ | with_reducible refine at_one ?_ | with_reducible refine at_and ?_ | with_reducible refine at_or ?_ | with_reducible refine at_not ?_ | with_reducible refine ax_if ?_
  | ((with_reducible show Ax _ _ (Expr.Subscript _ _ _) _ _ _); refine ax_ix ?_) | with_reducible refine ax_tup ?_ | ((with_reducible show Aa _ _ (_ :: _) _ _ _); refine aa_cons ?_) | with_reducible refine aa_nil ?_
  | ((with_reducible show Ax _ _ (Expr.Call (Expr.Name "len" _) _ _ _) _ _ _); refine ax_len (Mods.len $(Lean.mkIdent `M)) ?_)
  | ((with_reducible show Ax _ _ (Expr.Call (Expr.Name "int" _) _ _ _) _ _ _); refine ax_int1 (Mods.int $(Lean.mkIdent `M)) ?_)
  | ((with_reducible show Ax _ _ (Expr.Call (Expr.Name "abs" _) _ _ _) _ _ _); refine ax_abs (Mods.abs $(Lean.mkIdent `M)) ?_)
  | ((with_reducible show Ax _ _ (Expr.Call (Expr.Name "tuple" _) _ _ _) _ _ _); refine ax_tuple (Mods.tuple $(Lean.mkIdent `M)) ?_)
  | ((with_reducible show Ax _ _ (Expr.Call (Expr.Name "has" _) _ _ _) _ _ _); refine ax_call $(Lean.mkIdent `cHas) (Room.mono $(Lean.mkIdent `hr) (by decide)) pas0 ?_)
  | ((with_reducible show Ax _ _ (Expr.Call (Expr.Name "set_of" _) _ _ _) _ _ _); refine ax_call $(Lean.mkIdent `cSetOf) (Room.mono $(Lean.mkIdent `hr) (by decide)) pas0 ?_)
  | ((with_reducible show Ax _ _ (Expr.Call (Expr.Name "members" _) _ _ _) _ _ _); refine ax_call $(Lean.mkIdent `cMembers) (Room.mono $(Lean.mkIdent `hr) (by decide)) pas0 ?_)
  | ((with_reducible show Ax _ _ (Expr.Call (Expr.Name "is_integer" _) _ _ _) _ _ _); refine ax_call $(Lean.mkIdent `cIsInt) (Room.mono $(Lean.mkIdent `hr) (by decide)) pas0 ?_)
  | ((with_reducible show Ax _ _ (Expr.Call (Expr.Attribute _ "bit_length" _) _ _ _) _ _ _); refine ax_bits ?_)
  | ((with_reducible show Ax _ _ (Expr.Call (Expr.Name "isinstance" _) [_, Expr.Name "int" _] _ _) _ _ _); refine ax_isi (u := "int") (Mods.isinstance $(Lean.mkIdent `M)) (Mods.int $(Lean.mkIdent `M)) boot_int ?_)
  | ((with_reducible show Ax _ _ (Expr.Call (Expr.Name "isinstance" _) [_, Expr.Name "bool" _] _ _) _ _ _); refine ax_isi (u := "bool") (Mods.isinstance $(Lean.mkIdent `M)) (Mods.bool $(Lean.mkIdent `M)) boot_bool ?_)
  | ((with_reducible show Ax _ _ (Expr.Call (Expr.Name "isinstance" _) [_, Expr.Name "tuple" _] _ _) _ _ _); refine ax_isi (u := "tuple") (Mods.isinstance $(Lean.mkIdent `M)) (Mods.tuple $(Lean.mkIdent `M)) boot_tuple ?_)
  | ((with_reducible show Ax _ _ (Expr.Call (Expr.Name "isinstance" _) [_, Expr.Tuple [Expr.Name "list" _, Expr.Name "tuple" _] _ _] _ _) _ _ _); refine ax_isi2 (u1 := "list") (u2 := "tuple") (Mods.isinstance $(Lean.mkIdent `M)) (Mods.list $(Lean.mkIdent `M)) (Mods.tuple $(Lean.mkIdent `M)) boot_list boot_tuple ?_)
  | ((with_reducible show ∃ t k, tyD _ = some t ∧ kitB t _ = some k ∧ _); refine ⟨_, _, rfl, by with_reducible (first | exact kit_ii | exact kit_ib | exact kit_tt), ?_⟩)
  | ((with_reducible show S_isInt _ _ _); refine ⟨_, rfl, ?_⟩) | ((with_reducible show S_has _ _ _); refine ⟨_, _, rfl, ?_⟩)
  | ((with_reducible show REq _ _ _ _); refine ⟨_, rfl, ?_⟩) | ((with_reducible show RNe _ _ _ _); refine ⟨_, rfl, ?_⟩) | ((with_reducible show RI _ _ _ _ _); refine ⟨_, _, rfl, rfl, ?_⟩)
  | with_reducible refine ⟨_, _, rfl, rfl, ?_⟩
  | with_reducible refine ⟨_, rfl, ?_⟩
  | ((with_reducible show At _ _ (Expr.Name _ _) _ _ _); refine at_val ?_) | ((with_reducible show At _ _ (Expr.Call _ _ _ _) _ _ _); refine at_val ?_) | ((with_reducible show At _ _ (Expr.Subscript _ _ _) _ _ _); refine at_val ?_))
local macro_rules | `(tactic| walk_at "ev") => `(tactic| repeat walk_at "ev1")
local macro_rules | `(tactic| walk_at "st1") => `(tactic| first
    | ((with_reducible show A1 _ _ (Stmt.Return _ _) _ _ _); refine a1_ret ?_)
    | ((with_reducible show A1 _ _ (Stmt.If _ _ _ _) _ _ _); refine a1_if ?_)
    | ((with_reducible show A1 _ _ (Stmt.Expr _ _) _ _ _); refine a1_drop ?_)
    | ((with_reducible show A1 _ _ (Stmt.Assign [Expr.Name _ _] _ _) _ _ _); refine a1_setU $(Lean.mkIdent `hN) (by walk_at "ix") $(Lean.mkIdent `hnd) ?_)
    | ((with_reducible show A1 _ _ (Stmt.Assign _ _ _) _ _ _); refine a1_asg ?_))
local macro_rules | `(tactic| walk_at "st") => `(tactic| first
  | ((with_reducible show As _ _ [] _ _ _); refine as_nil ?_)
  | (refine as_cons ?_; walk_at "st1"))
local macro_rules | `(tactic| walk_at "newl") => `(tactic| refine as_setU $(Lean.mkIdent `hN) (by walk_at "ix") $(Lean.mkIdent `hnd) (ax_lstC (aa_nil ⟨by decide, ?_⟩)))
local macro_rules | `(tactic| walk_at "for") => `(tactic| (refine as_cons ?_; refine a1_for ?hp ?_ ?hc ?hs; (case hp => exact PassesOwn.never); (case hc => rfl); (case hs => intro _; rfl)))
local macro_rules | `(tactic| walk_at "tgt") => `(tactic| refine ag_nameU $(Lean.mkIdent `hN) (by walk_at "ix") $(Lean.mkIdent `hnd) ?_)
local macro_rules | `(tactic| walk_at "rng") => `(tactic| refine ai_range1 (Mods.range $(Lean.mkIdent `M)) ?_)
local macro_rules | `(tactic| walk_at "while") => `(tactic| (refine as_cons ?_; refine a1_while ?hp ?I ?h0 ?hs; (case hp => exact PassesOwn.never)))
local macro_rules | `(tactic| walk_at "pair") => `(tactic| refine ag_pairU $(Lean.mkIdent `hN) (by walk_at "ix") (by walk_at "ix") $(Lean.mkIdent `hnd) ?hd ?_)
local macro_rules | `(tactic| walk_at "blk") => `(tactic| exact blkOk_by (by decide +kernel))
local macro_rules | `(tactic| walk_at "forX") => `(tactic| (refine as_cons ?_; refine a1_for ?hp ?_ ?hc ?hs; (case hp => exact passes_of rfl); (case hc => rfl); (case hs => intro _; rfl)))
/-! L5: bounds, inclusion pairs, renumbering -/
def upR (up : Bool) (T : Rl) (x z : Nat) : Bool := decide (x = z) || (if up then T x z else T z x)
def comL (n : Nat) (T : Rl) (x y : Nat) (up : Bool) : List Nat := (List.range n).filter fun z => upR up T x z && upR up T y z
def goodB (c : List Nat) (T : Rl) (up : Bool) (z : Nat) : Bool := c.all fun w => decide (w = z) || (if up then T z w else T w z)
def boundI (n : Nat) (T : Rl) (x y : Nat) (up : Bool) : Int := match (comL n T x y up).find? (goodB (comL n T x y up) T up) with | some z => (z : Int) | none => -1
theorem find_first {p : Nat → Bool} {l : List Nat} {i z : Nat} (h : l[i]? = some z) (hp : p z = true) (hn : ∀ y, y ∈ l.take i → p y = false) : l.find? p = some z := by
  have e : l = l.take i ++ (z :: l.drop (i + 1)) := by
    obtain ⟨hi, rfl⟩ := List.getElem?_eq_some_iff.mp h
    rw [← List.drop_eq_getElem_cons hi, List.take_append_drop]
  rw [e, List.find?_append, List.find?_eq_none.mpr (fun y hy => by rw [hn y hy]; exact Bool.false_ne_true), Option.none_or, List.find?_cons, hp]
section
variable {P : Program} {w : World} {K : PySem.W.Frag} {mg : Str → Option Value} {base : Heap} {CR : Addr}
abbrev sBnd : Stmt := topS 34
abbrev nBnd : List Str := ["_law_table", "_law_x", "_law_y", "_law_upper", "_law_n", "_law_common", "_law_z", "_law_one", "_law_two", "_law_good", "_law_w"]
theorem scBnd : FnScope nBnd ["_law_table", "_law_x", "_law_y", "_law_upper"] (defScope sBnd) := ⟨rfl, rfl, rfl, by decide +kernel, rfl, by decide +kernel, by decide +kernel⟩
def S_bnd : List Dt → (Dt → Prop) → (Str → Prop) → Prop := fun ds P _ => ∃ (n : Nat) (T : Rl) (x y : Nat) (up : Bool), ds = [.lst (tabB n T), natD x, natD y, .bl up] ∧ n ≤ 100 ∧ x < n ∧ y < n ∧ P (.int (boundI n T x y up))
theorem take_snoc {l : List Nat} {i z : Nat} (h : l[i]? = some z) : l.take (i + 1) = l.take i ++ [z] := by
  rw [List.take_add_one, h]
  rfl
theorem ok_bnd {f : Addr} {fd : FuncData} (F : Fun K "_law_bound" "_law_bound" sBnd f fd) (M : Mods mg) : FnOk P w K mg base CX0 2 f fd ["_law_table", "_law_x", "_law_y", "_law_upper"] (spOf K CR (pureS S_bnd)) := by
  refine def_ok F scBnd (fun ds cs Pd R ⟨_, n, T, x, y, up, h, _⟩ => by rw [h]; rfl) fun cdv A outer s F H E ds cs Pd R hr ⟨hcs, n, T, x, y, up, hd, hn, hx, hy, kont⟩ => ?_
  subst hcs
  subst hd
  have hnd := scBnd.nd
  have hN := cx_N CX0 P w K mg base nBnd "_law_bound" (defScope sBnd) f cdv A outer s H E
  -- one test of a point: table[v][z] if upper else table[z][v]
  walk_at "st"
  walk_at "ev"
  refine ⟨_, .inl rfl, ?_⟩
  rw [tabB_len]
  walk_at "newl"
  intro p
  walk_at "for"
  walk_at "rng"
  walk_at "ev"
  refine ⟨by omega, fun i ρ cs => cs = [(p, .l (((List.range i).filter fun z => upR up T x z && upR up T y z).map natD))] ∧ ∃ z1 z2 z3 z4 z5, ρ = [some (.lst (tabB n T)), some (natD x), some (natD y), some (.bl up), some (natD n), some (.cell p), z1, z2, z3, z4, z5], ⟨rfl, _, _, _, _, _, rfl⟩, ?_, ?_⟩
  · rintro z e ρ' cs' hi ⟨rfl, z1, z2, z3, z4, z5, rfl⟩
    obtain ⟨hz, rfl⟩ := rng_item hi
    have hlen := List.length_filter_le (fun z => upR up T x z && upR up T y z) (List.range z)
    rw [List.length_range] at hlen
    walk_at "tgt"
    refine as_setU hN (by walk_at "ix") hnd (Ax.imp (P := fun d cs' => d = .bl (upR up T x z) ∧ cs' = [(p, .l (((List.range z).filter fun z => upR up T x z && upR up T y z).map natD))]) ?_ ?_)
    · unfold upR
      walk_at "ev"
      rw [dec_nat]
      refine ⟨fun h => ?_, fun h => ?_⟩
      · rw [h]
        exact ⟨rfl, rfl⟩
      · rw [h]
        walk_at "ev"
        refine ⟨fun hu => ?_, fun hu => ?_⟩
        · rw [hu]
          walk_at "ev"
          refine ⟨_, _, _, .inl rfl, rfl, tabB_get hx, ?_⟩
          walk_at "ev"
          exact ⟨_, _, _, .inl rfl, rfl, bRow_get hz, rfl, rfl⟩
        · rw [hu]
          walk_at "ev"
          refine ⟨_, _, _, .inl rfl, rfl, tabB_get hz, ?_⟩
          walk_at "ev"
          exact ⟨_, _, _, .inl rfl, rfl, bRow_get hx, rfl, rfl⟩
    rintro d cs' ⟨rfl, rfl⟩
    refine as_setU hN (by walk_at "ix") hnd (Ax.imp (P := fun d cs' => d = .bl (upR up T y z) ∧ cs' = [(p, .l (((List.range z).filter fun z => upR up T x z && upR up T y z).map natD))]) ?_ ?_)
    · show Ax _ _ _ _ _ (fun d cs' => d = .bl (decide (y = z) || (if up then T y z else T z y)) ∧ cs' = _)
      walk_at "ev"
      rw [dec_nat]
      refine ⟨fun h => ?_, fun h => ?_⟩
      · rw [h]
        exact ⟨rfl, rfl⟩
      · rw [h]
        walk_at "ev"
        refine ⟨fun hu => ?_, fun hu => ?_⟩
        · rw [hu]
          walk_at "ev"
          refine ⟨_, _, _, .inl rfl, rfl, tabB_get hy, ?_⟩
          walk_at "ev"
          exact ⟨_, _, _, .inl rfl, rfl, bRow_get hz, rfl, rfl⟩
        · rw [hu]
          walk_at "ev"
          refine ⟨_, _, _, .inl rfl, rfl, tabB_get hz, ?_⟩
          walk_at "ev"
          exact ⟨_, _, _, .inl rfl, rfl, bRow_get hy, rfl, rfl⟩
    rintro d cs' ⟨rfl, rfl⟩
    walk_at "st"
    walk_at "ev"
    refine ⟨fun h1 => ?_, fun h1 => ⟨fun h => (nomatch h), fun _ => ?_⟩⟩
    · walk_at "ev"
      refine ⟨fun h2 => ?_, fun h2 => ?_⟩
      · walk_at "st"
        refine ax_append ?_
        walk_at "ev"
        refine ⟨⟨0, _, rfl⟩, ?_⟩
        walk_at "ev"
        refine ⟨0, _, rfl, by rw [List.length_map]; omega, ?_⟩
        walk_at "st"
        walk_at "st"
        refine ⟨?_, _, _, _, _, _, rfl⟩
        rw [filter_succ_t (by rw [h1, h2]; rfl), List.map_append]
        rfl
      · walk_at "st"
        walk_at "st"
        refine ⟨?_, _, _, _, _, _, rfl⟩
        rw [filter_succ_f (by rw [h1, h2]; rfl)]
    · walk_at "st"
      walk_at "st"
      refine ⟨?_, _, _, _, _, _, rfl⟩
      rw [filter_succ_f (by rw [h1]; rfl)]
  rintro ρ' cs' ⟨rfl, z1, z2, z3, z4, z5, rfl⟩
  refine as_freeze 5 0 rfl rfl ⟨1, by decide, rfl⟩ ?_
  have e0 : ((List.range (Src.len (.rng 0 n))).filter fun z => upR up T x z && upR up T y z) = comL n T x y up := rfl
  rw [e0]
  have hcn : ∀ z, z ∈ comL n T x y up → z < n := fun z hz => List.mem_range.mp (List.mem_filter.mp hz).1
  unfold boundI at kont
  generalize comL n T x y up = c at *
  walk_at "for"
  refine ai_seq ?_
  walk_at "ev"
  refine ⟨_, .inl rfl, fun i ρ cs => cs = [] ∧ (∀ z, z ∈ c.take i → goodB c T up z = false) ∧ ∃ z1 z2 z3 z4 z5, ρ = [some (.lst (tabB n T)), some (natD x), some (natD y), some (.bl up), some (natD n), some (.lst (c.map natD)), z1, z2, z3, z4, z5], ⟨rfl, fun z h => by simp at h, _, _, _, _, _, rfl⟩, ?_, ?_⟩
  · rintro i e ρ' cs' hi ⟨rfl, hI, z1, z2, z3, z4, z5, rfl⟩
    obtain ⟨z, hz, rfl⟩ := item_map hi
    have hzn := hcn z (List.mem_of_getElem? hz)
    walk_at "tgt"
    walk_at "st"
    walk_at "ev"
    walk_at "for"
    refine ai_seq ?_
    walk_at "ev"
    refine ⟨_, .inl rfl, fun j ρ cs => cs = [] ∧ ∃ z5, ρ = [some (.lst (tabB n T)), some (natD x), some (natD y), some (.bl up), some (natD n), some (.lst (c.map natD)), some (natD z), z2, z3, some (.bl (goodB (c.take j) T up z)), z5], ⟨rfl, _, rfl⟩, ?_, ?_⟩
    · rintro j e ρ' cs' hj ⟨rfl, z5, rfl⟩
      obtain ⟨w, hw, rfl⟩ := item_map hj
      have hwn := hcn w (List.mem_of_getElem? hw)
      have hg : goodB (c.take (j + 1)) T up z = (goodB (c.take j) T up z && (decide (w = z) || (if up then T z w else T w z))) := by
        unfold goodB
        rw [take_snoc hw, List.all_append]
        simp
      walk_at "tgt"
      refine as_setU hN (by walk_at "ix") hnd (Ax.imp (P := fun d cs' => d = .bl (goodB (c.take (j + 1)) T up z) ∧ cs' = []) ?_ ?_)
      · rw [hg]
        walk_at "ev"
        refine ⟨fun h0 => ?_, fun h0 => ?_⟩
        · rw [h0]
          walk_at "ev"
          rw [dec_nat]
          refine ⟨fun h => ?_, fun h => ?_⟩
          · rw [h]
            exact ⟨rfl, rfl⟩
          · rw [h]
            walk_at "ev"
            refine ⟨fun hu => ?_, fun hu => ?_⟩
            · rw [hu]
              walk_at "ev"
              refine ⟨_, _, _, .inl rfl, rfl, tabB_get hzn, ?_⟩
              walk_at "ev"
              exact ⟨_, _, _, .inl rfl, rfl, bRow_get hwn, rfl, rfl⟩
            · rw [hu]
              walk_at "ev"
              refine ⟨_, _, _, .inl rfl, rfl, tabB_get hwn, ?_⟩
              walk_at "ev"
              exact ⟨_, _, _, .inl rfl, rfl, bRow_get hzn, rfl, rfl⟩
        · rw [h0]
          exact ⟨rfl, rfl⟩
      rintro d cs' ⟨rfl, rfl⟩
      walk_at "st"
      exact ⟨rfl, _, rfl⟩
    · rintro ρ' cs' ⟨rfl, z5, rfl⟩
      have e1 : c.take (Src.len (.seq (c.map natD))) = c := by
        show c.take (c.map natD).length = c
        rw [List.length_map, List.take_length]
      rw [e1]
      walk_at "st"
      walk_at "ev"
      refine ⟨fun hg => ?_, fun hg => ?_⟩
      · walk_at "st"
        walk_at "ev"
        rw [find_first hz hg hI] at kont
        exact kont
      · walk_at "st"
        walk_at "st"
        refine ⟨rfl, fun z' hz' => ?_, _, _, _, _, _, rfl⟩
        rw [take_snoc hz] at hz'
        rcases List.mem_append.mp hz' with h | h
        · exact hI z' h
        · obtain rfl := List.mem_singleton.mp h
          exact hg
  rintro ρ' cs' ⟨rfl, hI, z1, z2, z3, z4, z5, rfl⟩
  have e1 : c.take (Src.len (.seq (c.map natD))) = c := by
    show c.take (c.map natD).length = c
    rw [List.length_map, List.take_length]
  rw [e1] at hI
  rw [List.find?_eq_none.mpr (fun y hy => by rw [hI y hy]; exact Bool.false_ne_true)] at kont
  walk_at "st"
  walk_at "ev"
  exact kont
end

end G
namespace G
open PySem PySem.Spec PyProof.Rows L2 Evl
local macro_rules | `(tactic| walk_at "ix") => `(tactic| with_reducible (first
  | exact AtN.z | exact AtN.s AtN.z | exact AtN.s (AtN.s AtN.z) | exact AtN.s (AtN.s (AtN.s AtN.z)) | exact AtN.s (AtN.s (AtN.s (AtN.s AtN.z)))
  | exact AtN.s (AtN.s (AtN.s (AtN.s (AtN.s AtN.z)))) | exact AtN.s (AtN.s (AtN.s (AtN.s (AtN.s (AtN.s AtN.z))))) | exact AtN.s (AtN.s (AtN.s (AtN.s (AtN.s (AtN.s (AtN.s AtN.z))))))
  | exact AtN.s (AtN.s (AtN.s (AtN.s (AtN.s (AtN.s (AtN.s (AtN.s AtN.z))))))) | exact AtN.s (AtN.s (AtN.s (AtN.s (AtN.s (AtN.s (AtN.s (AtN.s (AtN.s AtN.z)))))))) | exact AtN.s (AtN.s (AtN.s (AtN.s (AtN.s (AtN.s (AtN.s (AtN.s (AtN.s (AtN.s AtN.z)))))))))
  | exact AtN.s (AtN.s (AtN.s (AtN.s (AtN.s (AtN.s (AtN.s (AtN.s (AtN.s (AtN.s (AtN.s AtN.z))))))))))
  | exact AtN.s (AtN.s (AtN.s (AtN.s (AtN.s (AtN.s (AtN.s (AtN.s (AtN.s (AtN.s (AtN.s (AtN.s AtN.z)))))))))))
  | exact AtN.s (AtN.s (AtN.s (AtN.s (AtN.s (AtN.s (AtN.s (AtN.s (AtN.s (AtN.s (AtN.s (AtN.s (AtN.s AtN.z))))))))))))
  | exact AtN.s (AtN.s (AtN.s (AtN.s (AtN.s (AtN.s (AtN.s (AtN.s (AtN.s (AtN.s (AtN.s (AtN.s (AtN.s (AtN.s AtN.z)))))))))))))
  | exact AtN.s (AtN.s (AtN.s (AtN.s (AtN.s (AtN.s (AtN.s (AtN.s (AtN.s (AtN.s (AtN.s (AtN.s (AtN.s (AtN.s (AtN.s AtN.z))))))))))))))))
local macro_rules | `(tactic| walk_at "ev1") => `(tactic| first
  | with_reducible refine ax_int ?_ | with_reducible refine ax_bl ?_ | with_reducible refine ax_non ?_ | with_reducible refine ax_str ?_
  | ((with_reducible show Ax _ _ (Expr.Name _ _) _ _ _); refine ax_u $(Lean.mkIdent `hN) (by walk_at "ix") rfl ?_)
  | ((with_reducible show Ax _ _ (Expr.Compare _ _ _ _) _ _ _); first | (with_reducible refine ax_cmpR cmp_lt ?_) | (with_reducible refine ax_cmpR cmp_le ?_) | (with_reducible refine ax_cmpR cmp_gt ?_) | (with_reducible refine ax_cmpR cmp_ge ?_) | (with_reducible refine ax_cmpR cmp_eq ?_) | (with_reducible refine ax_cmpR cmp_ne ?_) | (with_reducible refine ax_cmpR cmp_is ?_) | (with_reducible refine ax_cmpR cmp_isN ?_))
  | ((with_reducible show At _ _ (Expr.Compare _ _ _ _) _ _ _); first | (with_reducible refine at_cmpR cmp_lt ?_) | (with_reducible refine at_cmpR cmp_le ?_) | (with_reducible refine at_cmpR cmp_gt ?_) | (with_reducible refine at_cmpR cmp_ge ?_) | (with_reducible refine at_cmpR cmp_eq ?_) | (with_reducible refine at_cmpR cmp_ne ?_) | (with_reducible refine at_cmpR cmp_is ?_) | (with_reducible refine at_cmpR cmp_isN ?_))
  | with_reducible refine ax_add ?_ | with_reducible refine ax_sub ?_ | with_reducible refine ax_mul ?_ | with_reducible refine ax_fdiv ?_ | with_reducible refine ax_mod ?_ | with_reducible refine ax_shl ?_ | with_reducible refine ax_shr ?_ | with_reducible refine ax_and ?_ | with_reducible refine ax_or ?_ | with_reducible refine ax_neg ?_
  | with_reducible refine ax_one ?_ | with_reducible refine ax_andv ?_ | with_reducible refine ax_orv ?_ | with_reducible refine ax_notv ?_ | with_reducible refine at_one ?_ | with_reducible refine at_and ?_ | with_reducible refine at_or ?_ | with_reducible refine at_not ?_ | with_reducible refine ax_if ?_
  | ((with_reducible show Ax _ _ (Expr.Subscript _ _ _) _ _ _); refine ax_ix ?_) | with_reducible refine ax_tup ?_ | ((with_reducible show Aa _ _ (_ :: _) _ _ _); refine aa_cons ?_) | with_reducible refine aa_nil ?_
  | ((with_reducible show Ax _ _ (Expr.Call (Expr.Name "len" _) _ _ _) _ _ _); refine ax_len (Mods.len $(Lean.mkIdent `M)) ?_)
  | ((with_reducible show Ax _ _ (Expr.Call (Expr.Name "int" _) _ _ _) _ _ _); refine ax_int1 (Mods.int $(Lean.mkIdent `M)) ?_)
  | ((with_reducible show Ax _ _ (Expr.Call (Expr.Name "abs" _) _ _ _) _ _ _); refine ax_abs (Mods.abs $(Lean.mkIdent `M)) ?_)
  | ((with_reducible show Ax _ _ (Expr.Call (Expr.Name "tuple" _) _ _ _) _ _ _); refine ax_tuple (Mods.tuple $(Lean.mkIdent `M)) ?_)
  | ((with_reducible show Ax _ _ (Expr.Call (Expr.Name "has" _) _ _ _) _ _ _); refine ax_call $(Lean.mkIdent `cHas) (Room.mono $(Lean.mkIdent `hr) (by decide)) pas0 ?_)
  | ((with_reducible show Ax _ _ (Expr.Call (Expr.Name "set_of" _) _ _ _) _ _ _); refine ax_call $(Lean.mkIdent `cSetOf) (Room.mono $(Lean.mkIdent `hr) (by decide)) pas0 ?_)
  | ((with_reducible show Ax _ _ (Expr.Call (Expr.Name "members" _) _ _ _) _ _ _); refine ax_call $(Lean.mkIdent `cMembers) (Room.mono $(Lean.mkIdent `hr) (by decide)) pas0 ?_)
  | ((with_reducible show Ax _ _ (Expr.Call (Expr.Name "is_integer" _) _ _ _) _ _ _); refine ax_call $(Lean.mkIdent `cIsInt) (Room.mono $(Lean.mkIdent `hr) (by decide)) pas0 ?_)
  | ((with_reducible show Ax _ _ (Expr.Call (Expr.Attribute _ "bit_length" _) _ _ _) _ _ _); refine ax_bits ?_)
  | ((with_reducible show Ax _ _ (Expr.Call (Expr.Name "isinstance" _) [_, Expr.Name "int" _] _ _) _ _ _); refine ax_isi (u := "int") (Mods.isinstance $(Lean.mkIdent `M)) (Mods.int $(Lean.mkIdent `M)) boot_int ?_)
  | ((with_reducible show Ax _ _ (Expr.Call (Expr.Name "isinstance" _) [_, Expr.Name "bool" _] _ _) _ _ _); refine ax_isi (u := "bool") (Mods.isinstance $(Lean.mkIdent `M)) (Mods.bool $(Lean.mkIdent `M)) boot_bool ?_)
  | ((with_reducible show Ax _ _ (Expr.Call (Expr.Name "isinstance" _) [_, Expr.Name "tuple" _] _ _) _ _ _); refine ax_isi (u := "tuple") (Mods.isinstance $(Lean.mkIdent `M)) (Mods.tuple $(Lean.mkIdent `M)) boot_tuple ?_)
  | ((with_reducible show Ax _ _ (Expr.Call (Expr.Name "isinstance" _) [_, Expr.Tuple [Expr.Name "list" _, Expr.Name "tuple" _] _ _] _ _) _ _ _); refine ax_isi2 (u1 := "list") (u2 := "tuple") (Mods.isinstance $(Lean.mkIdent `M)) (Mods.list $(Lean.mkIdent `M)) (Mods.tuple $(Lean.mkIdent `M)) boot_list boot_tuple ?_)
  | ((with_reducible show ∃ t k, tyD _ = some t ∧ kitB t _ = some k ∧ _); refine ⟨_, _, rfl, by with_reducible (first | exact kit_ii | exact kit_ib | exact kit_tt), ?_⟩)
  | ((with_reducible show S_isInt _ _ _); refine ⟨_, rfl, ?_⟩) | ((with_reducible show S_has _ _ _); refine ⟨_, _, rfl, ?_⟩)
  | ((with_reducible show REq _ _ _ _); refine ⟨_, rfl, ?_⟩) | ((with_reducible show RNe _ _ _ _); refine ⟨_, rfl, ?_⟩) | ((with_reducible show RI _ _ _ _ _); refine ⟨_, _, rfl, rfl, ?_⟩)
  | with_reducible refine ⟨_, _, rfl, rfl, ?_⟩
  | with_reducible refine ⟨_, rfl, ?_⟩
  | ((with_reducible show At _ _ (Expr.Name _ _) _ _ _); refine at_val ?_) | ((with_reducible show At _ _ (Expr.Call _ _ _ _) _ _ _); refine at_val ?_) | ((with_reducible show At _ _ (Expr.Subscript _ _ _) _ _ _); refine at_val ?_))
local macro_rules | `(tactic| walk_at "ev") => `(tactic| repeat walk_at "ev1")
local macro_rules | `(tactic| walk_at "st1") => `(tactic| first
    | ((with_reducible show A1 _ _ (Stmt.Return _ _) _ _ _); refine a1_ret ?_)
    | ((with_reducible show A1 _ _ (Stmt.If _ _ _ _) _ _ _); refine a1_if ?_)
    | ((with_reducible show A1 _ _ (Stmt.Expr _ _) _ _ _); refine a1_drop ?_)
    | ((with_reducible show A1 _ _ (Stmt.Assign [Expr.Name _ _] _ _) _ _ _); refine a1_setU $(Lean.mkIdent `hN) (by walk_at "ix") $(Lean.mkIdent `hnd) ?_)
    | ((with_reducible show A1 _ _ (Stmt.Assign _ _ _) _ _ _); refine a1_asg ?_))
local macro_rules | `(tactic| walk_at "st") => `(tactic| first
  | ((with_reducible show As _ _ [] _ _ _); refine as_nil ?_)
  | (refine as_cons ?_; walk_at "st1"))
local macro_rules | `(tactic| walk_at "newl") => `(tactic| refine as_setU $(Lean.mkIdent `hN) (by walk_at "ix") $(Lean.mkIdent `hnd) (ax_lstC (aa_nil ⟨by decide, ?_⟩)))
local macro_rules | `(tactic| walk_at "for") => `(tactic| (refine as_cons ?_; refine a1_for ?hp ?_ ?hc ?hs; (case hp => exact PassesOwn.never); (case hc => rfl); (case hs => intro _; rfl)))
local macro_rules | `(tactic| walk_at "tgt") => `(tactic| refine ag_nameU $(Lean.mkIdent `hN) (by walk_at "ix") $(Lean.mkIdent `hnd) ?_)
local macro_rules | `(tactic| walk_at "rng") => `(tactic| refine ai_range1 (Mods.range $(Lean.mkIdent `M)) ?_)
local macro_rules | `(tactic| walk_at "while") => `(tactic| (refine as_cons ?_; refine a1_while ?hp ?I ?h0 ?hs; (case hp => exact PassesOwn.never)))
local macro_rules | `(tactic| walk_at "pair") => `(tactic| refine ag_pairU $(Lean.mkIdent `hN) (by walk_at "ix") (by walk_at "ix") $(Lean.mkIdent `hnd) ?hd ?_)
local macro_rules | `(tactic| walk_at "blk") => `(tactic| exact blkOk_by (by decide +kernel))
local macro_rules | `(tactic| walk_at "forX") => `(tactic| (refine as_cons ?_; refine a1_for ?hp ?_ ?hc ?hs; (case hp => exact passes_of rfl); (case hc => rfl); (case hs => intro _; rfl)))
/-! L6: inclusion pairs, shapes, renumbering -/
def subS (s : List Nat) : Rl := fun i j => !decide (i = j) && decide (((membersN (atL s i)).filter fun x => !decide (x ∈ membersN (atL s j))).length = 0)
section
variable {P : Program} {w : World} {K : PySem.W.Frag} {mg : Str → Option Value} {base : Heap} {CR : Addr}
abbrev sPrO : Stmt := topS 36
abbrev nPrO : List Str := ["_law_sets", "_law_pairs", "_law_i", "_law_j", "_law_one", "_law_two", "_law_x"]
theorem scPrO : FnScope nPrO ["_law_sets"] (defScope sPrO) := ⟨rfl, rfl, rfl, by decide +kernel, rfl, by decide +kernel, by decide +kernel⟩
def S_pro : List Dt → (Dt → Prop) → (Str → Prop) → Prop := fun ds P _ => ∃ s : List Nat, ds = [.lst (s.map natD)] ∧ s.length ≤ 64 ∧ (∀ x ∈ s, x < 2 ^ 900) ∧ P (.tup ((prs s.length (subS s) s.length).map pairN))
theorem ok_pro {f : Addr} {fd : FuncData} (F : Fun K "_law_pairs_of" "_law_pairs_of" sPrO f fd) (M : Mods mg) (cPts : Fo P w K mg base CX0 CR 1 "_law_points" (pureS S_points)) : FnOk P w K mg base CX0 2 f fd ["_law_sets"] (spOf K CR (pureS S_pro)) := by
  refine def_ok F scPrO (fun ds cs Pd R ⟨_, s, h, _⟩ => by rw [h]; rfl) fun cdv A outer sh F H E ds cs Pd R hr ⟨hcs, s, hd, hl, hs, kont⟩ => ?_
  subst hcs
  subst hd
  have hnd := scPrO.nd
  have hN := cx_N CX0 P w K mg base nPrO "_law_pairs_of" (defScope sPrO) f cdv A outer sh H E
  walk_at "newl"
  intro p
  walk_at "for"
  walk_at "rng"
  walk_at "ev"
  refine ⟨_, .inl rfl, s.length, by rw [List.length_map], by omega, fun i ρ cs => cs = [(p, .l ((prs s.length (subS s) i).map pairN))] ∧ ∃ z1 z2 z3 z4 z5, ρ = [some (.lst (s.map natD)), some (.cell p), z1, z2, z3, z4, z5], ⟨rfl, _, _, _, _, _, rfl⟩, ?_, ?_⟩
  · rintro i e ρ' cs' hi ⟨rfl, z1, z2, z3, z4, z5, rfl⟩
    obtain ⟨hi1, rfl⟩ := rng_item hi
    walk_at "tgt"
    walk_at "for"
    walk_at "rng"
    walk_at "ev"
    refine ⟨_, .inl rfl, s.length, by rw [List.length_map], by omega, fun k ρ cs => cs = [(p, .l ((prs s.length (subS s) i ++ ((List.range k).filter (subS s i)).map fun y => (i, y)).map pairN))] ∧ ∃ z2 z3 z4 z5, ρ = [some (.lst (s.map natD)), some (.cell p), some (natD i), z2, z3, z4, z5], ⟨by simp, _, _, _, _, rfl⟩, ?_, ?_⟩
    · rintro k e ρ' cs' hk ⟨rfl, z2, z3, z4, z5, rfl⟩
      obtain ⟨hk1, rfl⟩ := rng_item hk
      have gi : (s.map natD)[i]? = some (natD (atL s i)) := by rw [List.getElem?_map, atL_get hi1]; rfl
      have gk : (s.map natD)[k]? = some (natD (atL s k)) := by rw [List.getElem?_map, atL_get hk1]; rfl
      walk_at "tgt"
      walk_at "st"
      refine ax_tup ?_
      refine aa_cons (ax_call cPts (Room.mono hr (by decide)) pas0 ?_)
      walk_at "ev"
      refine ⟨_, _, _, .inl rfl, rfl, gi, ?_⟩
      walk_at "ev"
      refine ⟨_, rfl, hs _ (atL_mem hi1), ?_⟩
      refine aa_cons (ax_call cPts (Room.mono hr (by decide)) pas0 ?_)
      walk_at "ev"
      refine ⟨_, _, _, .inl rfl, rfl, gk, ?_⟩
      walk_at "ev"
      refine ⟨_, rfl, hs _ (atL_mem hk1), ?_⟩
      walk_at "ev"
      refine ⟨by show 2 ≤ 1000; decide, ?_⟩
      refine ag_pairU hN (by walk_at "ix") (by walk_at "ix") hnd rfl ?_
      walk_at "st"
      walk_at "ev"
      rw [dec_nat]
      refine ⟨fun hne => ?_, fun hne => ⟨fun h => (nomatch h), fun _ => ?_⟩⟩
      · walk_at "ev"
        have hml : (membersN (atL s i)).length ≤ 900 := by
          have h1 := List.length_filter_le (atL s i).testBit (List.range (Builtin.Int.intBits (atL s i : Nat)))
          rw [List.length_range] at h1
          have h2 := intBits_le (hs _ (atL_mem hi1))
          unfold membersN
          omega
        refine ax_lcQ hN (by walk_at "ix") hnd (blkOk_by (sc := defScope sPrO) (by decide +kernel)) rfl (ai_seq ?_)
        walk_at "ev"
        refine ⟨_, .inl rfl, by show ((membersN (atL s i)).map natD).length ≤ 90000; rw [List.length_map]; omega, ⟨1, rfl⟩, fun j => ((membersN (atL s i))[j]?).bind fun x => if !decide (x ∈ membersN (atL s k)) then some (natD x) else none, fun j d hj => ?_, ?_⟩
        · obtain ⟨x, hx, rfl⟩ := item_map hj
          intro s0 H0 C cl fp D acc
          refine ats_one (at_cmpR (cmp_nin rfl) ?_)
          walk_at "ev"
          refine ⟨_, (membersN (atL s k)).map intN, rfl, .inl (by rw [nat_ints]), ?_⟩
          rw [if_pos rfl, mem_ints]
          refine ⟨rfl, fun hk _ _ _ _ _ => ?_, fun hk => ?_⟩
          · walk_at "ev"
            refine ⟨rfl, ?_⟩
            show ((membersN (atL s i))[j]?).bind _ = _
            rw [hx]
            exact if_pos hk
          · show ((membersN (atL s i))[j]?).bind _ = _
            rw [hx]
            exact if_neg (by rw [hk]; exact Bool.false_ne_true)
        · have e3 : ((List.range (Src.len (.seq ((membersN (atL s i)).map natD)))).filterMap fun j => ((membersN (atL s i))[j]?).bind fun x => if !decide (x ∈ membersN (atL s k)) then some (natD x) else none) = ((membersN (atL s i)).filter fun x => !decide (x ∈ membersN (atL s k))).map natD := by
            show ((List.range ((membersN (atL s i)).map natD).length).filterMap _) = _
            rw [List.length_map, fm_get, fm_if]
          rw [e3]
          refine ⟨_, .inl rfl, ?_⟩
          rw [List.length_map]
          walk_at "ev"
          rw [show (0 : Int) = ((0 : Nat) : Int) from rfl, dec_nat]
          refine ⟨fun ht => ?_, fun hf => ?_⟩
          · have hS : subS s i k = true := by unfold subS; rw [hne, ht]; rfl
            walk_at "st"
            refine ax_append ?_
            walk_at "ev"
            refine ⟨⟨0, _, rfl⟩, ?_⟩
            walk_at "ev"
            have hl1 := prs_len s.length (subS s) i
            have hl2 := List.length_filter_le (subS s i) (List.range k)
            have hl3 : i * s.length ≤ 64 * 64 := Nat.mul_le_mul (by omega) (by omega)
            rw [List.length_range] at hl2
            refine ⟨by show 2 ≤ 1000; decide, 0, _, rfl, by rw [List.length_map, List.length_append, List.length_map]; omega, ?_⟩
            walk_at "st"
            walk_at "st"
            refine ⟨?_, _, _, _, _, rfl⟩
            simp only [filter_succ_t hS, List.map_append, List.append_assoc]
            rfl
          · have hS : subS s i k = false := by unfold subS; rw [hne, hf]; rfl
            walk_at "st"
            walk_at "st"
            refine ⟨?_, _, _, _, _, rfl⟩
            rw [filter_succ_f hS]
      · have hS : subS s i k = false := by unfold subS; rw [hne]; rfl
        walk_at "st"
        walk_at "st"
        refine ⟨?_, _, _, _, _, rfl⟩
        rw [filter_succ_f hS]
    · rintro ρ' cs' ⟨rfl, z2, z3, z4, z5, rfl⟩
      walk_at "st"
      refine ⟨?_, _, _, _, _, _, rfl⟩
      rw [prs_succ]
      rfl
  rintro ρ' cs' ⟨rfl, z1, z2, z3, z4, z5, rfl⟩
  refine as_freeze 1 0 rfl rfl ⟨1, by decide, rfl⟩ ?_
  walk_at "st"
  walk_at "ev"
  exact ⟨_, .inl rfl, kont⟩
/-! ### renumbering -/
abbrev sRen : Stmt := topS 40
abbrev nRen : List Str := ["_law_state_here", "_law_n", "_law_pairs", "_law_rest", "_law_names", "_law_k", "_law_x", "_law_y"]
theorem scRen : FnScope nRen ["_law_state_here", "_law_n", "_law_pairs"] (defScope sRen) := ⟨rfl, rfl, rfl, by decide +kernel, rfl, by decide +kernel, by decide +kernel⟩
def renP (N : List Nat) (ps : List (Nat × Nat)) : List (Nat × Nat) := ps.map fun q => (atL N q.1, atL N q.2)
def S_ren : Sd := fun ds cs P _ => ∃ (a : Addr) (n : Nat) (ps : List (Nat × Nat)) (d : Dt) (s t : Int), ds = [.cell a, natD n, d] ∧ (d = .lst (ps.map pairN) ∨ d = .tup (ps.map pairN)) ∧ n ≤ 100 ∧ InR n ps ∧ ps.length ≤ 10000 ∧ StOk s t ∧ cs = [stC a s t] ∧
  ∀ (N : List Nat) s' t', N.Perm (List.range n) → StOk s' t' → P (.tup ((renP N ps).map pairN)) [stC a s' t']
theorem ok_ren {f : Addr} {fd : FuncData} (F : Fun K "_law_renumbered" "_law_renumbered" sRen f fd) (M : Mods mg) (cTake : Fo P w K mg base CX0 CR 1 "_law_take" S_take) : FnOk P w K mg base CX0 2 f fd ["_law_state_here", "_law_n", "_law_pairs"] (spOf K CR S_ren) := by
  refine def_ok F scRen (fun ds cs Pd R ⟨_, _, _, _, _, _, h, _⟩ => by rw [h]; rfl) fun cdv A outer s F H E ds cs Pd R hr ⟨a, n, ps, d, s1, t1, hd, hdd, hn, hin, hpl, hst1, hcs, kont⟩ => ?_
  subst hcs
  subst hd
  have hnd := scRen.nd
  have hN := cx_N CX0 P w K mg base nRen "_law_renumbered" (defScope sRen) f cdv A outer s H E
  refine as_setU hN (by walk_at "ix") hnd (ax_listRg M.list M.range ?_)
  walk_at "ev"
  refine ⟨by omega, fun q => ?_⟩
  rw [rangeD]
  walk_at "newl"
  intro p
  walk_at "for"
  walk_at "rng"
  walk_at "ev"
  refine ⟨by omega, fun i ρ cs => (∃ (N L : List Nat) (s t : Int), (N ++ L).Perm (List.range n) ∧ N.length = i ∧ StOk s t ∧ cs = [(p, .l (N.map natD)), (q, .l (L.map natD)), stC a s t]) ∧ ∃ z1 z2 z3, ρ = [some (.cell a), some (natD n), some d, some (.cell q), some (.cell p), z1, z2, z3], ⟨⟨[], _, _, _, .refl _, rfl, hst1, rfl⟩, _, _, _, rfl⟩, ?_, ?_⟩
  · rintro i e ρ' cs' hi ⟨⟨N, L, s2, t2, hp, hNl, hst2, rfl⟩, z1, z2, z3, rfl⟩
    obtain ⟨hi1, rfl⟩ := rng_item hi
    have hlen := hp.length_eq
    rw [List.length_append, List.length_range] at hlen
    walk_at "tgt"
    walk_at "st"
    refine ax_append ?_
    walk_at "ev"
    refine ⟨⟨0, _, rfl⟩, ax_pop ?_⟩
    walk_at "ev"
    refine ⟨⟨1, _, rfl⟩, ax_callN 2 cTake (Room.mono hr (by decide)) pas0 ?_⟩
    walk_at "ev"
    refine ⟨_, .inr (.inr ⟨1, q, rfl, rfl⟩), ?_⟩
    walk_at "ev"
    refine ⟨a, (L.map natD).length, s2, t2, rfl, by rw [List.length_map]; omega, by rw [List.length_map]; omega, hst2, rfl, fun v s3 t3 hv hst3 => ?_⟩
    rw [List.length_map] at hv
    have hz : L[v]? = some (L[v]) := List.getElem?_eq_getElem hv
    refine ⟨1, _, v, natD (L[v]), rfl, rfl, by rw [List.getElem?_map, hz]; rfl, by rw [List.length_map]; omega, 0, _, rfl, by rw [List.length_map]; omega, ?_⟩
    walk_at "st"
    refine ⟨⟨N ++ [L[v]], L.eraseIdx v, s3, t3, perm_pop hz hp, by rw [List.length_append, hNl]; rfl, hst3, ?_⟩, _, _, _, rfl⟩
    rw [List.map_append, map_erase]
    rfl
  rintro ρ' cs' ⟨⟨N, L, s2, t2, hp, hNl, hst2, rfl⟩, z1, z2, z3, rfl⟩
  have hNl : N.length = n := hNl
  have hL : L = [] := by
    have hlen := hp.length_eq
    rw [List.length_append, List.length_range] at hlen
    exact List.eq_nil_of_length_eq_zero (by omega)
  subst hL
  rw [List.append_nil] at hp
  have hNg : ∀ i, i < n → (N.map natD)[i]? = some (natD (atL N i)) := fun i hi => by rw [List.getElem?_map, atL_get (by omega)]; rfl
  refine as_freeze 4 0 rfl rfl ⟨2, by decide, rfl⟩ ?_
  refine as_drop 3 0 rfl ⟨1, by decide, rfl⟩ ?_
  walk_at "st"
  walk_at "ev"
  refine ax_lcPQ hN (by walk_at "ix") (by walk_at "ix") (by decide) hnd (blkOk_by (sc := defScope sRen) (by decide +kernel)) rfl (ai_seq ?_)
  walk_at "ev"
  refine ⟨ps.map pairN, by rcases hdd with h | h; exact .inl h; exact .inr (.inl h), by show (ps.map pairN).length ≤ 90000; rw [List.length_map]; omega, ⟨0, rfl⟩, fun i => (ps[i]?).bind fun q => some (pairN (atL N q.1, atL N q.2)), fun i d hi => ?_, ?_⟩
  · obtain ⟨q, hq, rfl⟩ := item_map hi
    have hq1 := hin q (List.mem_of_getElem? hq)
    refine ⟨_, _, rfl, fun s0 H0 C cl fp D acc => ats_nil ⟨rfl, fun _ _ _ _ _ _ => ?_, fun h => (nomatch h)⟩⟩
    walk_at "ev"
    refine ⟨_, _, _, .inl rfl, rfl, hNg _ hq1.1, ?_⟩
    walk_at "ev"
    refine ⟨_, _, _, .inl rfl, rfl, hNg _ hq1.2, ?_⟩
    walk_at "ev"
    refine ⟨by show 2 ≤ 1000; decide, rfl, ?_⟩
    show (ps[i]?).bind _ = _
    rw [hq]
    rfl
  · have e1 : ((List.range (Src.len (.seq (ps.map pairN)))).filterMap fun i => (ps[i]?).bind fun q => some (pairN (atL N q.1, atL N q.2))) = (renP N ps).map pairN := by
      show ((List.range (ps.map pairN).length).filterMap _) = _
      rw [List.length_map, fm_get, renP, List.map_map, ← List.filterMap_eq_map]
      rfl
    rw [e1]
    exact ⟨_, .inl rfl, kont N s2 t2 hp hst2⟩
end

end G
namespace G
open PySem PySem.Spec PyProof.Rows L2 Evl
local macro_rules | `(tactic| walk_at "ix") => `(tactic| with_reducible (first
  | exact AtN.z | exact AtN.s AtN.z | exact AtN.s (AtN.s AtN.z) | exact AtN.s (AtN.s (AtN.s AtN.z)) | exact AtN.s (AtN.s (AtN.s (AtN.s AtN.z)))
  | exact AtN.s (AtN.s (AtN.s (AtN.s (AtN.s AtN.z)))) | exact AtN.s (AtN.s (AtN.s (AtN.s (AtN.s (AtN.s AtN.z))))) | exact AtN.s (AtN.s (AtN.s (AtN.s (AtN.s (AtN.s (AtN.s AtN.z))))))
  | exact AtN.s (AtN.s (AtN.s (AtN.s (AtN.s (AtN.s (AtN.s (AtN.s AtN.z))))))) | exact AtN.s (AtN.s (AtN.s (AtN.s (AtN.s (AtN.s (AtN.s (AtN.s (AtN.s AtN.z)))))))) | exact AtN.s (AtN.s (AtN.s (AtN.s (AtN.s (AtN.s (AtN.s (AtN.s (AtN.s (AtN.s AtN.z)))))))))
  | exact AtN.s (AtN.s (AtN.s (AtN.s (AtN.s (AtN.s (AtN.s (AtN.s (AtN.s (AtN.s (AtN.s AtN.z))))))))))
  | exact AtN.s (AtN.s (AtN.s (AtN.s (AtN.s (AtN.s (AtN.s (AtN.s (AtN.s (AtN.s (AtN.s (AtN.s AtN.z)))))))))))
  | exact AtN.s (AtN.s (AtN.s (AtN.s (AtN.s (AtN.s (AtN.s (AtN.s (AtN.s (AtN.s (AtN.s (AtN.s (AtN.s AtN.z))))))))))))
  | exact AtN.s (AtN.s (AtN.s (AtN.s (AtN.s (AtN.s (AtN.s (AtN.s (AtN.s (AtN.s (AtN.s (AtN.s (AtN.s (AtN.s AtN.z)))))))))))))
  | exact AtN.s (AtN.s (AtN.s (AtN.s (AtN.s (AtN.s (AtN.s (AtN.s (AtN.s (AtN.s (AtN.s (AtN.s (AtN.s (AtN.s (AtN.s AtN.z))))))))))))))))
local macro_rules | `(tactic| walk_at "ev1") => `(tactic| first
  | with_reducible refine ax_int ?_ | with_reducible refine ax_bl ?_ | with_reducible refine ax_non ?_ | with_reducible refine ax_str ?_
  | ((with_reducible show Ax _ _ (Expr.Name _ _) _ _ _); refine ax_u $(Lean.mkIdent `hN) (by walk_at "ix") rfl ?_)
  | ((with_reducible show Ax _ _ (Expr.Compare _ _ _ _) _ _ _); first | (with_reducible refine ax_cmpR cmp_lt ?_) | (with_reducible refine ax_cmpR cmp_le ?_) | (with_reducible refine ax_cmpR cmp_gt ?_) | (with_reducible refine ax_cmpR cmp_ge ?_) | (with_reducible refine ax_cmpR cmp_eq ?_) | (with_reducible refine ax_cmpR cmp_ne ?_) | (with_reducible refine ax_cmpR cmp_is ?_) | (with_reducible refine ax_cmpR cmp_isN ?_))
  | ((with_reducible show At _ _ (Expr.Compare _ _ _ _) _ _ _); first | (with_reducible refine at_cmpR cmp_lt ?_) | (with_reducible refine at_cmpR cmp_le ?_) | (with_reducible refine at_cmpR cmp_gt ?_) | (with_reducible refine at_cmpR cmp_ge ?_) | (with_reducible refine at_cmpR cmp_eq ?_) | (with_reducible refine at_cmpR cmp_ne ?_) | (with_reducible refine at_cmpR cmp_is ?_) | (with_reducible refine at_cmpR cmp_isN ?_))
  | with_reducible refine ax_add ?_ | with_reducible refine ax_sub ?_ | with_reducible refine ax_mul ?_ | with_reducible refine ax_fdiv ?_ | with_reducible refine ax_mod ?_ | with_reducible refine ax_shl ?_ | with_reducible refine ax_shr ?_ | with_reducible refine ax_and ?_ | with_reducible refine ax_or ?_ | with_reducible refine ax_neg ?_
  | with_reducible refine ax_one ?_ | with_reducible refine ax_andv ?_ | with_reducible refine ax_orv ?_ | with_reducible refine ax_notv ?_ | with_reducible refine at_one ?_ | with_reducible refine at_and ?_ | with_reducible refine at_or ?_ | with_reducible refine at_not ?_ | with_reducible refine ax_if ?_
  | ((with_reducible show Ax _ _ (Expr.Subscript _ _ _) _ _ _); refine ax_ix ?_) | with_reducible refine ax_tup ?_ | ((with_reducible show Aa _ _ (_ :: _) _ _ _); refine aa_cons ?_) | with_reducible refine aa_nil ?_
  | ((with_reducible show Ax _ _ (Expr.Call (Expr.Name "len" _) _ _ _) _ _ _); refine ax_len (Mods.len $(Lean.mkIdent `M)) ?_)
  | ((with_reducible show Ax _ _ (Expr.Call (Expr.Name "int" _) _ _ _) _ _ _); refine ax_int1 (Mods.int $(Lean.mkIdent `M)) ?_)
  | ((with_reducible show Ax _ _ (Expr.Call (Expr.Name "abs" _) _ _ _) _ _ _); refine ax_abs (Mods.abs $(Lean.mkIdent `M)) ?_)
  | ((with_reducible show Ax _ _ (Expr.Call (Expr.Name "tuple" _) _ _ _) _ _ _); refine ax_tuple (Mods.tuple $(Lean.mkIdent `M)) ?_)
  | ((with_reducible show Ax _ _ (Expr.Call (Expr.Name "has" _) _ _ _) _ _ _); refine ax_call $(Lean.mkIdent `cHas) (Room.mono $(Lean.mkIdent `hr) (by decide)) pas0 ?_)
  | ((with_reducible show Ax _ _ (Expr.Call (Expr.Name "set_of" _) _ _ _) _ _ _); refine ax_call $(Lean.mkIdent `cSetOf) (Room.mono $(Lean.mkIdent `hr) (by decide)) pas0 ?_)
  | ((with_reducible show Ax _ _ (Expr.Call (Expr.Name "members" _) _ _ _) _ _ _); refine ax_call $(Lean.mkIdent `cMembers) (Room.mono $(Lean.mkIdent `hr) (by decide)) pas0 ?_)
  | ((with_reducible show Ax _ _ (Expr.Call (Expr.Name "is_integer" _) _ _ _) _ _ _); refine ax_call $(Lean.mkIdent `cIsInt) (Room.mono $(Lean.mkIdent `hr) (by decide)) pas0 ?_)
  | ((with_reducible show Ax _ _ (Expr.Call (Expr.Attribute _ "bit_length" _) _ _ _) _ _ _); refine ax_bits ?_)
  | ((with_reducible show Ax _ _ (Expr.Call (Expr.Name "isinstance" _) [_, Expr.Name "int" _] _ _) _ _ _); refine ax_isi (u := "int") (Mods.isinstance $(Lean.mkIdent `M)) (Mods.int $(Lean.mkIdent `M)) boot_int ?_)
  | ((with_reducible show Ax _ _ (Expr.Call (Expr.Name "isinstance" _) [_, Expr.Name "bool" _] _ _) _ _ _); refine ax_isi (u := "bool") (Mods.isinstance $(Lean.mkIdent `M)) (Mods.bool $(Lean.mkIdent `M)) boot_bool ?_)
  | ((with_reducible show Ax _ _ (Expr.Call (Expr.Name "isinstance" _) [_, Expr.Name "tuple" _] _ _) _ _ _); refine ax_isi (u := "tuple") (Mods.isinstance $(Lean.mkIdent `M)) (Mods.tuple $(Lean.mkIdent `M)) boot_tuple ?_)
  | ((with_reducible show Ax _ _ (Expr.Call (Expr.Name "isinstance" _) [_, Expr.Tuple [Expr.Name "list" _, Expr.Name "tuple" _] _ _] _ _) _ _ _); refine ax_isi2 (u1 := "list") (u2 := "tuple") (Mods.isinstance $(Lean.mkIdent `M)) (Mods.list $(Lean.mkIdent `M)) (Mods.tuple $(Lean.mkIdent `M)) boot_list boot_tuple ?_)
  | ((with_reducible show ∃ t k, tyD _ = some t ∧ kitB t _ = some k ∧ _); refine ⟨_, _, rfl, by with_reducible (first | exact kit_ii | exact kit_ib | exact kit_tt), ?_⟩)
  | ((with_reducible show S_isInt _ _ _); refine ⟨_, rfl, ?_⟩) | ((with_reducible show S_has _ _ _); refine ⟨_, _, rfl, ?_⟩)
  | ((with_reducible show REq _ _ _ _); refine ⟨_, rfl, ?_⟩) | ((with_reducible show RNe _ _ _ _); refine ⟨_, rfl, ?_⟩) | ((with_reducible show RI _ _ _ _ _); refine ⟨_, _, rfl, rfl, ?_⟩)
  | with_reducible refine ⟨_, _, rfl, rfl, ?_⟩
  | with_reducible refine ⟨_, rfl, ?_⟩
  | ((with_reducible show At _ _ (Expr.Name _ _) _ _ _); refine at_val ?_) | ((with_reducible show At _ _ (Expr.Call _ _ _ _) _ _ _); refine at_val ?_) | ((with_reducible show At _ _ (Expr.Subscript _ _ _) _ _ _); refine at_val ?_))
local macro_rules | `(tactic| walk_at "ev") => `(tactic| repeat walk_at "ev1")
local macro_rules | `(tactic| walk_at "st1") => `(tactic| first
    | ((with_reducible show A1 _ _ (Stmt.Return _ _) _ _ _); refine a1_ret ?_)
    | ((with_reducible show A1 _ _ (Stmt.If _ _ _ _) _ _ _); refine a1_if ?_)
    | ((with_reducible show A1 _ _ (Stmt.Expr _ _) _ _ _); refine a1_drop ?_)
    | ((with_reducible show A1 _ _ (Stmt.Assign [Expr.Name _ _] _ _) _ _ _); refine a1_setU $(Lean.mkIdent `hN) (by walk_at "ix") $(Lean.mkIdent `hnd) ?_)
    | ((with_reducible show A1 _ _ (Stmt.Assign _ _ _) _ _ _); refine a1_asg ?_))
local macro_rules | `(tactic| walk_at "st") => `(tactic| first
  | ((with_reducible show As _ _ [] _ _ _); refine as_nil ?_)
  | (refine as_cons ?_; walk_at "st1"))
local macro_rules | `(tactic| walk_at "newl") => `(tactic| refine as_setU $(Lean.mkIdent `hN) (by walk_at "ix") $(Lean.mkIdent `hnd) (ax_lstC (aa_nil ⟨by decide, ?_⟩)))
local macro_rules | `(tactic| walk_at "for") => `(tactic| (refine as_cons ?_; refine a1_for ?hp ?_ ?hc ?hs; (case hp => exact PassesOwn.never); (case hc => rfl); (case hs => intro _; rfl)))
local macro_rules | `(tactic| walk_at "tgt") => `(tactic| refine ag_nameU $(Lean.mkIdent `hN) (by walk_at "ix") $(Lean.mkIdent `hnd) ?_)
local macro_rules | `(tactic| walk_at "rng") => `(tactic| refine ai_range1 (Mods.range $(Lean.mkIdent `M)) ?_)
local macro_rules | `(tactic| walk_at "while") => `(tactic| (refine as_cons ?_; refine a1_while ?hp ?I ?h0 ?hs; (case hp => exact PassesOwn.never)))
local macro_rules | `(tactic| walk_at "pair") => `(tactic| refine ag_pairU $(Lean.mkIdent `hN) (by walk_at "ix") (by walk_at "ix") $(Lean.mkIdent `hnd) ?hd ?_)
local macro_rules | `(tactic| walk_at "blk") => `(tactic| exact blkOk_by (by decide +kernel))
local macro_rules | `(tactic| walk_at "forX") => `(tactic| (refine as_cons ?_; refine a1_for ?hp ?_ ?hc ?hs; (case hp => exact passes_of rfl); (case hc => rfl); (case hs => intro _; rfl)))
/-! L7: the drawn shapes -/
def besP (m : Nat) : List (Nat × Nat) := (List.range m).flatMap fun k => [(0, k + 1), (k + 1, m + 1)]
def chP (l r : Nat) : List (Nat × Nat) := ((List.range (l + 1)).map fun k => (k, k + 1)) ++ [(0, l + 2)] ++ ((List.range (r - 1)).map fun k => (l + 2 + k, l + 3 + k)) ++ [(l + 1 + r, l + 1)]
section
variable {P : Program} {w : World} {K : PySem.W.Frag} {mg : Str → Option Value} {base : Heap} {CR : Addr}
abbrev sBes : Stmt := topS 37
abbrev nBes : List Str := ["_law_state_here", "_law_many", "_law_pairs", "_law_k"]
theorem scBes : FnScope nBes ["_law_state_here"] (defScope sBes) := ⟨rfl, rfl, rfl, by decide +kernel, rfl, by decide +kernel, by decide +kernel⟩
def S_bes : Sd := fun ds cs P _ => ∃ (a : Addr) (s t : Int), ds = [.cell a] ∧ StOk s t ∧ cs = [stC a s t] ∧ ∀ v s' t', v < 2 → StOk s' t' → P (.tup [natD (2 + v + 2), .lst ((besP (2 + v)).map pairN)]) [stC a s' t']
theorem besP_succ (m i : Nat) : ((List.range (i + 1)).flatMap fun k => [(0, k + 1), (k + 1, m + 1)]) = ((List.range i).flatMap fun k => [(0, k + 1), (k + 1, m + 1)]) ++ [(0, i + 1), (i + 1, m + 1)] := by
  rw [List.range_succ, List.flatMap_append]
  simp
theorem besP_len (m : Nat) : ∀ i, ((List.range i).flatMap fun k => [(0, k + 1), (k + 1, m + 1)]).length = i * 2
  | 0 => rfl
  | i + 1 => by
    rw [besP_succ, List.length_append, besP_len m i, Nat.add_mul]
    rfl
theorem ok_bes {f : Addr} {fd : FuncData} (F : Fun K "_law_beside" "_law_beside" sBes f fd) (M : Mods mg) (cTake : Fo P w K mg base CX0 CR 1 "_law_take" S_take) : FnOk P w K mg base CX0 2 f fd ["_law_state_here"] (spOf K CR S_bes) := by
  refine def_ok F scBes (fun ds cs Pd R ⟨_, _, _, h, _⟩ => by rw [h]; rfl) fun cdv A outer s F H E ds cs Pd R hr ⟨a, s0, t0, hd, hst, hcs, kont⟩ => ?_
  subst hcs
  subst hd
  have hnd := scBes.nd
  have hN := cx_N CX0 P w K mg base nBes "_law_beside" (defScope sBes) f cdv A outer s H E
  walk_at "st"
  walk_at "ev"
  refine ax_callN 0 cTake (Room.mono hr (by decide)) pas0 ?_
  walk_at "ev"
  refine ⟨a, 2, s0, t0, rfl, by decide, by decide, hst, rfl, fun v s1 t1 hv hst1 => ?_⟩
  walk_at "ev"
  walk_at "newl"
  intro p
  walk_at "for"
  walk_at "rng"
  walk_at "ev"
  refine ⟨by show 2 + v ≤ 100000; omega, fun i ρ cs => cs = [(p, .l (((List.range i).flatMap fun k => [(0, k + 1), (k + 1, 2 + v + 1)]).map pairN)), stC a s1 t1] ∧ ∃ z, ρ = [some (.cell a), some (natD (2 + v)), some (.cell p), z], ⟨rfl, none, rfl⟩, ?_, ?_⟩
  · rintro i e ρ' cs' hi ⟨rfl, z, rfl⟩
    obtain ⟨hi1, rfl⟩ := rng_item hi
    have hlen := besP_len (2 + v) i
    have hi1 : i < 2 + v := hi1
    walk_at "tgt"
    walk_at "st"
    refine ax_extend ?_
    walk_at "ev"
    refine ⟨⟨0, _, rfl⟩, ax_lst ?_⟩
    walk_at "ev"
    refine ⟨by show 2 ≤ 1000; decide, ?_⟩
    walk_at "ev"
    refine ⟨by show 2 ≤ 1000; decide, ?_⟩
    walk_at "ev"
    refine ⟨by show 2 ≤ 1000; decide, 0, _, _, rfl, rfl, by rw [List.length_map, hlen]; show i * 2 + 2 < 90000; omega, ?_⟩
    walk_at "st"
    refine ⟨?_, _, rfl⟩
    rw [besP_succ, List.map_append]
    rfl
  rintro ρ' cs' ⟨rfl, z, rfl⟩
  refine as_freeze 2 0 rfl rfl ⟨1, by decide, rfl⟩ ?_
  walk_at "st"
  walk_at "ev"
  exact ⟨by show 2 ≤ 1000; decide, kont v s1 t1 hv hst1⟩
abbrev sChs : Stmt := topS 38
abbrev nChs : List Str := ["_law_state_here", "_law_left", "_law_right", "_law_pairs", "_law_k"]
theorem scChs : FnScope nChs ["_law_state_here"] (defScope sChs) := ⟨rfl, rfl, rfl, by decide +kernel, rfl, by decide +kernel, by decide +kernel⟩
def S_chs : Sd := fun ds cs P _ => ∃ (a : Addr) (s t : Int), ds = [.cell a] ∧ StOk s t ∧ cs = [stC a s t] ∧ ∀ u v s' t', u < 2 → v < 3 → StOk s' t' → P (.tup [natD (1 + u + (1 + v) + 2), .lst ((chP (1 + u) (1 + v)).map pairN)]) [stC a s' t']
theorem ok_chs {f : Addr} {fd : FuncData} (F : Fun K "_law_chains" "_law_chains" sChs f fd) (M : Mods mg) (cTake : Fo P w K mg base CX0 CR 1 "_law_take" S_take) : FnOk P w K mg base CX0 2 f fd ["_law_state_here"] (spOf K CR S_chs) := by
  refine def_ok F scChs (fun ds cs Pd R ⟨_, _, _, h, _⟩ => by rw [h]; rfl) fun cdv A outer s F H E ds cs Pd R hr ⟨a, s0, t0, hd, hst, hcs, kont⟩ => ?_
  subst hcs
  subst hd
  have hnd := scChs.nd
  have hN := cx_N CX0 P w K mg base nChs "_law_chains" (defScope sChs) f cdv A outer s H E
  walk_at "st"
  refine ax_tup (aa_cons ?_)
  walk_at "ev"
  refine ax_callN 0 cTake (Room.mono hr (by decide)) pas0 ?_
  walk_at "ev"
  refine ⟨a, 2, s0, t0, rfl, by decide, by decide, hst, rfl, fun u s1 t1 hu hst1 => ?_⟩
  walk_at "ev"
  refine ax_callN 0 cTake (Room.mono hr (by decide)) pas0 ?_
  walk_at "ev"
  refine ⟨a, 3, s1, t1, rfl, by decide, by decide, hst1, rfl, fun v s2 t2 hv hst2 => ?_⟩
  walk_at "ev"
  refine ⟨by show 2 ≤ 1000; decide, ?_⟩
  refine ag_pairU hN (by walk_at "ix") (by walk_at "ix") hnd rfl ?_
  walk_at "st"
  refine ax_cat ?_
  refine ax_lcQ hN (by walk_at "ix") hnd (blkOk_by (sc := defScope sChs) (by decide +kernel)) rfl (ai_range1 M.range ?_)
  walk_at "ev"
  refine ⟨by show 1 + u + 1 ≤ 100000; omega, by show 1 + u + 1 ≤ 90000; omega, ⟨0, rfl⟩, fun k => some (pairN (k, k + 1)), fun k d hk s0 H0 C cl fp D acc => ats_nil ⟨rfl, fun _ _ _ _ _ _ => ?_, fun h => (nomatch h)⟩, ?_⟩
  · obtain ⟨hk, rfl⟩ := rng_item hk
    walk_at "ev"
    exact ⟨by show 2 ≤ 1000; decide, rfl, rfl⟩
  refine ax_lst ?_
  walk_at "ev"
  refine ⟨by show 2 ≤ 1000; decide, ?_⟩
  walk_at "ev"
  have e1 : ((List.range (Src.len (.rng 0 (1 + u + 1)))).filterMap fun k => some (pairN (k, k + 1))) = ((List.range (1 + u + 1)).map fun k => (k, k + 1)).map pairN := by
    show ((List.range (1 + u + 1)).filterMap fun k => some (pairN (k, k + 1))) = _
    rw [fm_some, List.map_map]
    rfl
  rw [e1]
  refine ⟨by show 1 ≤ 1000; decide, _, _, rfl, rfl, by rw [List.length_map, List.length_map, List.length_range]; show 1 + u + 1 + 1 ≤ 100000; omega, ?_⟩
  walk_at "st"
  refine ax_cat (ax_cat ?_)
  walk_at "ev"
  refine ax_lcQ hN (by walk_at "ix") hnd (blkOk_by (sc := defScope sChs) (by decide +kernel)) rfl (ai_range1 M.range ?_)
  walk_at "ev"
  refine ⟨v, by congr 1; omega, by omega, by show v ≤ 90000; omega, ⟨0, rfl⟩, fun k => some (pairN (1 + u + 2 + k, 1 + u + 3 + k)), fun k d hk s0 H0 C cl fp D acc => ats_nil ⟨rfl, fun _ _ _ _ _ _ => ?_, fun h => (nomatch h)⟩, ?_⟩
  · obtain ⟨hk, rfl⟩ := rng_item hk
    walk_at "ev"
    exact ⟨by show 2 ≤ 1000; decide, rfl, rfl⟩
  have e2 : ((List.range (Src.len (.rng 0 v))).filterMap fun k => some (pairN (1 + u + 2 + k, 1 + u + 3 + k))) = ((List.range v).map fun k => (1 + u + 2 + k, 1 + u + 3 + k)).map pairN := by
    show ((List.range v).filterMap fun k => some (pairN (1 + u + 2 + k, 1 + u + 3 + k))) = _
    rw [fm_some, List.map_map]
    rfl
  rw [e2]
  refine ⟨_, _, rfl, rfl, by rw [List.length_append, List.length_map, List.length_map, List.length_range, List.length_map, List.length_map, List.length_range]; show 1 + u + 1 + 1 + v ≤ 100000; omega, ?_⟩
  refine ax_lst ?_
  walk_at "ev"
  refine ⟨by show 2 ≤ 1000; decide, ?_⟩
  walk_at "ev"
  refine ⟨by show 1 ≤ 1000; decide, _, _, rfl, rfl, by simp only [List.length_append, List.length_map, List.length_range, List.length_cons, List.length_nil]; omega, ?_⟩
  walk_at "st"
  walk_at "ev"
  refine ⟨by show 2 ≤ 1000; decide, ?_⟩
  have e3 : (chP (1 + u) (1 + v)).map pairN = ((List.map pairN (List.map (fun k => (k, k + 1)) (List.range (1 + u + 1))) ++ [.tup [.int 0, natD (1 + u + 2)]]) ++ List.map pairN (List.map (fun k => (1 + u + 2 + k, 1 + u + 3 + k)) (List.range v))) ++ [.tup [natD (1 + u + 1 + (1 + v)), natD (1 + u + 1)]] := by
    unfold chP
    rw [show 1 + v - 1 = v by omega, List.map_append, List.map_append, List.map_append]
    rfl
  have k2 := kont u v s2 t2 hu hv hst2
  rw [e3] at k2
  exact k2
end

end G
namespace G
open PySem PySem.Spec PyProof.Rows L2 Evl
local macro_rules | `(tactic| walk_at "ix") => `(tactic| with_reducible (first
  | exact AtN.z | exact AtN.s AtN.z | exact AtN.s (AtN.s AtN.z) | exact AtN.s (AtN.s (AtN.s AtN.z)) | exact AtN.s (AtN.s (AtN.s (AtN.s AtN.z)))
  | exact AtN.s (AtN.s (AtN.s (AtN.s (AtN.s AtN.z)))) | exact AtN.s (AtN.s (AtN.s (AtN.s (AtN.s (AtN.s AtN.z))))) | exact AtN.s (AtN.s (AtN.s (AtN.s (AtN.s (AtN.s (AtN.s AtN.z))))))
  | exact AtN.s (AtN.s (AtN.s (AtN.s (AtN.s (AtN.s (AtN.s (AtN.s AtN.z))))))) | exact AtN.s (AtN.s (AtN.s (AtN.s (AtN.s (AtN.s (AtN.s (AtN.s (AtN.s AtN.z)))))))) | exact AtN.s (AtN.s (AtN.s (AtN.s (AtN.s (AtN.s (AtN.s (AtN.s (AtN.s (AtN.s AtN.z)))))))))
  | exact AtN.s (AtN.s (AtN.s (AtN.s (AtN.s (AtN.s (AtN.s (AtN.s (AtN.s (AtN.s (AtN.s AtN.z))))))))))
  | exact AtN.s (AtN.s (AtN.s (AtN.s (AtN.s (AtN.s (AtN.s (AtN.s (AtN.s (AtN.s (AtN.s (AtN.s AtN.z)))))))))))
  | exact AtN.s (AtN.s (AtN.s (AtN.s (AtN.s (AtN.s (AtN.s (AtN.s (AtN.s (AtN.s (AtN.s (AtN.s (AtN.s AtN.z))))))))))))
  | exact AtN.s (AtN.s (AtN.s (AtN.s (AtN.s (AtN.s (AtN.s (AtN.s (AtN.s (AtN.s (AtN.s (AtN.s (AtN.s (AtN.s AtN.z)))))))))))))
  | exact AtN.s (AtN.s (AtN.s (AtN.s (AtN.s (AtN.s (AtN.s (AtN.s (AtN.s (AtN.s (AtN.s (AtN.s (AtN.s (AtN.s (AtN.s AtN.z))))))))))))))))
local macro_rules | `(tactic| walk_at "ev1") => `(tactic| first
  | with_reducible refine ax_int ?_ | with_reducible refine ax_bl ?_ | with_reducible refine ax_non ?_ | with_reducible refine ax_str ?_
  | ((with_reducible show Ax _ _ (Expr.Name _ _) _ _ _); refine ax_u $(Lean.mkIdent `hN) (by walk_at "ix") rfl ?_)
  | ((with_reducible show Ax _ _ (Expr.Compare _ _ _ _) _ _ _); first | (with_reducible refine ax_cmpR cmp_lt ?_) | (with_reducible refine ax_cmpR cmp_le ?_) | (with_reducible refine ax_cmpR cmp_gt ?_) | (with_reducible refine ax_cmpR cmp_ge ?_) | (with_reducible refine ax_cmpR cmp_eq ?_) | (with_reducible refine ax_cmpR cmp_ne ?_) | (with_reducible refine ax_cmpR cmp_is ?_) | (with_reducible refine ax_cmpR cmp_isN ?_))
  | ((with_reducible show At _ _ (Expr.Compare _ _ _ _) _ _ _); first | (with_reducible refine at_cmpR cmp_lt ?_) | (with_reducible refine at_cmpR cmp_le ?_) | (with_reducible refine at_cmpR cmp_gt ?_) | (with_reducible refine at_cmpR cmp_ge ?_) | (with_reducible refine at_cmpR cmp_eq ?_) | (with_reducible refine at_cmpR cmp_ne ?_) | (with_reducible refine at_cmpR cmp_is ?_) | (with_reducible refine at_cmpR cmp_isN ?_))
  | with_reducible refine ax_add ?_ | with_reducible refine ax_sub ?_ | with_reducible refine ax_mul ?_ | with_reducible refine ax_fdiv ?_ | with_reducible refine ax_mod ?_ | with_reducible refine ax_shl ?_ | with_reducible refine ax_shr ?_ | with_reducible refine ax_and ?_ | with_reducible refine ax_or ?_ | with_reducible refine ax_neg ?_
  | with_reducible refine ax_one ?_ | with_reducible refine ax_andv ?_ | with_reducible refine ax_orv ?_ | with_reducible refine ax_notv ?_ | with_reducible refine at_one ?_ | with_reducible refine at_and ?_ | with_reducible refine at_or ?_ | with_reducible refine at_not ?_ | with_reducible refine ax_if ?_
  | ((with_reducible show Ax _ _ (Expr.Subscript _ _ _) _ _ _); refine ax_ix ?_) | with_reducible refine ax_tup ?_ | ((with_reducible show Aa _ _ (_ :: _) _ _ _); refine aa_cons ?_) | with_reducible refine aa_nil ?_
  | ((with_reducible show Ax _ _ (Expr.Call (Expr.Name "len" _) _ _ _) _ _ _); refine ax_len (Mods.len $(Lean.mkIdent `M)) ?_)
  | ((with_reducible show Ax _ _ (Expr.Call (Expr.Name "int" _) _ _ _) _ _ _); refine ax_int1 (Mods.int $(Lean.mkIdent `M)) ?_)
  | ((with_reducible show Ax _ _ (Expr.Call (Expr.Name "abs" _) _ _ _) _ _ _); refine ax_abs (Mods.abs $(Lean.mkIdent `M)) ?_)
  | ((with_reducible show Ax _ _ (Expr.Call (Expr.Name "tuple" _) _ _ _) _ _ _); refine ax_tuple (Mods.tuple $(Lean.mkIdent `M)) ?_)
  | ((with_reducible show Ax _ _ (Expr.Call (Expr.Name "has" _) _ _ _) _ _ _); refine ax_call $(Lean.mkIdent `cHas) (Room.mono $(Lean.mkIdent `hr) (by decide)) pas0 ?_)
  | ((with_reducible show Ax _ _ (Expr.Call (Expr.Name "set_of" _) _ _ _) _ _ _); refine ax_call $(Lean.mkIdent `cSetOf) (Room.mono $(Lean.mkIdent `hr) (by decide)) pas0 ?_)
  | ((with_reducible show Ax _ _ (Expr.Call (Expr.Name "members" _) _ _ _) _ _ _); refine ax_call $(Lean.mkIdent `cMembers) (Room.mono $(Lean.mkIdent `hr) (by decide)) pas0 ?_)
  | ((with_reducible show Ax _ _ (Expr.Call (Expr.Name "is_integer" _) _ _ _) _ _ _); refine ax_call $(Lean.mkIdent `cIsInt) (Room.mono $(Lean.mkIdent `hr) (by decide)) pas0 ?_)
  | ((with_reducible show Ax _ _ (Expr.Call (Expr.Attribute _ "bit_length" _) _ _ _) _ _ _); refine ax_bits ?_)
  | ((with_reducible show Ax _ _ (Expr.Call (Expr.Name "isinstance" _) [_, Expr.Name "int" _] _ _) _ _ _); refine ax_isi (u := "int") (Mods.isinstance $(Lean.mkIdent `M)) (Mods.int $(Lean.mkIdent `M)) boot_int ?_)
  | ((with_reducible show Ax _ _ (Expr.Call (Expr.Name "isinstance" _) [_, Expr.Name "bool" _] _ _) _ _ _); refine ax_isi (u := "bool") (Mods.isinstance $(Lean.mkIdent `M)) (Mods.bool $(Lean.mkIdent `M)) boot_bool ?_)
  | ((with_reducible show Ax _ _ (Expr.Call (Expr.Name "isinstance" _) [_, Expr.Name "tuple" _] _ _) _ _ _); refine ax_isi (u := "tuple") (Mods.isinstance $(Lean.mkIdent `M)) (Mods.tuple $(Lean.mkIdent `M)) boot_tuple ?_)
  | ((with_reducible show Ax _ _ (Expr.Call (Expr.Name "isinstance" _) [_, Expr.Tuple [Expr.Name "list" _, Expr.Name "tuple" _] _ _] _ _) _ _ _); refine ax_isi2 (u1 := "list") (u2 := "tuple") (Mods.isinstance $(Lean.mkIdent `M)) (Mods.list $(Lean.mkIdent `M)) (Mods.tuple $(Lean.mkIdent `M)) boot_list boot_tuple ?_)
  | ((with_reducible show ∃ t k, tyD _ = some t ∧ kitB t _ = some k ∧ _); refine ⟨_, _, rfl, by with_reducible (first | exact kit_ii | exact kit_ib | exact kit_tt), ?_⟩)
  | ((with_reducible show S_isInt _ _ _); refine ⟨_, rfl, ?_⟩) | ((with_reducible show S_has _ _ _); refine ⟨_, _, rfl, ?_⟩)
  | ((with_reducible show REq _ _ _ _); refine ⟨_, rfl, ?_⟩) | ((with_reducible show RNe _ _ _ _); refine ⟨_, rfl, ?_⟩) | ((with_reducible show RI _ _ _ _ _); refine ⟨_, _, rfl, rfl, ?_⟩)
  | with_reducible refine ⟨_, _, rfl, rfl, ?_⟩
  | with_reducible refine ⟨_, rfl, ?_⟩
  | ((with_reducible show At _ _ (Expr.Name _ _) _ _ _); refine at_val ?_) | ((with_reducible show At _ _ (Expr.Call _ _ _ _) _ _ _); refine at_val ?_) | ((with_reducible show At _ _ (Expr.Subscript _ _ _) _ _ _); refine at_val ?_))
local macro_rules | `(tactic| walk_at "ev") => `(tactic| repeat walk_at "ev1")
local macro_rules | `(tactic| walk_at "st1") => `(tactic| first
    | ((with_reducible show A1 _ _ (Stmt.Return _ _) _ _ _); refine a1_ret ?_)
    | ((with_reducible show A1 _ _ (Stmt.If _ _ _ _) _ _ _); refine a1_if ?_)
    | ((with_reducible show A1 _ _ (Stmt.Expr _ _) _ _ _); refine a1_drop ?_)
    | ((with_reducible show A1 _ _ (Stmt.Assign [Expr.Name _ _] _ _) _ _ _); refine a1_setU $(Lean.mkIdent `hN) (by walk_at "ix") $(Lean.mkIdent `hnd) ?_)
    | ((with_reducible show A1 _ _ (Stmt.Assign _ _ _) _ _ _); refine a1_asg ?_))
local macro_rules | `(tactic| walk_at "st") => `(tactic| first
  | ((with_reducible show As _ _ [] _ _ _); refine as_nil ?_)
  | (refine as_cons ?_; walk_at "st1"))
local macro_rules | `(tactic| walk_at "newl") => `(tactic| refine as_setU $(Lean.mkIdent `hN) (by walk_at "ix") $(Lean.mkIdent `hnd) (ax_lstC (aa_nil ⟨by decide, ?_⟩)))
local macro_rules | `(tactic| walk_at "for") => `(tactic| (refine as_cons ?_; refine a1_for ?hp ?_ ?hc ?hs; (case hp => exact PassesOwn.never); (case hc => rfl); (case hs => intro _; rfl)))
local macro_rules | `(tactic| walk_at "tgt") => `(tactic| refine ag_nameU $(Lean.mkIdent `hN) (by walk_at "ix") $(Lean.mkIdent `hnd) ?_)
local macro_rules | `(tactic| walk_at "rng") => `(tactic| refine ai_range1 (Mods.range $(Lean.mkIdent `M)) ?_)
local macro_rules | `(tactic| walk_at "while") => `(tactic| (refine as_cons ?_; refine a1_while ?hp ?I ?h0 ?hs; (case hp => exact PassesOwn.never)))
local macro_rules | `(tactic| walk_at "pair") => `(tactic| refine ag_pairU $(Lean.mkIdent `hN) (by walk_at "ix") (by walk_at "ix") $(Lean.mkIdent `hnd) ?hd ?_)
local macro_rules | `(tactic| walk_at "blk") => `(tactic| exact blkOk_by (by decide +kernel))
local macro_rules | `(tactic| walk_at "forX") => `(tactic| (refine as_cons ?_; refine a1_for ?hp ?_ ?hc ?hs; (case hp => exact passes_of rfl); (case hc => rfl); (case hs => intro _; rfl)))
/-! L8: the drawn family -/
theorem mem_membersN (m x : Nat) : decide (x ∈ membersN m) = m.testBit x := by
  rw [Bool.eq_iff_iff, decide_eq_true_iff]
  unfold membersN
  rw [List.mem_filter, List.mem_range]
  constructor
  · exact fun h => h.2
  · refine fun h => ⟨Nat.lt_of_not_le fun hle => ?_, h⟩
    rw [Nat.testBit_lt_two_pow (Nat.lt_of_lt_of_le (intBits_nat m) (Nat.pow_le_pow_right (by omega) hle))] at h
    cases h
theorem sumB_append (l k : List Nat) : sumB (l ++ k) = sumB l + sumB k := by
  unfold sumB
  rw [List.map_append, List.sum_append]
theorem bits_add {n : Nat} (f : Nat → Bool) : bitsOf n f + 2 ^ n = bitsOf n f ||| 2 ^ n := by
  have h := bitsOf_lt n f
  have := Nat.two_pow_add_eq_or_of_lt h 1
  rw [Nat.mul_one] at this
  rw [Nat.add_comm, this, Nat.or_comm]
theorem sumB_filter (p : Nat → Bool) : ∀ n, sumB ((List.range n).filter p) = bitsOf n p
  | 0 => rfl
  | n + 1 => by
    show _ = bitsOf n p ||| (if p n then 2 ^ n else 0)
    by_cases h : p n = true
    · rw [filter_succ_t h, sumB_append, sumB_filter p n, if_pos h, ← bits_add]
      rfl
    · rw [filter_succ_f (by simpa using h), sumB_filter p n, if_neg h, Nat.or_zero]
theorem bits_and3 {a b : Nat} (ha : a < 8) (hb : b < 8) : bitsOf 3 (fun x => a.testBit x && b.testBit x) = a &&& b := bitsOf_eq fun y => by
  rw [Nat.testBit_and]
  by_cases hy : y < 3
  · rw [decide_eq_true hy, Bool.true_and]
  · rw [Nat.testBit_lt_two_pow (Nat.lt_of_lt_of_le ha (show 2 ^ 3 ≤ 2 ^ y from Nat.pow_le_pow_right (by omega) (by omega))), Bool.false_and, Bool.and_false]
theorem bits_or3 {a b : Nat} (ha : a < 8) (hb : b < 8) : bitsOf 3 (fun x => a.testBit x || b.testBit x) = a ||| b := bitsOf_eq fun y => by
  rw [Nat.testBit_or]
  by_cases hy : y < 3
  · rw [decide_eq_true hy, Bool.true_and]
  · have h8 : 8 ≤ 2 ^ y := show 2 ^ 3 ≤ 2 ^ y from Nat.pow_le_pow_right (by omega) (by omega)
    rw [Nat.testBit_lt_two_pow (Nat.lt_of_lt_of_le ha h8), Nat.testBit_lt_two_pow (Nat.lt_of_lt_of_le hb h8), decide_eq_false hy]
    rfl
/-- how many of the numbers before n are in L -/
def dc (L : List Nat) (n : Nat) : Nat := ((List.range n).filter fun x => decide (x ∈ L)).length
theorem dc_le (L : List Nat) (n : Nat) : dc L n ≤ n := by
  have h := List.length_filter_le (fun x => decide (x ∈ L)) (List.range n)
  rw [List.length_range] at h
  exact h
theorem dc_push {L : List Nat} {x : Nat} (hx : x ∉ L) : ∀ n, dc (L ++ [x]) n = dc L n + if x < n then 1 else 0
  | 0 => by rw [if_neg (by omega)]; rfl
  | n + 1 => by
    have ih := dc_push hx n
    unfold dc at ih ⊢
    by_cases h : n = x
    · subst h
      rw [filter_succ_t (decide_eq_true (List.mem_append_right _ (List.mem_singleton.mpr rfl))), filter_succ_f (decide_eq_false hx), List.length_append, ih, if_neg (by omega), if_pos (by omega)]
      rfl
    · have e : decide (n ∈ L ++ [x]) = decide (n ∈ L) := by
        rw [Bool.eq_iff_iff, decide_eq_true_iff, decide_eq_true_iff, List.mem_append, List.mem_singleton]
        exact ⟨fun q => q.resolve_right h, .inl⟩
      have e2 : (if x < n + 1 then 1 else 0) = if x < n then 1 else 0 := by
        by_cases q : x < n
        · rw [if_pos q, if_pos (by omega)]
        · rw [if_neg q, if_neg (by omega)]
      rw [e2]
      by_cases h2 : n ∈ L
      · rw [filter_succ_t (by rw [e]; exact decide_eq_true h2), filter_succ_t (decide_eq_true h2), List.length_append, List.length_append, ih]
        show _ + 1 = _ + 1 + _
        omega
      · rw [filter_succ_f (by rw [e]; exact decide_eq_false h2), filter_succ_f (decide_eq_false h2), ih]
theorem dc_pos {L : List Nat} {x n : Nat} (hx : x ∈ L) (hn : x < n) : 0 < dc L n := List.length_pos_of_mem (List.mem_filter.mpr ⟨List.mem_range.mpr hn, decide_eq_true hx⟩)
structure FamI (L : List Nat) : Prop where
  lt : ∀ x ∈ L, x < 8
  ne : L ≠ []
  len : L.length ≤ 2 + dc L 8
theorem FamI.le {L : List Nat} (h : FamI L) : L.length ≤ 10 := by
  have := dc_le L 8
  have := h.len
  omega
theorem FamI.push {L : List Nat} {x : Nat} (h : FamI L) (hx : x < 8) (hn : x ∉ L) : FamI (L ++ [x]) :=
  ⟨fun y hy => by
    rcases List.mem_append.mp hy with q | q
    · exact h.lt y q
    · obtain rfl := List.mem_singleton.mp q
      exact hx, by simp, by
    rw [dc_push hn, if_pos hx, List.length_append]
    have := h.len
    show L.length + 1 ≤ _
    omega⟩
/-- closed under both operations -/
def ClosedF (L : List Nat) : Prop := ∀ x y, x ∈ L → y ∈ L → (x &&& y) ∈ L ∧ (x ||| y) ∈ L
def BothIn (x y : Nat) (L : List Nat) : Prop := (x &&& y) ∈ L ∧ (x ||| y) ∈ L
theorem BothIn.up {x y : Nat} {L L' : List Nat} (h : BothIn x y L) (p : L <+: L') : BothIn x y L' := ⟨p.subset h.1, p.subset h.2⟩
section
variable {P : Program} {w : World} {K : PySem.W.Frag} {mg : Str → Option Value} {base : Heap} {CR : Addr}
abbrev sFam : Stmt := topS 35
abbrev nFam : List Str := ["_law_state_here", "_law_sets", "_law_k", "_law_going", "_law_before", "_law_a", "_law_b", "_law_one", "_law_x", "_law_two", "_law_item", "_law_found"]
theorem scFam : FnScope nFam ["_law_state_here"] (defScope sFam) := ⟨rfl, rfl, rfl, by decide +kernel, rfl, by decide +kernel, by decide +kernel⟩
def S_fam : Sd := fun ds cs P _ => ∃ (a : Addr) (s t : Int), ds = [.cell a] ∧ StOk s t ∧ cs = [stC a s t] ∧ ∀ (l : List Nat) s' t', l.Nodup → l ≠ [] → (∀ x ∈ l, x < 8) → ClosedF l → StOk s' t' → P (.lst (l.map natD)) [stC a s' t']
theorem ok_fam {f : Addr} {fd : FuncData} (F : Fun K "_law_family" "_law_family" sFam f fd) (M : Mods mg) (cTake : Fo P w K mg base CX0 CR 1 "_law_take" S_take) (cBits : Fo P w K mg base CX0 CR 2 "_law_bits" (pureS S_bits)) (cPts : Fo P w K mg base CX0 CR 1 "_law_points" (pureS S_points)) :
    FnOk P w K mg base CX0 3 f fd ["_law_state_here"] (spOf K CR S_fam) := by
  refine def_ok F scFam (fun ds cs Pd R ⟨_, _, _, h, _⟩ => by rw [h]; rfl) fun cdv A outer s F H E ds cs Pd R hr ⟨a, s0, t0, hd, hst, hcs, kont⟩ => ?_
  subst hcs
  subst hd
  have hnd := scFam.nd
  have hN := cx_N CX0 P w K mg base nFam "_law_family" (defScope sFam) f cdv A outer s H E
  refine as_cons (a1_setLc 1 2 (by rw [hN]; exact hnd) (by rw [hN]; rfl) (by rw [hN]; exact blkOk_by (sc := defScope sFam) (by decide +kernel)) (by rw [hN]; rfl) (ai_range1 M.range ?_) (sw_true rfl rfl rfl rfl) rfl)
  walk_at "ev"
  refine ax_callN 0 cTake (Room.mono hr (by decide)) pas0 ?_
  walk_at "ev"
  refine ⟨a, 3, s0, t0, rfl, by decide, by decide, hst, rfl, fun v s1 t1 hv hst1 => ?_⟩
  walk_at "ev"
  refine ⟨by show 1 + v ≤ 100000; omega, by show 1 + v ≤ 90000; omega, fun i acc cs2 => ∃ (L : List Nat) (s t : Int), acc = L.map natD ∧ (∀ x ∈ L, x < 8) ∧ L.length = i ∧ StOk s t ∧ cs2 = [stC a s t], ⟨[], s1, t1, rfl, fun x h => by simp at h, rfl, hst1, rfl⟩, ?_, ?_⟩
  · rintro i d acc cs2 D hi ⟨L, s2, t2, rfl, hL, hLl, hst2, rfl⟩
    intro s0 H0 C cl fp
    refine ats_nil ⟨fun _ s1 H1 C1 cl1 fp1 => ?_, fun h => (nomatch h)⟩
    refine ax_callN 1 cTake (Room.mono hr (by decide)) pas0 ?_
    walk_at "ev"
    refine ⟨a, 8, s2, t2, rfl, by decide, by decide, hst2, rfl, fun u s3 t3 hu hst3 => ⟨[stC a s3 t3], rfl, L ++ [u], s3, t3, by rw [List.map_append]; rfl, fun x hx => ?_, by rw [List.length_append, hLl]; rfl, hst3, rfl⟩⟩
    rcases List.mem_append.mp hx with q | q
    · exact hL x q
    · obtain rfl := List.mem_singleton.mp q
      exact hu
  rintro acc cs2 q ⟨L0, s2, t2, rfl, hL0, hL0l, hst2, rfl⟩
  have hL0l : L0.length = 1 + v := hL0l
  have hF0 : FamI L0 := by
    obtain ⟨x, hx⟩ : ∃ x, x ∈ L0 := List.exists_mem_of_length_pos (by omega)
    refine ⟨hL0, fun e => by rw [e] at hx; simp at hx, ?_⟩
    have := dc_pos hx (hL0 x hx)
    omega
  walk_at "st"
  walk_at "ev"
  refine as_cons (a1_while PassesOwn.never (fun m ρ cs => ∃ (L : List Nat) (s t : Int) (g : Bool), FamI L ∧ m = (if g then 12 - L.length else 0) ∧ (g = false → ClosedF L) ∧ StOk s t ∧ cs = [(q, .l (L.map natD)), stC a s t] ∧ ∃ z2 z4 z5 z6 z7 z8 z9 z10 z11, ρ = [some (.cell a), some (.cell q), z2, some (.bl g), z4, z5, z6, z7, z8, z9, z10, z11])
    ⟨_, L0, s2, t2, true, hF0, rfl, fun h => (nomatch h), hst2, rfl, _, _, _, _, _, _, _, _, _, rfl⟩ ?_)
  rintro m ρ' cs' ⟨L, s3, t3, g, hFL, rfl, hcl, hst3, rfl, z2, z4, z5, z6, z7, z8, z9, z10, z11, rfl⟩
  walk_at "ev"
  refine ⟨fun hg => ?_, fun hg => ?_⟩
  · subst hg
    have hLle := hFL.le
    walk_at "st"
    walk_at "ev"
    refine ⟨_, .inr (.inr ⟨0, q, rfl, rfl⟩), ?_⟩
    rw [List.length_map]
    walk_at "for"
    refine ai_seq (ax_list M.list ?_)
    walk_at "ev"
    refine ⟨_, .inr (.inr ⟨0, q, rfl, rfl⟩), _, .inl rfl, fun i ρ cs => (∃ L1 : List Nat, L <+: L1 ∧ FamI L1 ∧ (∀ x y, x ∈ L.take i → y ∈ L → BothIn x y L1) ∧ cs = [(q, .l (L1.map natD)), stC a s3 t3]) ∧ ∃ z5 z6 z7 z8 z9 z10, ρ = [some (.cell a), some (.cell q), z2, some (.bl true), some (natD L.length), z5, z6, z7, z8, z9, z10, z11],
      ⟨⟨L, List.prefix_refl _, hFL, fun x y h => by simp at h, rfl⟩, _, _, _, _, _, _, rfl⟩, ?_, ?_⟩
    · rintro i e ρ' cs' hi ⟨⟨L1, hpre, hF1, hB1, rfl⟩, z5, z6, z7, z8, z9, z10, rfl⟩
      obtain ⟨x, hx, rfl⟩ := item_map hi
      have hx8 := hFL.lt x (List.mem_of_getElem? hx)
      walk_at "tgt"
      walk_at "for"
      refine ai_seq (ax_list M.list ?_)
      walk_at "ev"
      refine ⟨_, .inr (.inr ⟨0, q, rfl, rfl⟩), _, .inl rfl, fun j ρ cs => (∃ L2 : List Nat, L1 <+: L2 ∧ FamI L2 ∧ (∀ y, y ∈ L1.take j → BothIn x y L2) ∧ cs = [(q, .l (L2.map natD)), stC a s3 t3]) ∧ ∃ z6 z7 z8 z9 z10, ρ = [some (.cell a), some (.cell q), z2, some (.bl true), some (natD L.length), some (natD x), z6, z7, z8, z9, z10, z11],
        ⟨⟨L1, List.prefix_refl _, hF1, fun y h => by simp at h, rfl⟩, _, _, _, _, _, rfl⟩, ?_, ?_⟩
      · rintro j e ρ' cs' hj ⟨⟨L2, hpre2, hF2, hB2, rfl⟩, z6, z7, z8, z9, z10, rfl⟩
        obtain ⟨y, hy, rfl⟩ := item_map hj
        have hy8 := hF1.lt y (List.mem_of_getElem? hy)
        have h900 : ∀ z : Nat, z < 8 → z < 2 ^ 900 := fun z hz => Nat.lt_of_lt_of_le hz (show 2 ^ 3 ≤ 2 ^ 900 from Nat.pow_le_pow_right (by omega) (by omega))
        walk_at "tgt"
        refine as_setU hN (by walk_at "ix") hnd (ax_call cBits (Room.mono hr (by decide)) pas0 ?_)
        refine aa_cons (ax_lcQ hN (by walk_at "ix") hnd (blkOk_by (sc := defScope sFam) (by decide +kernel)) rfl (ai_range1 M.range ?_))
        walk_at "ev"
        refine ⟨by show 3 ≤ 100000; decide, by show 3 ≤ 90000; decide, ⟨1, rfl⟩, fun k => if x.testBit k && y.testBit k then some (natD k) else none, fun k d hk => ?_, ?_⟩
        · obtain ⟨hk1, rfl⟩ := rng_item hk
          intro s0 H0 C cl fp D acc
          refine ats_one (at_and (at_cmpR (cmp_in rfl) ?_))
          walk_at "ev"
          refine ax_call cPts (Room.mono hr (by decide)) pas0 ?_
          walk_at "ev"
          refine ⟨x, rfl, h900 x hx8, _, (membersN x).map intN, rfl, .inl (by rw [nat_ints]), ?_⟩
          rw [if_neg Bool.false_ne_true, mem_ints, mem_membersN]
          refine ⟨fun h1 => ?_, fun h1 => ⟨rfl, fun h => (nomatch h), fun _ => if_neg (by rw [h1]; exact Bool.false_ne_true)⟩⟩
          refine at_one (at_cmpR (cmp_in rfl) ?_)
          walk_at "ev"
          refine ax_call cPts (Room.mono hr (by decide)) pas0 ?_
          walk_at "ev"
          refine ⟨y, rfl, h900 y hy8, _, (membersN y).map intN, rfl, .inl (by rw [nat_ints]), ?_⟩
          rw [if_neg Bool.false_ne_true, mem_ints, mem_membersN]
          refine ⟨rfl, fun hk _ _ _ _ _ => ?_, fun hk => if_neg (by rw [h1, hk]; exact Bool.false_ne_true)⟩
          walk_at "ev"
          exact ⟨rfl, if_pos (by rw [h1, hk]; rfl)⟩
        have e1 : (List.range (Src.len (.rng 0 3))).filterMap (fun k => if x.testBit k && y.testBit k then some (natD k) else none) = ((List.range 3).filter fun k => x.testBit k && y.testBit k).map natD := fm_filter 3 (fun k => x.testBit k && y.testBit k) natD
        rw [e1]
        walk_at "ev"
        refine ⟨_, rfl, fun k hk => ?_, ?_⟩
        · have := List.mem_range.mp (List.mem_filter.mp hk).1
          omega
        rw [sumB_filter, bits_and3 hx8 hy8]
        refine as_setU hN (by walk_at "ix") hnd (ax_call cBits (Room.mono hr (by decide)) pas0 ?_)
        refine aa_cons (ax_lcQ hN (by walk_at "ix") hnd (blkOk_by (sc := defScope sFam) (by decide +kernel)) rfl (ai_range1 M.range ?_))
        walk_at "ev"
        refine ⟨by show 3 ≤ 100000; decide, by show 3 ≤ 90000; decide, ⟨1, rfl⟩, fun k => if x.testBit k || y.testBit k then some (natD k) else none, fun k d hk => ?_, ?_⟩
        · obtain ⟨hk1, rfl⟩ := rng_item hk
          intro s0 H0 C cl fp D acc
          refine ats_one (at_or (at_cmpR (cmp_in rfl) ?_))
          walk_at "ev"
          refine ax_call cPts (Room.mono hr (by decide)) pas0 ?_
          walk_at "ev"
          refine ⟨x, rfl, h900 x hx8, _, (membersN x).map intN, rfl, .inl (by rw [nat_ints]), ?_⟩
          rw [if_neg Bool.false_ne_true, mem_ints, mem_membersN]
          refine ⟨fun h1 => ⟨rfl, fun _ _ _ _ _ _ => ?_, fun h => (nomatch h)⟩, fun h1 => ?_⟩
          · walk_at "ev"
            exact ⟨rfl, if_pos (by rw [h1]; rfl)⟩
          refine at_one (at_cmpR (cmp_in rfl) ?_)
          walk_at "ev"
          refine ax_call cPts (Room.mono hr (by decide)) pas0 ?_
          walk_at "ev"
          refine ⟨y, rfl, h900 y hy8, _, (membersN y).map intN, rfl, .inl (by rw [nat_ints]), ?_⟩
          rw [if_neg Bool.false_ne_true, mem_ints, mem_membersN]
          refine ⟨rfl, fun hk _ _ _ _ _ => ?_, fun hk => if_neg (by rw [h1, hk]; exact Bool.false_ne_true)⟩
          walk_at "ev"
          exact ⟨rfl, if_pos (by rw [h1, hk]; rfl)⟩
        have e2 : (List.range (Src.len (.rng 0 3))).filterMap (fun k => if x.testBit k || y.testBit k then some (natD k) else none) = ((List.range 3).filter fun k => x.testBit k || y.testBit k).map natD := fm_filter 3 (fun k => x.testBit k || y.testBit k) natD
        rw [e2]
        walk_at "ev"
        refine ⟨_, rfl, fun k hk => ?_, ?_⟩
        · have := List.mem_range.mp (List.mem_filter.mp hk).1
          omega
        rw [sumB_filter, bits_or3 hx8 hy8]
        have c1 : (x &&& y) < 8 := Nat.lt_of_le_of_lt Nat.and_le_left hx8
        have c2 : (x ||| y) < 8 := Nat.or_lt_two_pow (n := 3) hx8 hy8
        generalize hc1 : (x &&& y) = u1 at *
        generalize hc2 : (x ||| y) = u2 at *
        walk_at "for"
        refine ai_seq ?_
        walk_at "ev"
        refine ⟨by show 2 ≤ 1000; decide, _, .inr (.inl rfl), fun k ρ cs => (∃ L3 : List Nat, L2 <+: L3 ∧ FamI L3 ∧ (∀ z, z ∈ [u1, u2].take k → z ∈ L3) ∧ cs = [(q, .l (L3.map natD)), stC a s3 t3]) ∧ ∃ z8 z10, ρ = [some (.cell a), some (.cell q), z2, some (.bl true), some (natD L.length), some (natD x), some (natD y), some (natD u1), z8, some (natD u2), z10, z11],
          ⟨⟨L2, List.prefix_refl _, hF2, fun z h => by simp at h, rfl⟩, _, _, rfl⟩, ?_, ?_⟩
        · rintro k e ρ' cs' hk ⟨⟨L3, hpre3, hF3, hB3, rfl⟩, z8, z10, rfl⟩
          have hk : (Src.seq ([u1, u2].map natD)).item k = some e := hk
          obtain ⟨z, hz, rfl⟩ := item_map hk
          have hz8 : z < 8 := by
            have := List.mem_of_getElem? hz
            simp at this
            rcases this with rfl | rfl
            · exact c1
            · exact c2
          walk_at "tgt"
          walk_at "st"
          refine at_cmpR (cmp_nin rfl) ?_
          walk_at "ev"
          refine ⟨_, L3.map intN, rfl, .inr (.inr ⟨0, q, rfl, by rw [← nat_ints]; rfl⟩), ?_⟩
          rw [if_pos rfl, mem_ints]
          refine ⟨fun h1 => ?_, fun h1 => ?_⟩
          · have hzn : z ∉ L3 := by simpa using h1
            have := hF3.le
            walk_at "st"
            refine ax_append ?_
            walk_at "ev"
            refine ⟨⟨0, _, rfl⟩, ?_⟩
            walk_at "ev"
            refine ⟨0, _, rfl, by rw [List.length_map]; omega, ?_⟩
            walk_at "st"
            walk_at "st"
            refine ⟨⟨L3 ++ [z], hpre3.trans (List.prefix_append _ _), hF3.push hz8 hzn, fun y' hy' => ?_, by rw [List.map_append]; rfl⟩, _, _, rfl⟩
            rw [take_snoc hz] at hy'
            rcases List.mem_append.mp hy' with h | h
            · exact List.mem_append_left _ (hB3 y' h)
            · exact List.mem_append_right _ h
          · have hzi : z ∈ L3 := by simpa using h1
            walk_at "st"
            walk_at "st"
            refine ⟨⟨L3, hpre3, hF3, fun y' hy' => ?_, rfl⟩, _, _, rfl⟩
            rw [take_snoc hz] at hy'
            rcases List.mem_append.mp hy' with h | h
            · exact hB3 y' h
            · obtain rfl := List.mem_singleton.mp h
              exact hzi
        · rintro ρ' cs' ⟨⟨L3, hpre3, hF3, hB3, rfl⟩, z8, z10, rfl⟩
          have hB3 : ∀ z, z ∈ [u1, u2] → z ∈ L3 := hB3
          walk_at "st"
          refine ⟨⟨L3, hpre2.trans hpre3, hF3, fun y' hy' => ?_, rfl⟩, _, _, _, _, _, rfl⟩
          rw [take_snoc hy] at hy'
          rcases List.mem_append.mp hy' with h | h
          · exact (hB2 y' h).up hpre3
          · obtain rfl := List.mem_singleton.mp h
            exact ⟨by rw [hc1]; exact hB3 u1 (by simp), by rw [hc2]; exact hB3 u2 (by simp)⟩
      · rintro ρ' cs' ⟨⟨L2, hpre2, hF2, hB2, rfl⟩, z6, z7, z8, z9, z10, rfl⟩
        have e1 : L1.take (Src.len (.seq (L1.map natD))) = L1 := by
          show L1.take (L1.map natD).length = L1
          rw [List.length_map, List.take_length]
        rw [e1] at hB2
        walk_at "st"
        refine ⟨⟨L2, hpre.trans hpre2, hF2, fun x' y' hx' hy' => ?_, rfl⟩, _, _, _, _, _, _, rfl⟩
        rw [take_snoc hx] at hx'
        rcases List.mem_append.mp hx' with h | h
        · exact (hB1 x' y' h hy').up hpre2
        · obtain rfl := List.mem_singleton.mp h
          exact hB2 y' (hpre.subset hy')
    · rintro ρ' cs' ⟨⟨L1, hpre, hF1, hB1, rfl⟩, z5, z6, z7, z8, z9, z10, rfl⟩
      have e1 : L.take (Src.len (.seq (L.map natD))) = L := by
        show L.take (L.map natD).length = L
        rw [List.length_map, List.take_length]
      rw [e1] at hB1
      have hle1 := hF1.le
      walk_at "st"
      walk_at "ev"
      refine ⟨_, .inr (.inr ⟨0, q, rfl, rfl⟩), ?_⟩
      rw [List.length_map]
      walk_at "ev"
      walk_at "st"
      refine ⟨_, ?_, L1, s3, t3, _, hF1, rfl, fun hf => ?_, hst3, rfl, _, _, _, _, _, _, _, _, _, rfl⟩
      · rw [if_pos rfl]
        show (if decide (((L.length : Nat) : Int) < (L1.length : Int)) = true then 12 - L1.length else 0) < 12 - L.length
        by_cases h : ((L.length : Nat) : Int) < (L1.length : Int)
        · rw [decide_eq_true h, if_pos rfl]
          omega
        · rw [decide_eq_false h, if_neg Bool.false_ne_true]
          omega
      · have h1 : ¬ ((L.length : Nat) : Int) < (L1.length : Int) := of_decide_eq_false hf
        have h2 : L = L1 := hpre.eq_of_length (by have := hpre.length_le; omega)
        intro x y hx hy
        rw [← h2] at hx hy
        exact hB1 x y hx hy
  · subst hg
    have hcl := hcl rfl
    have hle := hFL.le
    refine as_freeze 1 0 rfl rfl ⟨1, by decide, rfl⟩ ?_
    walk_at "newl"
    intro r
    walk_at "for"
    refine ai_seq ?_
    walk_at "ev"
    refine ⟨_, .inl rfl, fun i ρ cs => (∃ N : List Nat, N.Nodup ∧ (∀ x, x ∈ N ↔ x ∈ L.take i) ∧ N.length ≤ i ∧ cs = [(r, .l (N.map natD)), stC a s3 t3]) ∧ ∃ z2 z4 z5 z6 z7 z8 z9 z10, ρ = [some (.cell a), some (.lst (L.map natD)), z2, some (.bl false), z4, z5, z6, z7, z8, z9, z10, some (.cell r)],
      ⟨⟨[], List.nodup_nil, fun x => by simp, Nat.le_refl _, rfl⟩, _, _, _, _, _, _, _, _, rfl⟩, ?_, ?_⟩
    · rintro i e ρ' cs' hi ⟨⟨N, hNd, hNm, hNl, rfl⟩, z2, z4, z5, z6, z7, z8, z9, z10, rfl⟩
      obtain ⟨x, hx, rfl⟩ := item_map hi
      have hil := (List.getElem?_eq_some_iff.mp hx).1
      walk_at "tgt"
      walk_at "st"
      refine at_cmpR (cmp_nin rfl) ?_
      walk_at "ev"
      refine ⟨_, N.map intN, rfl, .inr (.inr ⟨0, r, rfl, by rw [← nat_ints]; rfl⟩), ?_⟩
      rw [if_pos rfl, mem_ints]
      refine ⟨fun h1 => ?_, fun h1 => ?_⟩
      · have hxn : x ∉ N := by simpa using h1
        walk_at "st"
        refine ax_append ?_
        walk_at "ev"
        refine ⟨⟨0, _, rfl⟩, ?_⟩
        walk_at "ev"
        refine ⟨0, _, rfl, by rw [List.length_map]; omega, ?_⟩
        walk_at "st"
        walk_at "st"
        refine ⟨⟨N ++ [x], List.nodup_append.mpr ⟨hNd, List.pairwise_singleton _ _, fun a ha b hb e => ?_⟩, fun y => ?_, by rw [List.length_append]; show N.length + 1 ≤ _; omega, by rw [List.map_append]; rfl⟩, _, _, _, _, _, _, _, _, rfl⟩
        · obtain rfl := List.mem_singleton.mp hb
          exact hxn (e ▸ ha)
        · rw [take_snoc hx, List.mem_append, List.mem_append, hNm]
      · have hxi : x ∈ N := by simpa using h1
        walk_at "st"
        walk_at "st"
        refine ⟨⟨N, hNd, fun y => ?_, by omega, rfl⟩, _, _, _, _, _, _, _, _, rfl⟩
        rw [take_snoc hx, List.mem_append, List.mem_singleton, hNm]
        refine ⟨.inl, fun h => h.elim id fun h => ?_⟩
        rw [h]
        exact (hNm x).mp hxi
    rintro ρ' cs' ⟨⟨N, hNd, hNm, hNl, rfl⟩, z2, z4, z5, z6, z7, z8, z9, z10, rfl⟩
    have e1 : L.take (Src.len (.seq (L.map natD))) = L := by
      show L.take (L.map natD).length = L
      rw [List.length_map, List.take_length]
    rw [e1] at hNm
    refine as_freeze 11 0 rfl rfl ⟨1, by decide, rfl⟩ ?_
    walk_at "st"
    walk_at "ev"
    refine kont N s3 t3 hNd (fun e => ?_) (fun x hx => hFL.lt x ((hNm x).mp hx)) (fun x y hx hy => ?_) hst3
    · obtain ⟨x, hx⟩ := List.exists_mem_of_ne_nil _ hFL.ne
      rw [e] at hNm
      exact absurd ((hNm x).mpr hx) (by simp)
    · have := hcl x y ((hNm x).mp hx) ((hNm y).mp hy)
      exact ⟨(hNm _).mpr this.1, (hNm _).mpr this.2⟩
end

end G
namespace G
open PySem PySem.Spec PyProof.Rows L2 Evl
local macro_rules | `(tactic| walk_at "ix") => `(tactic| with_reducible (first
  | exact AtN.z | exact AtN.s AtN.z | exact AtN.s (AtN.s AtN.z) | exact AtN.s (AtN.s (AtN.s AtN.z)) | exact AtN.s (AtN.s (AtN.s (AtN.s AtN.z)))
  | exact AtN.s (AtN.s (AtN.s (AtN.s (AtN.s AtN.z)))) | exact AtN.s (AtN.s (AtN.s (AtN.s (AtN.s (AtN.s AtN.z))))) | exact AtN.s (AtN.s (AtN.s (AtN.s (AtN.s (AtN.s (AtN.s AtN.z))))))
  | exact AtN.s (AtN.s (AtN.s (AtN.s (AtN.s (AtN.s (AtN.s (AtN.s AtN.z))))))) | exact AtN.s (AtN.s (AtN.s (AtN.s (AtN.s (AtN.s (AtN.s (AtN.s (AtN.s AtN.z)))))))) | exact AtN.s (AtN.s (AtN.s (AtN.s (AtN.s (AtN.s (AtN.s (AtN.s (AtN.s (AtN.s AtN.z)))))))))
  | exact AtN.s (AtN.s (AtN.s (AtN.s (AtN.s (AtN.s (AtN.s (AtN.s (AtN.s (AtN.s (AtN.s AtN.z))))))))))
  | exact AtN.s (AtN.s (AtN.s (AtN.s (AtN.s (AtN.s (AtN.s (AtN.s (AtN.s (AtN.s (AtN.s (AtN.s AtN.z)))))))))))
  | exact AtN.s (AtN.s (AtN.s (AtN.s (AtN.s (AtN.s (AtN.s (AtN.s (AtN.s (AtN.s (AtN.s (AtN.s (AtN.s AtN.z))))))))))))
  | exact AtN.s (AtN.s (AtN.s (AtN.s (AtN.s (AtN.s (AtN.s (AtN.s (AtN.s (AtN.s (AtN.s (AtN.s (AtN.s (AtN.s AtN.z)))))))))))))
  | exact AtN.s (AtN.s (AtN.s (AtN.s (AtN.s (AtN.s (AtN.s (AtN.s (AtN.s (AtN.s (AtN.s (AtN.s (AtN.s (AtN.s (AtN.s AtN.z))))))))))))))))
local macro_rules | `(tactic| walk_at "ev1") => `(tactic| first
  | with_reducible refine ax_int ?_ | with_reducible refine ax_bl ?_ | with_reducible refine ax_non ?_ | with_reducible refine ax_str ?_
  | ((with_reducible show Ax _ _ (Expr.Name _ _) _ _ _); refine ax_u $(Lean.mkIdent `hN) (by walk_at "ix") rfl ?_)
  | ((with_reducible show Ax _ _ (Expr.Compare _ _ _ _) _ _ _); first | (with_reducible refine ax_cmpR cmp_lt ?_) | (with_reducible refine ax_cmpR cmp_le ?_) | (with_reducible refine ax_cmpR cmp_gt ?_) | (with_reducible refine ax_cmpR cmp_ge ?_) | (with_reducible refine ax_cmpR cmp_eq ?_) | (with_reducible refine ax_cmpR cmp_ne ?_) | (with_reducible refine ax_cmpR cmp_is ?_) | (with_reducible refine ax_cmpR cmp_isN ?_))
  | ((with_reducible show At _ _ (Expr.Compare _ _ _ _) _ _ _); first | (with_reducible refine at_cmpR cmp_lt ?_) | (with_reducible refine at_cmpR cmp_le ?_) | (with_reducible refine at_cmpR cmp_gt ?_) | (with_reducible refine at_cmpR cmp_ge ?_) | (with_reducible refine at_cmpR cmp_eq ?_) | (with_reducible refine at_cmpR cmp_ne ?_) | (with_reducible refine at_cmpR cmp_is ?_) | (with_reducible refine at_cmpR cmp_isN ?_))
  | with_reducible refine ax_add ?_ | with_reducible refine ax_sub ?_ | with_reducible refine ax_mul ?_ | with_reducible refine ax_fdiv ?_ | with_reducible refine ax_mod ?_ | with_reducible refine ax_shl ?_ | with_reducible refine ax_shr ?_ | with_reducible refine ax_and ?_ | with_reducible refine ax_or ?_ | with_reducible refine ax_neg ?_
  | with_reducible refine ax_one ?_ | with_reducible refine ax_andv ?_ | with_reducible refine ax_orv ?_ | with_reducible refine ax_notv ?_ | with_reducible refine at_one ?_ | with_reducible refine at_and ?_ | with_reducible refine at_or ?_ | with_reducible refine at_not ?_ | with_reducible refine ax_if ?_
  | ((with_reducible show Ax _ _ (Expr.Subscript _ _ _) _ _ _); refine ax_ix ?_) | with_reducible refine ax_tup ?_ | ((with_reducible show Aa _ _ (_ :: _) _ _ _); refine aa_cons ?_) | with_reducible refine aa_nil ?_
  | ((with_reducible show Ax _ _ (Expr.Call (Expr.Name "len" _) _ _ _) _ _ _); refine ax_len (Mods.len $(Lean.mkIdent `M)) ?_)
  | ((with_reducible show Ax _ _ (Expr.Call (Expr.Name "int" _) _ _ _) _ _ _); refine ax_int1 (Mods.int $(Lean.mkIdent `M)) ?_)
  | ((with_reducible show Ax _ _ (Expr.Call (Expr.Name "abs" _) _ _ _) _ _ _); refine ax_abs (Mods.abs $(Lean.mkIdent `M)) ?_)
  | ((with_reducible show Ax _ _ (Expr.Call (Expr.Name "tuple" _) _ _ _) _ _ _); refine ax_tuple (Mods.tuple $(Lean.mkIdent `M)) ?_)
  | ((with_reducible show Ax _ _ (Expr.Call (Expr.Name "has" _) _ _ _) _ _ _); refine ax_call $(Lean.mkIdent `cHas) (Room.mono $(Lean.mkIdent `hr) (by decide)) pas0 ?_)
  | ((with_reducible show Ax _ _ (Expr.Call (Expr.Name "set_of" _) _ _ _) _ _ _); refine ax_call $(Lean.mkIdent `cSetOf) (Room.mono $(Lean.mkIdent `hr) (by decide)) pas0 ?_)
  | ((with_reducible show Ax _ _ (Expr.Call (Expr.Name "members" _) _ _ _) _ _ _); refine ax_call $(Lean.mkIdent `cMembers) (Room.mono $(Lean.mkIdent `hr) (by decide)) pas0 ?_)
  | ((with_reducible show Ax _ _ (Expr.Call (Expr.Name "is_integer" _) _ _ _) _ _ _); refine ax_call $(Lean.mkIdent `cIsInt) (Room.mono $(Lean.mkIdent `hr) (by decide)) pas0 ?_)
  | ((with_reducible show Ax _ _ (Expr.Call (Expr.Attribute _ "bit_length" _) _ _ _) _ _ _); refine ax_bits ?_)
  | ((with_reducible show Ax _ _ (Expr.Call (Expr.Name "isinstance" _) [_, Expr.Name "int" _] _ _) _ _ _); refine ax_isi (u := "int") (Mods.isinstance $(Lean.mkIdent `M)) (Mods.int $(Lean.mkIdent `M)) boot_int ?_)
  | ((with_reducible show Ax _ _ (Expr.Call (Expr.Name "isinstance" _) [_, Expr.Name "bool" _] _ _) _ _ _); refine ax_isi (u := "bool") (Mods.isinstance $(Lean.mkIdent `M)) (Mods.bool $(Lean.mkIdent `M)) boot_bool ?_)
  | ((with_reducible show Ax _ _ (Expr.Call (Expr.Name "isinstance" _) [_, Expr.Name "tuple" _] _ _) _ _ _); refine ax_isi (u := "tuple") (Mods.isinstance $(Lean.mkIdent `M)) (Mods.tuple $(Lean.mkIdent `M)) boot_tuple ?_)
  | ((with_reducible show Ax _ _ (Expr.Call (Expr.Name "isinstance" _) [_, Expr.Tuple [Expr.Name "list" _, Expr.Name "tuple" _] _ _] _ _) _ _ _); refine ax_isi2 (u1 := "list") (u2 := "tuple") (Mods.isinstance $(Lean.mkIdent `M)) (Mods.list $(Lean.mkIdent `M)) (Mods.tuple $(Lean.mkIdent `M)) boot_list boot_tuple ?_)
  | ((with_reducible show ∃ t k, tyD _ = some t ∧ kitB t _ = some k ∧ _); refine ⟨_, _, rfl, by with_reducible (first | exact kit_ii | exact kit_ib | exact kit_tt), ?_⟩)
  | ((with_reducible show S_isInt _ _ _); refine ⟨_, rfl, ?_⟩) | ((with_reducible show S_has _ _ _); refine ⟨_, _, rfl, ?_⟩)
  | ((with_reducible show REq _ _ _ _); refine ⟨_, rfl, ?_⟩) | ((with_reducible show RNe _ _ _ _); refine ⟨_, rfl, ?_⟩) | ((with_reducible show RI _ _ _ _ _); refine ⟨_, _, rfl, rfl, ?_⟩)
  | with_reducible refine ⟨_, _, rfl, rfl, ?_⟩
  | with_reducible refine ⟨_, rfl, ?_⟩
  | ((with_reducible show At _ _ (Expr.Name _ _) _ _ _); refine at_val ?_) | ((with_reducible show At _ _ (Expr.Call _ _ _ _) _ _ _); refine at_val ?_) | ((with_reducible show At _ _ (Expr.Subscript _ _ _) _ _ _); refine at_val ?_))
local macro_rules | `(tactic| walk_at "ev") => `(tactic| repeat walk_at "ev1")
local macro_rules | `(tactic| walk_at "st1") => `(tactic| first
    | ((with_reducible show A1 _ _ (Stmt.Return _ _) _ _ _); refine a1_ret ?_)
    | ((with_reducible show A1 _ _ (Stmt.If _ _ _ _) _ _ _); refine a1_if ?_)
    | ((with_reducible show A1 _ _ (Stmt.Expr _ _) _ _ _); refine a1_drop ?_)
    | ((with_reducible show A1 _ _ (Stmt.Assign [Expr.Name _ _] _ _) _ _ _); refine a1_setU $(Lean.mkIdent `hN) (by walk_at "ix") $(Lean.mkIdent `hnd) ?_)
    | ((with_reducible show A1 _ _ (Stmt.Assign _ _ _) _ _ _); refine a1_asg ?_))
local macro_rules | `(tactic| walk_at "st") => `(tactic| first
  | ((with_reducible show As _ _ [] _ _ _); refine as_nil ?_)
  | (refine as_cons ?_; walk_at "st1"))
local macro_rules | `(tactic| walk_at "newl") => `(tactic| refine as_setU $(Lean.mkIdent `hN) (by walk_at "ix") $(Lean.mkIdent `hnd) (ax_lstC (aa_nil ⟨by decide, ?_⟩)))
local macro_rules | `(tactic| walk_at "for") => `(tactic| (refine as_cons ?_; refine a1_for ?hp ?_ ?hc ?hs; (case hp => exact PassesOwn.never); (case hc => rfl); (case hs => intro _; rfl)))
local macro_rules | `(tactic| walk_at "tgt") => `(tactic| refine ag_nameU $(Lean.mkIdent `hN) (by walk_at "ix") $(Lean.mkIdent `hnd) ?_)
local macro_rules | `(tactic| walk_at "rng") => `(tactic| refine ai_range1 (Mods.range $(Lean.mkIdent `M)) ?_)
local macro_rules | `(tactic| walk_at "while") => `(tactic| (refine as_cons ?_; refine a1_while ?hp ?I ?h0 ?hs; (case hp => exact PassesOwn.never)))
local macro_rules | `(tactic| walk_at "pair") => `(tactic| refine ag_pairU $(Lean.mkIdent `hN) (by walk_at "ix") (by walk_at "ix") $(Lean.mkIdent `hnd) ?hd ?_)
local macro_rules | `(tactic| walk_at "blk") => `(tactic| exact blkOk_by (by decide +kernel))
local macro_rules | `(tactic| walk_at "forX") => `(tactic| (refine as_cons ?_; refine a1_for ?hp ?_ ?hc ?hs; (case hp => exact passes_of rfl); (case hc => rfl); (case hs => intro _; rfl)))
/-! L9: the drawn lattice -/
theorem dc_congr {L L' : List Nat} (h : ∀ x, x ∈ L ↔ x ∈ L') (n : Nat) : dc L n = dc L' n := by
  unfold dc
  refine congrArg _ (List.filter_congr fun x _ => ?_)
  rw [Bool.eq_iff_iff, decide_eq_true_iff, decide_eq_true_iff]
  exact h x
theorem nodup_dc {n : Nat} : ∀ {s : List Nat}, s.Nodup → (∀ x ∈ s, x < n) → s.length ≤ dc s n
  | [], _, _ => Nat.zero_le _
  | x :: s, hn, hl => by
    obtain ⟨h1, h2⟩ := List.nodup_cons.mp hn
    have ih := nodup_dc h2 fun y hy => hl y (List.mem_cons_of_mem _ hy)
    rw [dc_congr (L' := s ++ [x]) (fun y => by simp [or_comm]) n, dc_push h1, if_pos (hl x (List.mem_cons_self ..)), List.length_cons]
    omega
theorem nodup_le {n : Nat} {s : List Nat} (hn : s.Nodup) (hl : ∀ x ∈ s, x < n) : s.length ≤ n := Nat.le_trans (nodup_dc hn hl) (dc_le s n)
structure FamOk (s : List Nat) : Prop where
  nd : s.Nodup
  ne : s ≠ []
  lt : ∀ x ∈ s, x < 8
  cl : ClosedF s
theorem FamOk.le {s : List Nat} (h : FamOk s) : s.length ≤ 8 := nodup_le h.nd h.lt
theorem lowB_iff {n b : Nat} {T : Rl} : lowB n T (membersN b) = true ↔ ∀ y, b.testBit y = true → ∀ x, x < n → T x y = true → b.testBit x = true := by
  have hm : ∀ x, x ∈ membersN b ↔ b.testBit x = true := fun x => by rw [← mem_membersN, decide_eq_true_iff]
  constructor
  · intro h y hy x hx ht
    have q := List.all_eq_true.mp (List.all_eq_true.mp h y ((hm y).mpr hy)) x (List.mem_range.mpr hx)
    rw [ht, mem_membersN] at q
    simpa using q
  · intro h
    refine low_yes fun y hy x hx => ?_
    rw [mem_membersN]
    cases ht : T x y with
    | false => rfl
    | true =>
      rw [h y ((hm y).mp hy) x hx ht]
      rfl
theorem low_fam {n : Nat} {T : Rl} (hn : n ≤ 3) {l : List Nat} (h : l.Perm (lowS n T)) : FamOk l := by
  have h8 : 2 ^ n ≤ 8 := Nat.pow_le_pow_right (n := 2) (by decide) hn
  have hm : ∀ x, x ∈ l ↔ x < 2 ^ n ∧ lowB n T (membersN x) = true := fun x => by
    rw [h.mem_iff]
    unfold lowS
    rw [List.mem_filter, List.mem_range]
  refine ⟨(h.nodup_iff).mpr (List.nodup_range.sublist List.filter_sublist), fun e => ?_, fun x hx => Nat.lt_of_lt_of_le ((hm x).mp hx).1 h8, fun x y hx hy => ?_⟩
  · have h0 : 0 ∈ l := (hm 0).mpr ⟨Nat.two_pow_pos n, lowB_iff.mpr fun y hy => by rw [Nat.zero_testBit] at hy; cases hy⟩
    rw [e] at h0
    simp at h0
  · obtain ⟨a1, a2⟩ := (hm x).mp hx
    obtain ⟨b1, b2⟩ := (hm y).mp hy
    rw [lowB_iff] at a2 b2
    refine ⟨(hm _).mpr ⟨Nat.lt_of_le_of_lt Nat.and_le_left a1, lowB_iff.mpr fun u hu v hv ht => ?_⟩, (hm _).mpr ⟨Nat.or_lt_two_pow a1 b1, lowB_iff.mpr fun u hu v hv ht => ?_⟩⟩
    · rw [Nat.testBit_and, Bool.and_eq_true] at hu ⊢
      exact ⟨a2 u hu.1 v hv ht, b2 u hu.2 v hv ht⟩
    · rw [Nat.testBit_or, Bool.or_eq_true] at hu ⊢
      exact hu.imp (fun q => a2 u q v hv ht) fun q => b2 u q v hv ht
def baseS : List (Nat × List (Nat × Nat)) := [(4, besP 2), (5, besP 3), (4, chP 1 1), (5, chP 1 2), (6, chP 1 3), (5, chP 2 1), (6, chP 2 2), (7, chP 2 3)]
def extS (b : Nat × List (Nat × Nat)) : List (Nat × List (Nat × Nat)) := [b, (b.1 + 1, b.2 ++ (List.range b.1).map fun x => (x, b.1)), (b.1 + 1, b.2 ++ (List.range b.1).map fun x => (b.1, x))]
def shapes : List (Nat × List (Nat × Nat)) := baseS.flatMap extS
def DrawnOk (n : Nat) (ps : List (Nat × Nat)) : Prop := (∃ s : List Nat, FamOk s ∧ n = s.length ∧ ps = prs n (subS s) n) ∨ (n, ps) ∈ shapes
section
variable {P : Program} {w : World} {K : PySem.W.Frag} {mg : Str → Option Value} {base : Heap} {CR : Addr}
abbrev sLat : Stmt := topS 39
abbrev nLat : List Str := ["_law_state_here", "_law_pick", "_law_sets", "_law_n", "_law_pairs", "_law_extra", "_law_x"]
theorem scLat : FnScope nLat ["_law_state_here"] (defScope sLat) := ⟨rfl, rfl, rfl, by decide +kernel, rfl, by decide +kernel, by decide +kernel⟩
def S_latt : Sd := fun ds cs P _ => ∃ (a : Addr) (s t : Int), ds = [.cell a] ∧ StOk s t ∧ cs = [stC a s t] ∧ ∀ (n : Nat) (ps : List (Nat × Nat)) (d : Dt) s' t', DrawnOk n ps → (d = .lst (ps.map pairN) ∨ d = .tup (ps.map pairN)) → StOk s' t' → P (.tup [natD n, d]) [stC a s' t']
theorem ok_latt {f : Addr} {fd : FuncData} (F : Fun K "_law_lattice" "_law_lattice" sLat f fd) (M : Mods mg) (cTake : Fo P w K mg base CX0 CR 1 "_law_take" S_take) (cFam : Fo P w K mg base CX0 CR 3 "_law_family" S_fam) (cPro : Fo P w K mg base CX0 CR 2 "_law_pairs_of" (pureS S_pro)) (cDrawn : Fo P w K mg base CX0 CR 2 "_law_drawn" S_drawn)
    (cLss : Fo P w K mg base CX0 CR 3 "_law_lower_sets" (pureS S_lss)) (cLcl : Fo P w K mg base CX0 CR 2 "_law_closed" (pureS S_lcl)) (cBes : Fo P w K mg base CX0 CR 2 "_law_beside" S_bes) (cChs : Fo P w K mg base CX0 CR 2 "_law_chains" S_chs) :
    FnOk P w K mg base CX0 4 f fd ["_law_state_here"] (spOf K CR S_latt) := by
  refine def_ok F scLat (fun ds cs Pd R ⟨_, _, _, h, _⟩ => by rw [h]; rfl) fun cdv A outer s F H E ds cs Pd R hr ⟨a, s0, t0, hd, hst, hcs, kont⟩ => ?_
  subst hcs
  subst hd
  have hnd := scLat.nd
  have hN := cx_N CX0 P w K mg base nLat "_law_lattice" (defScope sLat) f cdv A outer s H E
  have h900 : ∀ z : Nat, z < 8 → z < 2 ^ 900 := fun z hz => Nat.lt_of_lt_of_le hz (show 2 ^ 3 ≤ 2 ^ 900 from Nat.pow_le_pow_right (by omega) (by omega))
  walk_at "st"
  refine ax_callN 0 cTake (Room.mono hr (by decide)) pas0 ?_
  walk_at "ev"
  refine ⟨a, 5, s0, t0, rfl, by decide, by decide, hst, rfl, fun v s1 t1 hv hst1 => ?_⟩
  walk_at "st"
  walk_at "ev"
  refine ⟨fun _ => ?_, fun _ => ?_⟩
  · refine as_setU hN (by walk_at "ix") hnd (ax_callN 0 cFam (Room.mono hr (by decide)) pas0 ?_)
    walk_at "ev"
    refine ⟨a, s1, t1, rfl, hst1, rfl, fun l s2 t2 h1 h2 h3 h4 hst2 => ?_⟩
    have FO : FamOk l := ⟨h1, h2, h3, h4⟩
    have hle := FO.le
    walk_at "st"
    walk_at "ev"
    refine ⟨_, .inl rfl, ?_⟩
    walk_at "ev"
    refine ax_call cPro (Room.mono hr (by decide)) pas0 ?_
    walk_at "ev"
    refine ⟨l, rfl, by omega, fun x hx => h900 x (h3 x hx), ?_⟩
    walk_at "ev"
    refine ⟨by show 2 ≤ 1000; decide, ?_⟩
    rw [List.length_map]
    exact kont l.length _ _ s2 t2 (.inl ⟨l, FO, rfl, rfl⟩) (.inr rfl) hst2
  walk_at "st"
  walk_at "st"
  walk_at "ev"
  refine ⟨fun _ => ?_, fun _ => ?_⟩
  · walk_at "st"
    refine ax_callN 0 cDrawn (Room.mono hr (by decide)) pas0 ?_
    walk_at "ev"
    refine ⟨a, s1, t1, rfl, hst1, rfl, fun n ps s2 t2 hn hin hpl hst2 => ?_⟩
    refine ag_pairU hN (by walk_at "ix") (by walk_at "ix") hnd rfl ?_
    walk_at "st"
    refine ax_call cLss (Room.mono hr (by decide)) pas0 ?_
    refine aa_cons (ax_call cLcl (Room.mono hr (by decide)) pas0 ?_)
    walk_at "ev"
    refine ⟨n, ps, rfl, by omega, ?_⟩
    walk_at "ev"
    refine ⟨n, _, rfl, by omega, fun l hl => ?_⟩
    have FO := low_fam hn hl
    have hle := FO.le
    walk_at "st"
    walk_at "ev"
    refine ⟨_, .inl rfl, ?_⟩
    walk_at "ev"
    refine ax_call cPro (Room.mono hr (by decide)) pas0 ?_
    walk_at "ev"
    refine ⟨l, rfl, by omega, fun x hx => h900 x (FO.lt x hx), ?_⟩
    walk_at "ev"
    refine ⟨by show 2 ≤ 1000; decide, ?_⟩
    rw [List.length_map]
    exact kont l.length _ _ s2 t2 (.inl ⟨l, FO, rfl, rfl⟩) (.inr rfl) hst2
  walk_at "st"
  walk_at "st"
  refine Ax.imp (P := fun d cs' => ∃ b ∈ baseS, ∃ s t, StOk s t ∧ d = .tup [natD b.1, .lst (b.2.map pairN)] ∧ cs' = [stC a s t]) ?_ ?_
  · walk_at "ev"
    refine ⟨fun _ => ?_, fun _ => ?_⟩
    · refine ax_callN 0 cBes (Room.mono hr (by decide)) pas0 ?_
      walk_at "ev"
      refine ⟨a, s1, t1, rfl, hst1, rfl, fun u s2 t2 hu hst2 => ⟨(2 + u + 2, besP (2 + u)), ?_, s2, t2, hst2, rfl, rfl⟩⟩
      match u, hu with
      | 0, _ => exact List.mem_of_getElem? (i := 0) rfl
      | 1, _ => exact List.mem_of_getElem? (i := 1) rfl
    · refine ax_callN 0 cChs (Room.mono hr (by decide)) pas0 ?_
      walk_at "ev"
      refine ⟨a, s1, t1, rfl, hst1, rfl, fun u w s2 t2 hu hw hst2 => ⟨(1 + u + (1 + w) + 2, chP (1 + u) (1 + w)), ?_, s2, t2, hst2, rfl, rfl⟩⟩
      match u, w, hu, hw with
      | 0, 0, _, _ => exact List.mem_of_getElem? (i := 2) rfl
      | 0, 1, _, _ => exact List.mem_of_getElem? (i := 3) rfl
      | 0, 2, _, _ => exact List.mem_of_getElem? (i := 4) rfl
      | 1, 0, _, _ => exact List.mem_of_getElem? (i := 5) rfl
      | 1, 1, _, _ => exact List.mem_of_getElem? (i := 6) rfl
      | 1, 2, _, _ => exact List.mem_of_getElem? (i := 7) rfl
  rintro d cs' ⟨⟨n, ps⟩, hb, s2, t2, hst2, rfl, rfl⟩
  have hsz : n ≤ 7 ∧ ps.length ≤ 100 := by
    have hall : ∀ b ∈ baseS, b.1 ≤ 7 ∧ b.2.length ≤ 100 := by decide +kernel
    exact hall _ hb
  obtain ⟨hn, hpl⟩ := hsz
  have hsh : ∀ q ∈ extS (n, ps), q ∈ shapes := fun q hq => List.mem_flatMap.mpr ⟨_, hb, hq⟩
  refine ag_pairU hN (by walk_at "ix") (by walk_at "ix") hnd rfl ?_
  walk_at "st"
  refine ax_callN 0 cTake (Room.mono hr (by decide)) pas0 ?_
  walk_at "ev"
  refine ⟨a, 3, s2, t2, rfl, by decide, by decide, hst2, rfl, fun v s3 t3 hv hst3 => ?_⟩
  walk_at "st"
  walk_at "ev"
  refine ⟨fun _ => ?_, fun _ => ?_⟩
  · walk_at "st"
    refine ax_tup (aa_cons (ax_add (ax_u hN (by walk_at "ix") rfl (ax_int ⟨_, _, rfl, rfl, aa_cons (ax_cat ?_)⟩))))
    walk_at "ev"
    refine ax_lcQ hN (by walk_at "ix") hnd (blkOk_by (sc := defScope sLat) (by decide +kernel)) rfl (ai_range1 M.range ?_)
    walk_at "ev"
    refine ⟨by omega, by show n ≤ 90000; omega, ⟨0, rfl⟩, fun x => some (pairN (x, n)), fun k d hk s0 H0 C cl fp D acc => ats_nil ⟨rfl, fun _ _ _ _ _ _ => ?_, fun h => (nomatch h)⟩, ?_⟩
    · obtain ⟨hk, rfl⟩ := rng_item hk
      walk_at "ev"
      exact ⟨by show 2 ≤ 1000; decide, rfl, rfl⟩
    have e1 : ((List.range (Src.len (.rng 0 n))).filterMap fun x => some (pairN (x, n))) = ((List.range n).map fun x => (x, n)).map pairN := by
      show ((List.range n).filterMap fun x => some (pairN (x, n))) = _
      rw [fm_some, List.map_map]
      rfl
    rw [e1]
    refine ⟨_, _, rfl, rfl, by rw [List.length_map, List.length_map, List.length_map, List.length_range]; show ps.length + n ≤ 100000; omega, ?_⟩
    walk_at "ev"
    refine ⟨by show 2 ≤ 1000; decide, ?_⟩
    rw [← List.map_append]
    exact kont (n + 1) _ _ s3 t3 (.inr (hsh _ (List.mem_of_getElem? (i := 1) rfl))) (.inl rfl) hst3
  walk_at "st"
  walk_at "st"
  walk_at "ev"
  refine ⟨fun _ => ?_, fun _ => ?_⟩
  · walk_at "st"
    refine ax_tup (aa_cons (ax_add (ax_u hN (by walk_at "ix") rfl (ax_int ⟨_, _, rfl, rfl, aa_cons (ax_cat ?_)⟩))))
    walk_at "ev"
    refine ax_lcQ hN (by walk_at "ix") hnd (blkOk_by (sc := defScope sLat) (by decide +kernel)) rfl (ai_range1 M.range ?_)
    walk_at "ev"
    refine ⟨by omega, by show n ≤ 90000; omega, ⟨0, rfl⟩, fun x => some (pairN (n, x)), fun k d hk s0 H0 C cl fp D acc => ats_nil ⟨rfl, fun _ _ _ _ _ _ => ?_, fun h => (nomatch h)⟩, ?_⟩
    · obtain ⟨hk, rfl⟩ := rng_item hk
      walk_at "ev"
      exact ⟨by show 2 ≤ 1000; decide, rfl, rfl⟩
    have e1 : ((List.range (Src.len (.rng 0 n))).filterMap fun x => some (pairN (n, x))) = ((List.range n).map fun x => (n, x)).map pairN := by
      show ((List.range n).filterMap fun x => some (pairN (n, x))) = _
      rw [fm_some, List.map_map]
      rfl
    rw [e1]
    refine ⟨_, _, rfl, rfl, by rw [List.length_map, List.length_map, List.length_map, List.length_range]; show ps.length + n ≤ 100000; omega, ?_⟩
    walk_at "ev"
    refine ⟨by show 2 ≤ 1000; decide, ?_⟩
    rw [← List.map_append]
    exact kont (n + 1) _ _ s3 t3 (.inr (hsh _ (List.mem_of_getElem? (i := 2) rfl))) (.inl rfl) hst3
  walk_at "st"
  walk_at "st"
  walk_at "ev"
  exact ⟨by show 2 ≤ 1000; decide, kont n ps _ s3 t3 (.inr (hsh _ (List.mem_of_getElem? (i := 0) rfl))) (.inl rfl) hst3⟩
end

end G
namespace G
open PySem PySem.Spec PyProof.Rows L2 Evl
local macro_rules | `(tactic| walk_at "ix") => `(tactic| with_reducible (first
  | exact AtN.z | exact AtN.s AtN.z | exact AtN.s (AtN.s AtN.z) | exact AtN.s (AtN.s (AtN.s AtN.z)) | exact AtN.s (AtN.s (AtN.s (AtN.s AtN.z)))
  | exact AtN.s (AtN.s (AtN.s (AtN.s (AtN.s AtN.z)))) | exact AtN.s (AtN.s (AtN.s (AtN.s (AtN.s (AtN.s AtN.z))))) | exact AtN.s (AtN.s (AtN.s (AtN.s (AtN.s (AtN.s (AtN.s AtN.z))))))
  | exact AtN.s (AtN.s (AtN.s (AtN.s (AtN.s (AtN.s (AtN.s (AtN.s AtN.z))))))) | exact AtN.s (AtN.s (AtN.s (AtN.s (AtN.s (AtN.s (AtN.s (AtN.s (AtN.s AtN.z)))))))) | exact AtN.s (AtN.s (AtN.s (AtN.s (AtN.s (AtN.s (AtN.s (AtN.s (AtN.s (AtN.s AtN.z)))))))))
  | exact AtN.s (AtN.s (AtN.s (AtN.s (AtN.s (AtN.s (AtN.s (AtN.s (AtN.s (AtN.s (AtN.s AtN.z))))))))))
  | exact AtN.s (AtN.s (AtN.s (AtN.s (AtN.s (AtN.s (AtN.s (AtN.s (AtN.s (AtN.s (AtN.s (AtN.s AtN.z)))))))))))
  | exact AtN.s (AtN.s (AtN.s (AtN.s (AtN.s (AtN.s (AtN.s (AtN.s (AtN.s (AtN.s (AtN.s (AtN.s (AtN.s AtN.z))))))))))))
  | exact AtN.s (AtN.s (AtN.s (AtN.s (AtN.s (AtN.s (AtN.s (AtN.s (AtN.s (AtN.s (AtN.s (AtN.s (AtN.s (AtN.s AtN.z)))))))))))))
  | exact AtN.s (AtN.s (AtN.s (AtN.s (AtN.s (AtN.s (AtN.s (AtN.s (AtN.s (AtN.s (AtN.s (AtN.s (AtN.s (AtN.s (AtN.s AtN.z))))))))))))))))
local macro_rules | `(tactic| walk_at "ev1") => `(tactic| first
  | with_reducible refine ax_int ?_ | with_reducible refine ax_bl ?_ | with_reducible refine ax_non ?_ | with_reducible refine ax_str ?_
  | ((with_reducible show Ax _ _ (Expr.Name _ _) _ _ _); refine ax_u $(Lean.mkIdent `hN) (by walk_at "ix") rfl ?_)
  | ((with_reducible show Ax _ _ (Expr.Compare _ _ _ _) _ _ _); first | (with_reducible refine ax_cmpR cmp_lt ?_) | (with_reducible refine ax_cmpR cmp_le ?_) | (with_reducible refine ax_cmpR cmp_gt ?_) | (with_reducible refine ax_cmpR cmp_ge ?_) | (with_reducible refine ax_cmpR cmp_eq ?_) | (with_reducible refine ax_cmpR cmp_ne ?_) | (with_reducible refine ax_cmpR cmp_is ?_) | (with_reducible refine ax_cmpR cmp_isN ?_))
  | ((with_reducible show At _ _ (Expr.Compare _ _ _ _) _ _ _); first | (with_reducible refine at_cmpR cmp_lt ?_) | (with_reducible refine at_cmpR cmp_le ?_) | (with_reducible refine at_cmpR cmp_gt ?_) | (with_reducible refine at_cmpR cmp_ge ?_) | (with_reducible refine at_cmpR cmp_eq ?_) | (with_reducible refine at_cmpR cmp_ne ?_) | (with_reducible refine at_cmpR cmp_is ?_) | (with_reducible refine at_cmpR cmp_isN ?_))
  | with_reducible refine ax_add ?_ | with_reducible refine ax_sub ?_ | with_reducible refine ax_mul ?_ | with_reducible refine ax_fdiv ?_ | with_reducible refine ax_mod ?_ | with_reducible refine ax_shl ?_ | with_reducible refine ax_shr ?_ | with_reducible refine ax_and ?_ | with_reducible refine ax_or ?_ | with_reducible refine ax_neg ?_
  | with_reducible refine ax_one ?_ | with_reducible refine ax_andv ?_ | with_reducible refine ax_orv ?_ | with_reducible refine ax_notv ?_ | with_reducible refine at_one ?_ | with_reducible refine at_and ?_ | with_reducible refine at_or ?_ | with_reducible refine at_not ?_ | with_reducible refine ax_if ?_
  | ((with_reducible show Ax _ _ (Expr.Subscript _ _ _) _ _ _); refine ax_ix ?_) | with_reducible refine ax_tup ?_ | ((with_reducible show Aa _ _ (_ :: _) _ _ _); refine aa_cons ?_) | with_reducible refine aa_nil ?_
  | ((with_reducible show Ax _ _ (Expr.Call (Expr.Name "len" _) _ _ _) _ _ _); refine ax_len (Mods.len $(Lean.mkIdent `M)) ?_)
  | ((with_reducible show Ax _ _ (Expr.Call (Expr.Name "int" _) _ _ _) _ _ _); refine ax_int1 (Mods.int $(Lean.mkIdent `M)) ?_)
  | ((with_reducible show Ax _ _ (Expr.Call (Expr.Name "abs" _) _ _ _) _ _ _); refine ax_abs (Mods.abs $(Lean.mkIdent `M)) ?_)
  | ((with_reducible show Ax _ _ (Expr.Call (Expr.Name "tuple" _) _ _ _) _ _ _); refine ax_tuple (Mods.tuple $(Lean.mkIdent `M)) ?_)
  | ((with_reducible show Ax _ _ (Expr.Call (Expr.Name "has" _) _ _ _) _ _ _); refine ax_call $(Lean.mkIdent `cHas) (Room.mono $(Lean.mkIdent `hr) (by decide)) pas0 ?_)
  | ((with_reducible show Ax _ _ (Expr.Call (Expr.Name "set_of" _) _ _ _) _ _ _); refine ax_call $(Lean.mkIdent `cSetOf) (Room.mono $(Lean.mkIdent `hr) (by decide)) pas0 ?_)
  | ((with_reducible show Ax _ _ (Expr.Call (Expr.Name "members" _) _ _ _) _ _ _); refine ax_call $(Lean.mkIdent `cMembers) (Room.mono $(Lean.mkIdent `hr) (by decide)) pas0 ?_)
  | ((with_reducible show Ax _ _ (Expr.Call (Expr.Name "is_integer" _) _ _ _) _ _ _); refine ax_call $(Lean.mkIdent `cIsInt) (Room.mono $(Lean.mkIdent `hr) (by decide)) pas0 ?_)
  | ((with_reducible show Ax _ _ (Expr.Call (Expr.Attribute _ "bit_length" _) _ _ _) _ _ _); refine ax_bits ?_)
  | ((with_reducible show Ax _ _ (Expr.Call (Expr.Name "isinstance" _) [_, Expr.Name "int" _] _ _) _ _ _); refine ax_isi (u := "int") (Mods.isinstance $(Lean.mkIdent `M)) (Mods.int $(Lean.mkIdent `M)) boot_int ?_)
  | ((with_reducible show Ax _ _ (Expr.Call (Expr.Name "isinstance" _) [_, Expr.Name "bool" _] _ _) _ _ _); refine ax_isi (u := "bool") (Mods.isinstance $(Lean.mkIdent `M)) (Mods.bool $(Lean.mkIdent `M)) boot_bool ?_)
  | ((with_reducible show Ax _ _ (Expr.Call (Expr.Name "isinstance" _) [_, Expr.Name "tuple" _] _ _) _ _ _); refine ax_isi (u := "tuple") (Mods.isinstance $(Lean.mkIdent `M)) (Mods.tuple $(Lean.mkIdent `M)) boot_tuple ?_)
  | ((with_reducible show Ax _ _ (Expr.Call (Expr.Name "isinstance" _) [_, Expr.Tuple [Expr.Name "list" _, Expr.Name "tuple" _] _ _] _ _) _ _ _); refine ax_isi2 (u1 := "list") (u2 := "tuple") (Mods.isinstance $(Lean.mkIdent `M)) (Mods.list $(Lean.mkIdent `M)) (Mods.tuple $(Lean.mkIdent `M)) boot_list boot_tuple ?_)
  | ((with_reducible show ∃ t k, tyD _ = some t ∧ kitB t _ = some k ∧ _); refine ⟨_, _, rfl, by with_reducible (first | exact kit_ii | exact kit_ib | exact kit_tt), ?_⟩)
  | ((with_reducible show S_isInt _ _ _); refine ⟨_, rfl, ?_⟩) | ((with_reducible show S_has _ _ _); refine ⟨_, _, rfl, ?_⟩)
  | ((with_reducible show REq _ _ _ _); refine ⟨_, rfl, ?_⟩) | ((with_reducible show RNe _ _ _ _); refine ⟨_, rfl, ?_⟩) | ((with_reducible show RI _ _ _ _ _); refine ⟨_, _, rfl, rfl, ?_⟩)
  | with_reducible refine ⟨_, _, rfl, rfl, ?_⟩
  | with_reducible refine ⟨_, rfl, ?_⟩
  | ((with_reducible show At _ _ (Expr.Name _ _) _ _ _); refine at_val ?_) | ((with_reducible show At _ _ (Expr.Call _ _ _ _) _ _ _); refine at_val ?_) | ((with_reducible show At _ _ (Expr.Subscript _ _ _) _ _ _); refine at_val ?_))
local macro_rules | `(tactic| walk_at "ev") => `(tactic| repeat walk_at "ev1")
local macro_rules | `(tactic| walk_at "st1") => `(tactic| first
    | ((with_reducible show A1 _ _ (Stmt.Return _ _) _ _ _); refine a1_ret ?_)
    | ((with_reducible show A1 _ _ (Stmt.If _ _ _ _) _ _ _); refine a1_if ?_)
    | ((with_reducible show A1 _ _ (Stmt.Expr _ _) _ _ _); refine a1_drop ?_)
    | ((with_reducible show A1 _ _ (Stmt.Assign [Expr.Name _ _] _ _) _ _ _); refine a1_setU $(Lean.mkIdent `hN) (by walk_at "ix") $(Lean.mkIdent `hnd) ?_)
    | ((with_reducible show A1 _ _ (Stmt.Assign _ _ _) _ _ _); refine a1_asg ?_))
local macro_rules | `(tactic| walk_at "st") => `(tactic| first
  | ((with_reducible show As _ _ [] _ _ _); refine as_nil ?_)
  | (refine as_cons ?_; walk_at "st1"))
local macro_rules | `(tactic| walk_at "newl") => `(tactic| refine as_setU $(Lean.mkIdent `hN) (by walk_at "ix") $(Lean.mkIdent `hnd) (ax_lstC (aa_nil ⟨by decide, ?_⟩)))
local macro_rules | `(tactic| walk_at "for") => `(tactic| (refine as_cons ?_; refine a1_for ?hp ?_ ?hc ?hs; (case hp => exact PassesOwn.never); (case hc => rfl); (case hs => intro _; rfl)))
local macro_rules | `(tactic| walk_at "tgt") => `(tactic| refine ag_nameU $(Lean.mkIdent `hN) (by walk_at "ix") $(Lean.mkIdent `hnd) ?_)
local macro_rules | `(tactic| walk_at "rng") => `(tactic| refine ai_range1 (Mods.range $(Lean.mkIdent `M)) ?_)
local macro_rules | `(tactic| walk_at "while") => `(tactic| (refine as_cons ?_; refine a1_while ?hp ?I ?h0 ?hs; (case hp => exact PassesOwn.never)))
local macro_rules | `(tactic| walk_at "pair") => `(tactic| refine ag_pairU $(Lean.mkIdent `hN) (by walk_at "ix") (by walk_at "ix") $(Lean.mkIdent `hnd) ?hd ?_)
local macro_rules | `(tactic| walk_at "blk") => `(tactic| exact blkOk_by (by decide +kernel))
local macro_rules | `(tactic| walk_at "forX") => `(tactic| (refine as_cons ?_; refine a1_for ?hp ?_ ?hc ?hs; (case hp => exact passes_of rfl); (case hc => rfl); (case hs => intro _; rfl)))
/-! L10: try: .. except Refused as bad: return bad.reason -/
structure RefX (K : PySem.W.Frag) (mg : Str → Option Value) (CR : Addr) : Prop where
  x : XfC K CR
  no : PySem.W.findIn K (.ref CR) "reason" = some none
  ex : PySem.W.exmOne K (.ref CR) (.ref CR) = some true
  mgR : mg "Refused" = some (.ref CR)
section
variable {X : Cx} {T : Ent} {ρ : Rho}
theorem a1_try {CR : Addr} {R : Str → Prop} {body : List Stmt} {i : Nat} {E : AE} {np p1 p2 p3 pos pos' : Pos} (C : RefX X.K X.mg CR) (hs : X.stack = X.env :: X.outer) (hf : X.env.frame = some X.env.locals) (hN : X.N.Nodup) (hi : X.N[i]? = some "bad") (hln : X.env.kindOf "bad" = some .local)
    (hg : Gl X "Refused") (hba : attributeBase (.Name "bad" p1) "reason" X.env (eval (.Name "bad" p1) X.env) = eval (.Name "bad" p1) X.env)
    (hb : ∀ pn xe (Ex0 : XK) (T' : Ent), T'.mu = [] → Takes (X.tr pn xe) (fun cls d _ H => Ex0 cls d H) → PassesOwn (model X.prog X.w) X.A X.env xe → XOk CR T' Ex0 R → As (X.tr pn xe) T' body ρ [] E) (hR : ∀ z, R z → E.rt (.str z) []) :
    A1 X T (.Try body [.ExceptHandler (some (.Name "Refused" np)) (some "bad") [.Return (some (.Attribute (.Name "bad" p1) "reason" p2)) p3] pos'] [] [] pos) ρ [] E := fun σ F H he hh => by
  have hh0 : Hs X.K ⟨F, H, []⟩ F H [] := hh.entry (n := 0)
  have back : ∀ {F' H' : Hp} {cs' : Cs}, Hs X.K ⟨F, H, []⟩ F' H' cs' → Hs X.K T F' H' cs' := fun h => hh.back (n := 0) h
  refine wS_of (ps_try_as hs hf hN hi hln (c := .ref CR) ⟨hg, by decide, .inl C.mgR⟩ takes0
    (tb := fun W D σ H => ∀ pn xe, Takes (X.tr pn xe) W → PassesOwn (model X.prog X.w) X.A X.env xe → wSs (X.tr pn xe) body D σ H)
    (ts := fun a cls d D σ H => ∀ oe pn, Zc cls d oe → (∃ vs, oe.data = .fields vs) → wSs (X.suite a ((a, oe) :: pn)) [.Return (some (.Attribute (.Name "bad" p1) "reason" p2)) p3] D σ H)
    (fun W pn xe tk po => ⟨fun pins s σ H D I h => h pn xe tk po pins s I⟩) (fun a oe cls d pn hz hf => ⟨fun pins s σ H D I h => h oe pn hz hf pins s I⟩)) ?_
  intro pn xe tk po
  refine wSs_mono (hb pn xe (fun cls d H' => ∃ z dx, cls = .ref CR ∧ d = some dx ∧ H' dx = some (.xd [("reason", .str z)]) ∧ R z ∧ ∀ b o, H b = some o → H' b = some o) ⟨F, H, []⟩ rfl (tk.imp fun cls d σ' H' ⟨z, dx, e1, e2, e3, e4, e5⟩ => ?_) po (fun z H' dx hz hk hd => ⟨z, dx, rfl, rfl, hd, hz, fun b o q => hk b o q (by simp)⟩) σ F H he hh0) ?_
  · subst e1
    subst e2
    refine ⟨true, C.ex, fun _ a ha oe pn2 hz hf2 => ?_, fun h => (nomatch h)⟩
    intro pins s I
    have hlen : i < (σ'.set i (some (V.ref a))).length := by
      rw [I.len]
      exact (List.getElem?_eq_some_iff.mp hi).1
    have hget : (σ'.set i (some (V.ref a)))[i]? = some (some (.ref a)) := List.getElem?_set_self (by rw [List.length_set] at hlen; exact hlen)
    exact (pss_cons (ps_ret (pe_xf C.x C.no hz hf2 (pe_var (X := X.suite a ((a, oe) :: pn2)) hi (.inl hln)) hba)) pss_nil).run pins s _ _ _ I ⟨_, hget, rfl, rfl, dx, _, .str z, rfl, e3, rfl, F, .str z, [], Ex.refl _, hh.lift e5, rfl, hR z e4⟩
  · exact ⟨fun σ' H' ⟨F', ρ', cs', a1, a2, a3, a4⟩ => ⟨F', ρ', cs', a1, a2, back a3, a4⟩, fun v H' ⟨F', d, cs', a1, a2, a3, a4⟩ => ⟨F', d, cs', a1, back a2, a3, a4⟩, fun σ' H' ⟨F', ρ', cs', a1, a2, a3, a4⟩ => ⟨F', ρ', cs', a1, a2, back a3, a4⟩, fun σ' H' ⟨F', ρ', cs', a1, a2, a3, a4⟩ => ⟨F', ρ', cs', a1, a2, back a3, a4⟩⟩
end
section
variable {P : Program} {w : World} {K : PySem.W.Frag} {mg : Str → Option Value} {base : Heap} {CR CL CO : Addr}
abbrev sRea : Stmt := topS 41
abbrev nRea : List Str := ["_law_value", "_law_which", "bad"]
theorem scRea : FnScope nRea ["_law_value", "_law_which"] (defScope sRea) := ⟨rfl, rfl, rfl, by decide +kernel, rfl, by decide +kernel, by decide +kernel⟩
def reaS (n : Nat) (R : Rl) (J M : Nat → Nat → Nat) (wh : Nat) : Str := if wh = 0 then (if distB n J M = false then "distributive" else if 10 < (irrL n R).length then "large" else "none") else if 10 < (irrL n R).length then "large" else "none"
def S_rea (CL : Addr) : List Dt → (Dt → Prop) → (Str → Prop) → Prop := fun ds P _ => ∃ (n : Nat) (R : Rl) (J M : Nat → Nat → Nat) (wh : Nat), ds = [latD CL n R J M, natD wh] ∧ n ≤ 64 ∧ Ord n R ∧ BelowN n J ∧ BelowN n M ∧ P (.str (reaS n R J M wh))
theorem ok_rea {f : Addr} {fd : FuncData} (F : Fun K "_law_reason" "_law_reason" sRea f fd) (M : Mods mg) (cX : RefX K mg CR) (cImg : Fo P w K mg base (L2.CX P w) CR 6 "images" (pureS (S_img CL))) (cIro : Fo P w K mg base (L2.CX P w) CR 6 "irreducible_order" (pureS (S_iro CL CO))) :
    FnOk P w K mg base CX0 7 f fd ["_law_value", "_law_which"] (spOf K CR (pureS (S_rea CL))) := by
  refine def_ok F scRea (fun ds cs Pd R ⟨_, _, _, _, _, _, h, _⟩ => by rw [h]; rfl) fun cdv A outer s F H E ds cs Pd R0 hr ⟨hcs, n, R, J, Mt, wh, hd, hn, O, bJ, bM, kont⟩ => ?_
  subst hcs
  subst hd
  have hnd := scRea.nd
  have hN := cx_N CX0 P w K mg base nRea "_law_reason" (defScope sRea) f cdv A outer s H E
  have hnone : reaS n R J Mt wh = "none" → (fun (ρ : Rho) (cs : Cs) => As (cxOf CX0 P w K mg base nRea "_law_reason" (defScope sRea) f cdv A outer s H E).nox ⟨F, H, []⟩ ((defBody sRea).drop 1) ρ cs { nx := fun _ cs' => Pd .non cs', rt := Pd }) (startR nRea [latD CL n R J Mt, natD wh]) [] := fun h => by
    show As _ _ [Stmt.Return _ _] _ _ _
    walk_at "st"
    walk_at "ev"
    rw [h] at kont
    exact kont
  refine as_cons (a1_try (i := 2) (R := fun z => z = reaS n R J Mt wh) cX rfl rfl hnd rfl rfl rfl rfl (fun pn xe Ex0 T' hmu tk po hX => ?_) (fun z hz => by rw [hz]; exact kont))
  have hN : ((cxOf CX0 P w K mg base nRea "_law_reason" (defScope sRea) f cdv A outer s H E).nox.tr pn xe).N = nRea := rfl
  walk_at "st"
  walk_at "ev"
  rw [show (0 : Int) = ((0 : Nat) : Int) from rfl, dec_nat]
  refine ⟨fun hw => ?_, fun hw => ?_⟩
  · have hw : wh = 0 := of_decide_eq_true hw
    subst hw
    walk_at "st"
    refine ax_call cImg (Room.mono hr (by decide)) (pasX tk hX fun z h => h) ?_
    walk_at "ev"
    refine ⟨n, R, J, Mt, rfl, hn, bJ, bM, fun h => ?_, fun h h2 => ?_, fun h h2 => ?_⟩
    · show _ = reaS n R J Mt 0
      unfold reaS
      rw [if_pos rfl, if_pos h]
    · show _ = reaS n R J Mt 0
      unfold reaS
      rw [if_pos rfl, if_neg (by rw [h]; decide), if_pos h2]
    · walk_at "st"
      walk_at "st"
      refine hnone ?_
      unfold reaS
      rw [if_pos rfl, if_neg (by rw [h]; decide), if_neg (by omega)]
  · have hw : wh ≠ 0 := of_decide_eq_false hw
    walk_at "st"
    refine ax_call cIro (Room.mono hr (by decide)) (pasX tk hX fun z h => h) ?_
    walk_at "ev"
    refine ⟨n, R, J, Mt, rfl, hn, O, fun h => ?_, fun h => ?_⟩
    · walk_at "st"
      walk_at "st"
      refine hnone ?_
      unfold reaS
      rw [if_neg hw, if_neg (by omega)]
    · show _ = reaS n R J Mt wh
      unfold reaS
      rw [if_neg hw, if_pos h]
end

end G
namespace G
open PySem PySem.Spec PyProof.Rows L2 Evl
local macro_rules | `(tactic| walk_at "ix") => `(tactic| with_reducible (first
  | exact AtN.z | exact AtN.s AtN.z | exact AtN.s (AtN.s AtN.z) | exact AtN.s (AtN.s (AtN.s AtN.z)) | exact AtN.s (AtN.s (AtN.s (AtN.s AtN.z)))
  | exact AtN.s (AtN.s (AtN.s (AtN.s (AtN.s AtN.z)))) | exact AtN.s (AtN.s (AtN.s (AtN.s (AtN.s (AtN.s AtN.z))))) | exact AtN.s (AtN.s (AtN.s (AtN.s (AtN.s (AtN.s (AtN.s AtN.z))))))
  | exact AtN.s (AtN.s (AtN.s (AtN.s (AtN.s (AtN.s (AtN.s (AtN.s AtN.z))))))) | exact AtN.s (AtN.s (AtN.s (AtN.s (AtN.s (AtN.s (AtN.s (AtN.s (AtN.s AtN.z)))))))) | exact AtN.s (AtN.s (AtN.s (AtN.s (AtN.s (AtN.s (AtN.s (AtN.s (AtN.s (AtN.s AtN.z)))))))))
  | exact AtN.s (AtN.s (AtN.s (AtN.s (AtN.s (AtN.s (AtN.s (AtN.s (AtN.s (AtN.s (AtN.s AtN.z))))))))))
  | exact AtN.s (AtN.s (AtN.s (AtN.s (AtN.s (AtN.s (AtN.s (AtN.s (AtN.s (AtN.s (AtN.s (AtN.s AtN.z)))))))))))
  | exact AtN.s (AtN.s (AtN.s (AtN.s (AtN.s (AtN.s (AtN.s (AtN.s (AtN.s (AtN.s (AtN.s (AtN.s (AtN.s AtN.z))))))))))))
  | exact AtN.s (AtN.s (AtN.s (AtN.s (AtN.s (AtN.s (AtN.s (AtN.s (AtN.s (AtN.s (AtN.s (AtN.s (AtN.s (AtN.s AtN.z)))))))))))))
  | exact AtN.s (AtN.s (AtN.s (AtN.s (AtN.s (AtN.s (AtN.s (AtN.s (AtN.s (AtN.s (AtN.s (AtN.s (AtN.s (AtN.s (AtN.s AtN.z))))))))))))))))
local macro_rules | `(tactic| walk_at "ev1") => `(tactic| first
  | with_reducible refine ax_int ?_ | with_reducible refine ax_bl ?_ | with_reducible refine ax_non ?_ | with_reducible refine ax_str ?_
  | ((with_reducible show Ax _ _ (Expr.Name _ _) _ _ _); refine ax_u $(Lean.mkIdent `hN) (by walk_at "ix") rfl ?_)
  | ((with_reducible show Ax _ _ (Expr.Compare _ _ _ _) _ _ _); first | (with_reducible refine ax_cmpR cmp_lt ?_) | (with_reducible refine ax_cmpR cmp_le ?_) | (with_reducible refine ax_cmpR cmp_gt ?_) | (with_reducible refine ax_cmpR cmp_ge ?_) | (with_reducible refine ax_cmpR cmp_eq ?_) | (with_reducible refine ax_cmpR cmp_ne ?_) | (with_reducible refine ax_cmpR cmp_is ?_) | (with_reducible refine ax_cmpR cmp_isN ?_))
  | ((with_reducible show At _ _ (Expr.Compare _ _ _ _) _ _ _); first | (with_reducible refine at_cmpR cmp_lt ?_) | (with_reducible refine at_cmpR cmp_le ?_) | (with_reducible refine at_cmpR cmp_gt ?_) | (with_reducible refine at_cmpR cmp_ge ?_) | (with_reducible refine at_cmpR cmp_eq ?_) | (with_reducible refine at_cmpR cmp_ne ?_) | (with_reducible refine at_cmpR cmp_is ?_) | (with_reducible refine at_cmpR cmp_isN ?_))
  | with_reducible refine ax_add ?_ | with_reducible refine ax_sub ?_ | with_reducible refine ax_mul ?_ | with_reducible refine ax_fdiv ?_ | with_reducible refine ax_mod ?_ | with_reducible refine ax_shl ?_ | with_reducible refine ax_shr ?_ | with_reducible refine ax_and ?_ | with_reducible refine ax_or ?_ | with_reducible refine ax_neg ?_
  | with_reducible refine ax_one ?_ | with_reducible refine ax_andv ?_ | with_reducible refine ax_orv ?_ | with_reducible refine ax_notv ?_ | with_reducible refine at_one ?_ | with_reducible refine at_and ?_ | with_reducible refine at_or ?_ | with_reducible refine at_not ?_ | with_reducible refine ax_if ?_
  | ((with_reducible show Ax _ _ (Expr.Subscript _ _ _) _ _ _); refine ax_ix ?_) | with_reducible refine ax_tup ?_ | ((with_reducible show Aa _ _ (_ :: _) _ _ _); refine aa_cons ?_) | with_reducible refine aa_nil ?_
  | ((with_reducible show Ax _ _ (Expr.Call (Expr.Name "len" _) _ _ _) _ _ _); refine ax_len (Mods.len $(Lean.mkIdent `M)) ?_)
  | ((with_reducible show Ax _ _ (Expr.Call (Expr.Name "int" _) _ _ _) _ _ _); refine ax_int1 (Mods.int $(Lean.mkIdent `M)) ?_)
  | ((with_reducible show Ax _ _ (Expr.Call (Expr.Name "abs" _) _ _ _) _ _ _); refine ax_abs (Mods.abs $(Lean.mkIdent `M)) ?_)
  | ((with_reducible show Ax _ _ (Expr.Call (Expr.Name "tuple" _) _ _ _) _ _ _); refine ax_tuple (Mods.tuple $(Lean.mkIdent `M)) ?_)
  | ((with_reducible show Ax _ _ (Expr.Call (Expr.Name "has" _) _ _ _) _ _ _); refine ax_call $(Lean.mkIdent `cHas) (Room.mono $(Lean.mkIdent `hr) (by decide)) pas0 ?_)
  | ((with_reducible show Ax _ _ (Expr.Call (Expr.Name "set_of" _) _ _ _) _ _ _); refine ax_call $(Lean.mkIdent `cSetOf) (Room.mono $(Lean.mkIdent `hr) (by decide)) pas0 ?_)
  | ((with_reducible show Ax _ _ (Expr.Call (Expr.Name "members" _) _ _ _) _ _ _); refine ax_call $(Lean.mkIdent `cMembers) (Room.mono $(Lean.mkIdent `hr) (by decide)) pas0 ?_)
  | ((with_reducible show Ax _ _ (Expr.Call (Expr.Name "is_integer" _) _ _ _) _ _ _); refine ax_call $(Lean.mkIdent `cIsInt) (Room.mono $(Lean.mkIdent `hr) (by decide)) pas0 ?_)
  | ((with_reducible show Ax _ _ (Expr.Call (Expr.Attribute _ "bit_length" _) _ _ _) _ _ _); refine ax_bits ?_)
  | ((with_reducible show Ax _ _ (Expr.Call (Expr.Name "isinstance" _) [_, Expr.Name "int" _] _ _) _ _ _); refine ax_isi (u := "int") (Mods.isinstance $(Lean.mkIdent `M)) (Mods.int $(Lean.mkIdent `M)) boot_int ?_)
  | ((with_reducible show Ax _ _ (Expr.Call (Expr.Name "isinstance" _) [_, Expr.Name "bool" _] _ _) _ _ _); refine ax_isi (u := "bool") (Mods.isinstance $(Lean.mkIdent `M)) (Mods.bool $(Lean.mkIdent `M)) boot_bool ?_)
  | ((with_reducible show Ax _ _ (Expr.Call (Expr.Name "isinstance" _) [_, Expr.Name "tuple" _] _ _) _ _ _); refine ax_isi (u := "tuple") (Mods.isinstance $(Lean.mkIdent `M)) (Mods.tuple $(Lean.mkIdent `M)) boot_tuple ?_)
  | ((with_reducible show Ax _ _ (Expr.Call (Expr.Name "isinstance" _) [_, Expr.Tuple [Expr.Name "list" _, Expr.Name "tuple" _] _ _] _ _) _ _ _); refine ax_isi2 (u1 := "list") (u2 := "tuple") (Mods.isinstance $(Lean.mkIdent `M)) (Mods.list $(Lean.mkIdent `M)) (Mods.tuple $(Lean.mkIdent `M)) boot_list boot_tuple ?_)
  | ((with_reducible show ∃ t k, tyD _ = some t ∧ kitB t _ = some k ∧ _); refine ⟨_, _, rfl, by with_reducible (first | exact kit_ii | exact kit_ib | exact kit_tt), ?_⟩)
  | ((with_reducible show S_isInt _ _ _); refine ⟨_, rfl, ?_⟩) | ((with_reducible show S_has _ _ _); refine ⟨_, _, rfl, ?_⟩)
  | ((with_reducible show REq _ _ _ _); refine ⟨_, rfl, ?_⟩) | ((with_reducible show RNe _ _ _ _); refine ⟨_, rfl, ?_⟩) | ((with_reducible show RI _ _ _ _ _); refine ⟨_, _, rfl, rfl, ?_⟩)
  | with_reducible refine ⟨_, _, rfl, rfl, ?_⟩
  | with_reducible refine ⟨_, rfl, ?_⟩
  | ((with_reducible show At _ _ (Expr.Name _ _) _ _ _); refine at_val ?_) | ((with_reducible show At _ _ (Expr.Call _ _ _ _) _ _ _); refine at_val ?_) | ((with_reducible show At _ _ (Expr.Subscript _ _ _) _ _ _); refine at_val ?_))
local macro_rules | `(tactic| walk_at "ev") => `(tactic| repeat walk_at "ev1")
local macro_rules | `(tactic| walk_at "st1") => `(tactic| first
    | ((with_reducible show A1 _ _ (Stmt.Return _ _) _ _ _); refine a1_ret ?_)
    | ((with_reducible show A1 _ _ (Stmt.If _ _ _ _) _ _ _); refine a1_if ?_)
    | ((with_reducible show A1 _ _ (Stmt.Expr _ _) _ _ _); refine a1_drop ?_)
    | ((with_reducible show A1 _ _ (Stmt.Assign [Expr.Name _ _] _ _) _ _ _); refine a1_setU $(Lean.mkIdent `hN) (by walk_at "ix") $(Lean.mkIdent `hnd) ?_)
    | ((with_reducible show A1 _ _ (Stmt.Assign _ _ _) _ _ _); refine a1_asg ?_))
local macro_rules | `(tactic| walk_at "st") => `(tactic| first
  | ((with_reducible show As _ _ [] _ _ _); refine as_nil ?_)
  | (refine as_cons ?_; walk_at "st1"))
local macro_rules | `(tactic| walk_at "newl") => `(tactic| refine as_setU $(Lean.mkIdent `hN) (by walk_at "ix") $(Lean.mkIdent `hnd) (ax_lstC (aa_nil ⟨by decide, ?_⟩)))
local macro_rules | `(tactic| walk_at "for") => `(tactic| (refine as_cons ?_; refine a1_for ?hp ?_ ?hc ?hs; (case hp => exact PassesOwn.never); (case hc => rfl); (case hs => intro _; rfl)))
local macro_rules | `(tactic| walk_at "tgt") => `(tactic| refine ag_nameU $(Lean.mkIdent `hN) (by walk_at "ix") $(Lean.mkIdent `hnd) ?_)
local macro_rules | `(tactic| walk_at "rng") => `(tactic| refine ai_range1 (Mods.range $(Lean.mkIdent `M)) ?_)
local macro_rules | `(tactic| walk_at "while") => `(tactic| (refine as_cons ?_; refine a1_while ?hp ?I ?h0 ?hs; (case hp => exact PassesOwn.never)))
local macro_rules | `(tactic| walk_at "pair") => `(tactic| refine ag_pairU $(Lean.mkIdent `hN) (by walk_at "ix") (by walk_at "ix") $(Lean.mkIdent `hnd) ?hd ?_)
local macro_rules | `(tactic| walk_at "blk") => `(tactic| exact blkOk_by (by decide +kernel))
local macro_rules | `(tactic| walk_at "forX") => `(tactic| (refine as_cons ?_; refine a1_for ?hp ?_ ?hc ?hs; (case hp => exact passes_of rfl); (case hc => rfl); (case hs => intro _; rfl)))
/-! L11: the law's own readings -/
def tabL (n : Nat) (J : Nat → Nat → Nat) : List Dt := (List.range n).map fun x => .lst (rowD n (J x))
theorem tabL_get {n x : Nat} {f : Nat → Nat → Nat} (h : x < n) : (tabL n f)[x]? = some (.lst (rowD n (f x))) := map_range_get h
theorem tabL_len (n : Nat) (f : Nat → Nat → Nat) : (tabL n f).length = n := by unfold tabL; rw [List.length_map, List.length_range]
def distL (n : Nat) (J M : Nat → Nat → Nat) : Bool := (List.range n).all fun x => (List.range n).all fun y => (List.range y).all fun z => decide (M x (J y z) = J (M x y) (M x z))
theorem distL_no {n x y z : Nat} {J M : Nat → Nat → Nat} (hx : x < n) (hy : y < n) (hz : z < y) (h : ¬ M x (J y z) = J (M x y) (M x z)) : distL n J M = false := by
  cases hd : distL n J M with
  | false => rfl
  | true =>
    unfold distL at hd
    have h1 := List.all_eq_true.mp hd x (List.mem_range.mpr hx)
    have h2 := List.all_eq_true.mp h1 y (List.mem_range.mpr hy)
    have h3 := List.all_eq_true.mp h2 z (List.mem_range.mpr hz)
    exact absurd (of_decide_eq_true h3) h
theorem distL_yes {n : Nat} {J M : Nat → Nat → Nat} (h : ∀ x y z, x < n → y < n → z < y → M x (J y z) = J (M x y) (M x z)) : distL n J M = true :=
  List.all_eq_true.mpr fun x hx => List.all_eq_true.mpr fun y hy => List.all_eq_true.mpr fun z hz => decide_eq_true (h x y z (List.mem_range.mp hx) (List.mem_range.mp hy) (List.mem_range.mp hz))
def belT (n : Nat) (T : Rl) (x : Nat) : List Nat := (List.range n).filter fun y => T y x
def topT (n : Nat) (T : Rl) (x : Nat) : List Nat := (belT n T x).filter fun y => decide (((belT n T x).filter fun z => T y z).length = 0)
def irrT (n : Nat) (T : Rl) : List Nat := (List.range n).filter fun x => decide ((topT n T x).length = 1)
theorem belT_len (n : Nat) (T : Rl) (x : Nat) : (belT n T x).length ≤ n := by
  have h := List.length_filter_le (fun y => T y x) (List.range n)
  rw [List.length_range] at h
  exact h
theorem belT_lt {n x y : Nat} {T : Rl} (h : y ∈ belT n T x) : y < n := List.mem_range.mp (List.mem_filter.mp h).1
section
variable {P : Program} {w : World} {K : PySem.W.Frag} {mg : Str → Option Value} {base : Heap} {CR : Addr}
abbrev sLDi : Stmt := topS 42
abbrev nLDi : List Str := ["_law_joins", "_law_meets", "_law_n", "_law_x", "_law_y", "_law_z"]
theorem scLDi : FnScope nLDi ["_law_joins", "_law_meets"] (defScope sLDi) := ⟨rfl, rfl, rfl, by decide +kernel, rfl, by decide +kernel, by decide +kernel⟩
def S_ldi : List Dt → (Dt → Prop) → (Str → Prop) → Prop := fun ds P _ => ∃ (n : Nat) (J M : Nat → Nat → Nat), ds = [.lst (tabL n J), .lst (tabL n M)] ∧ n ≤ 900 ∧ BelowN n J ∧ BelowN n M ∧ P (.bl (distL n J M))
theorem ok_ldi {f : Addr} {fd : FuncData} (F : Fun K "_law_is_distributive" "_law_is_distributive" sLDi f fd) (M : Mods mg) : FnOk P w K mg base CX0 2 f fd ["_law_joins", "_law_meets"] (spOf K CR (pureS S_ldi)) := by
  refine def_ok F scLDi (fun ds cs Pd R ⟨_, n, J, M, h, _⟩ => by rw [h]; rfl) fun cdv A outer s F H E ds cs Pd R0 hr ⟨hcs, n, J, Mt, hd, hn, bJ, bM, kont⟩ => ?_
  subst hcs
  subst hd
  have hnd := scLDi.nd
  have hN := cx_N CX0 P w K mg base nLDi "_law_is_distributive" (defScope sLDi) f cdv A outer s H E
  walk_at "st"
  walk_at "ev"
  refine ⟨_, .inl rfl, ?_⟩
  rw [tabL_len]
  walk_at "for"
  walk_at "rng"
  walk_at "ev"
  refine ⟨by omega, fun i ρ cs => cs = [] ∧ (∀ x y z, x < i → y < n → z < y → Mt x (J y z) = J (Mt x y) (Mt x z)) ∧ ∃ z1 z2 z3, ρ = [some (.lst (tabL n J)), some (.lst (tabL n Mt)), some (natD n), z1, z2, z3], ⟨rfl, fun x y z h => absurd h (by omega), _, _, _, rfl⟩, ?_, ?_⟩
  · rintro x e ρ' cs' hi ⟨rfl, hI, z1, z2, z3, rfl⟩
    obtain ⟨hx, rfl⟩ := rng_item hi
    walk_at "tgt"
    walk_at "for"
    walk_at "rng"
    walk_at "ev"
    refine ⟨by omega, fun i ρ cs => cs = [] ∧ (∀ y z, y < i → z < y → Mt x (J y z) = J (Mt x y) (Mt x z)) ∧ ∃ z2 z3, ρ = [some (.lst (tabL n J)), some (.lst (tabL n Mt)), some (natD n), some (natD x), z2, z3], ⟨rfl, fun y z h => absurd h (by omega), _, _, rfl⟩, ?_, ?_⟩
    · rintro y e ρ' cs' hi ⟨rfl, hI2, z2, z3, rfl⟩
      obtain ⟨hy, rfl⟩ := rng_item hi
      walk_at "tgt"
      walk_at "for"
      walk_at "rng"
      walk_at "ev"
      refine ⟨by omega, fun i ρ cs => cs = [] ∧ (∀ z, z < i → Mt x (J y z) = J (Mt x y) (Mt x z)) ∧ ∃ z3, ρ = [some (.lst (tabL n J)), some (.lst (tabL n Mt)), some (natD n), some (natD x), some (natD y), z3], ⟨rfl, fun z h => absurd h (by omega), _, rfl⟩, ?_, ?_⟩
      · rintro z e ρ' cs' hi ⟨rfl, hI3, z3, rfl⟩
        obtain ⟨hz, rfl⟩ := rng_item hi
        have hzn : z < n := by omega
        walk_at "tgt"
        walk_at "st"
        walk_at "ev"
        refine ⟨_, _, _, .inl rfl, rfl, tabL_get hx, ?_⟩
        walk_at "ev"
        refine ⟨_, _, _, .inl rfl, rfl, tabL_get hy, ?_⟩
        walk_at "ev"
        refine ⟨_, _, _, .inl rfl, rfl, rowD_get hzn, ?_⟩
        refine ⟨_, _, _, .inl rfl, rfl, rowD_get (bJ y z hy hzn), ?_⟩
        walk_at "ev"
        refine ⟨_, _, _, .inl rfl, rfl, tabL_get hx, ?_⟩
        walk_at "ev"
        refine ⟨_, _, _, .inl rfl, rfl, rowD_get hy, ?_⟩
        refine ⟨_, _, _, .inl rfl, rfl, tabL_get (bM x y hx hy), ?_⟩
        walk_at "ev"
        refine ⟨_, _, _, .inl rfl, rfl, tabL_get hx, ?_⟩
        walk_at "ev"
        refine ⟨_, _, _, .inl rfl, rfl, rowD_get hzn, ?_⟩
        refine ⟨_, _, _, .inl rfl, rfl, rowD_get (bM x z hx hzn), ?_⟩
        refine ⟨_, flat_nat _ _, fun h => ?_, fun h => ?_⟩
        · have h1 : ¬ Mt x (J y z) = J (Mt x y) (Mt x z) := by simpa using h
          walk_at "st"
          walk_at "ev"
          rw [distL_no hx hy hz h1] at kont
          exact kont
        · have h1 : Mt x (J y z) = J (Mt x y) (Mt x z) := by simpa using h
          walk_at "st"
          walk_at "st"
          refine ⟨rfl, fun z' hz' => ?_, _, rfl⟩
          by_cases e : z' = z
          · rw [e]; exact h1
          · exact hI3 z' (by omega)
      · rintro ρ' cs' ⟨rfl, hI3, z3, rfl⟩
        have hI3 : ∀ z, z < y → Mt x (J y z) = J (Mt x y) (Mt x z) := hI3
        walk_at "st"
        refine ⟨rfl, fun y' z' hy' hz' => ?_, _, _, rfl⟩
        by_cases e : y' = y
        · rw [e] at hz' ⊢; exact hI3 z' hz'
        · exact hI2 y' z' (by omega) hz'
    · rintro ρ' cs' ⟨rfl, hI2, z2, z3, rfl⟩
      have hI2 : ∀ y z, y < n → z < y → Mt x (J y z) = J (Mt x y) (Mt x z) := hI2
      walk_at "st"
      refine ⟨rfl, fun x' y' z' hx' hy' hz' => ?_, _, _, _, rfl⟩
      by_cases e : x' = x
      · rw [e]; exact hI2 y' z' hy' hz'
      · exact hI x' y' z' (by omega) hy' hz'
  · rintro ρ' cs' ⟨rfl, hI, z1, z2, z3, rfl⟩
    walk_at "st"
    walk_at "ev"
    have hI : ∀ x y z, x < n → y < n → z < y → Mt x (J y z) = J (Mt x y) (Mt x z) := hI
    rw [distL_yes hI] at kont
    exact kont
abbrev sLIrr : Stmt := topS 43
abbrev nLIrr : List Str := ["_law_table", "_law_n", "_law_found", "_law_x", "_law_below", "_law_y", "_law_top", "_law_z"]
theorem scLIrr : FnScope nLIrr ["_law_table"] (defScope sLIrr) := ⟨rfl, rfl, rfl, by decide +kernel, rfl, by decide +kernel, by decide +kernel⟩
def S_lirr : List Dt → (Dt → Prop) → (Str → Prop) → Prop := fun ds P _ => ∃ (n : Nat) (T : Rl), ds = [.lst (tabB n T)] ∧ n ≤ 900 ∧ P (.lst ((irrT n T).map natD))
theorem ok_lirr {f : Addr} {fd : FuncData} (F : Fun K "_law_irreducible" "_law_irreducible" sLIrr f fd) (M : Mods mg) : FnOk P w K mg base CX0 2 f fd ["_law_table"] (spOf K CR (pureS S_lirr)) := by
  refine def_ok F scLIrr (fun ds cs Pd R ⟨_, n, T, h, _⟩ => by rw [h]; rfl) fun cdv A outer s F H E ds cs Pd R0 hr ⟨hcs, n, T, hd, hn, kont⟩ => ?_
  subst hcs
  subst hd
  have hnd := scLIrr.nd
  have hN := cx_N CX0 P w K mg base nLIrr "_law_irreducible" (defScope sLIrr) f cdv A outer s H E
  walk_at "st"
  walk_at "ev"
  refine ⟨_, .inl rfl, ?_⟩
  rw [tabB_len]
  walk_at "newl"
  intro p
  walk_at "for"
  walk_at "rng"
  walk_at "ev"
  refine ⟨by omega, fun i ρ cs => cs = [(p, .l (((List.range i).filter fun x => decide ((topT n T x).length = 1)).map natD))] ∧ ∃ z1 z2 z3 z4 z5, ρ = [some (.lst (tabB n T)), some (natD n), some (.cell p), z1, z2, z3, z4, z5], ⟨rfl, _, _, _, _, _, rfl⟩, ?_, ?_⟩
  · rintro x e ρ' cs' hi ⟨rfl, z1, z2, z3, z4, z5, rfl⟩
    obtain ⟨hx, rfl⟩ := rng_item hi
    have hlen := List.length_filter_le (fun x => decide ((topT n T x).length = 1)) (List.range x)
    rw [List.length_range] at hlen
    have hbl := belT_len n T x
    walk_at "tgt"
    refine as_setU hN (by walk_at "ix") hnd (ax_lcQ hN (by walk_at "ix") hnd (blkOk_by (sc := defScope sLIrr) (by decide +kernel)) rfl (ai_range1 M.range ?_))
    walk_at "ev"
    refine ⟨by omega, by show n ≤ 90000; omega, ⟨1, rfl⟩, fun y => if T y x then some (natD y) else none, fun y d hyi => ?_, ?_⟩
    · obtain ⟨hy, rfl⟩ := rng_item hyi
      intro s0 H0 C cl fp D acc
      refine ats_one ?_
      walk_at "ev"
      refine ⟨_, _, _, .inl rfl, rfl, tabB_get hy, ?_⟩
      walk_at "ev"
      refine ⟨_, _, _, .inl rfl, rfl, bRow_get hx, _, rfl, rfl, fun hk _ _ _ _ _ => ?_, fun hk => if_neg (by rw [hk]; exact Bool.false_ne_true)⟩
      walk_at "ev"
      exact ⟨rfl, if_pos hk⟩
    have e1 : (List.range (Src.len (.rng 0 n))).filterMap (fun y => if T y x then some (natD y) else none) = (belT n T x).map natD := fm_filter n (fun y => T y x) natD
    rw [e1]
    refine as_cons (a1_lcC hN (by walk_at "ix") hnd (blkOk_by (sc := defScope sLIrr) (by decide +kernel)) rfl (by walk_at "ix") rfl rfl rfl rfl (ai_seq ?_))
    walk_at "ev"
    refine ⟨_, .inl rfl, by show ((belT n T x).map natD).length ≤ 90000; rw [List.length_map]; omega, fun j => ((belT n T x)[j]?).bind fun y => if decide (((belT n T x).filter fun z => T y z).length = 0) then some (natD y) else none, fun j d hj => ?_, fun q => ?_⟩
    · obtain ⟨y, hy, rfl⟩ := item_map hj
      have hyn := belT_lt (List.mem_of_getElem? hy)
      intro s0 H0 C cl fp D acc
      refine ats_one ?_
      walk_at "ev"
      refine ax_lcQ2 hN (by walk_at "ix") hnd (sc := defScope sLIrr) rfl (blkOk_by (by decide +kernel)) (ai_seq ?_)
      walk_at "ev"
      refine ⟨_, .inl rfl, by show ((belT n T x).map natD).length ≤ 90000; rw [List.length_map]; omega, ⟨2, rfl⟩, fun j => ((belT n T x)[j]?).bind fun z => if T y z then some (natD z) else none, fun j2 d2 hj2 => ?_, ?_⟩
      · obtain ⟨z, hz, rfl⟩ := item_map hj2
        have hzn := belT_lt (List.mem_of_getElem? hz)
        intro s0 H0 C cl fp D acc
        refine ats_one ?_
        walk_at "ev"
        refine ⟨_, _, _, .inl rfl, rfl, tabB_get hyn, ?_⟩
        walk_at "ev"
        refine ⟨_, _, _, .inl rfl, rfl, bRow_get hzn, _, rfl, rfl, fun hk _ _ _ _ _ => ?_, fun hk => ?_⟩
        · walk_at "ev"
          refine ⟨rfl, ?_⟩
          show ((belT n T x)[j2]?).bind _ = _
          rw [hz]
          exact if_pos hk
        · show ((belT n T x)[j2]?).bind _ = _
          rw [hz]
          exact if_neg (by rw [hk]; exact Bool.false_ne_true)
      · have e2 : ((List.range (Src.len (.seq ((belT n T x).map natD)))).filterMap fun j => ((belT n T x)[j]?).bind fun z => if T y z then some (natD z) else none) = ((belT n T x).filter fun z => T y z).map natD := by
          show ((List.range ((belT n T x).map natD).length).filterMap _) = _
          rw [List.length_map, fm_get, fm_if]
        rw [e2]
        refine ⟨_, .inl rfl, ?_⟩
        rw [List.length_map]
        walk_at "ev"
        rw [show (0 : Int) = ((0 : Nat) : Int) from rfl, dec_nat]
        refine ⟨rfl, fun hk _ _ _ _ _ => ?_, fun hk => ?_⟩
        · walk_at "ev"
          refine ⟨rfl, ?_⟩
          show ((belT n T x)[j]?).bind _ = _
          rw [hy]
          exact if_pos hk
        · show ((belT n T x)[j]?).bind _ = _
          rw [hy]
          exact if_neg (by rw [hk]; exact Bool.false_ne_true)
    have e3 : ((List.range (Src.len (.seq ((belT n T x).map natD)))).filterMap fun j => ((belT n T x)[j]?).bind fun y => if decide (((belT n T x).filter fun z => T y z).length = 0) then some (natD y) else none) = (topT n T x).map natD := by
      show ((List.range ((belT n T x).map natD).length).filterMap _) = _
      rw [List.length_map, fm_get, fm_if (fun y => decide (((belT n T x).filter fun z => T y z).length = 0))]
      rfl
    rw [e3]
    refine as_freeze 6 0 rfl rfl ⟨2, by decide, rfl⟩ ?_
    walk_at "st"
    walk_at "ev"
    refine ⟨_, .inl rfl, ?_⟩
    rw [List.length_map]
    walk_at "ev"
    rw [show (1 : Int) = ((1 : Nat) : Int) from rfl, dec_nat]
    refine ⟨fun h1 => ?_, fun h1 => ?_⟩
    · walk_at "st"
      refine ax_append ?_
      walk_at "ev"
      refine ⟨⟨0, _, rfl⟩, ?_⟩
      walk_at "ev"
      refine ⟨0, _, rfl, by rw [List.length_map]; omega, ?_⟩
      walk_at "st"
      walk_at "st"
      refine ⟨?_, _, _, _, _, _, rfl⟩
      rw [filter_succ_t h1, List.map_append]
      rfl
    · walk_at "st"
      walk_at "st"
      refine ⟨?_, _, _, _, _, _, rfl⟩
      rw [filter_succ_f h1]
      rfl
  rintro ρ' cs' ⟨rfl, z1, z2, z3, z4, z5, rfl⟩
  refine as_freeze 2 0 rfl rfl ⟨1, by decide, rfl⟩ ?_
  walk_at "st"
  walk_at "ev"
  exact kont
end

end G
namespace G
open PySem PySem.Spec PyProof.Rows L2 Evl
local macro_rules | `(tactic| walk_at "ix") => `(tactic| with_reducible (first
  | exact AtN.z | exact AtN.s AtN.z | exact AtN.s (AtN.s AtN.z) | exact AtN.s (AtN.s (AtN.s AtN.z)) | exact AtN.s (AtN.s (AtN.s (AtN.s AtN.z)))
  | exact AtN.s (AtN.s (AtN.s (AtN.s (AtN.s AtN.z)))) | exact AtN.s (AtN.s (AtN.s (AtN.s (AtN.s (AtN.s AtN.z))))) | exact AtN.s (AtN.s (AtN.s (AtN.s (AtN.s (AtN.s (AtN.s AtN.z))))))
  | exact AtN.s (AtN.s (AtN.s (AtN.s (AtN.s (AtN.s (AtN.s (AtN.s AtN.z))))))) | exact AtN.s (AtN.s (AtN.s (AtN.s (AtN.s (AtN.s (AtN.s (AtN.s (AtN.s AtN.z)))))))) | exact AtN.s (AtN.s (AtN.s (AtN.s (AtN.s (AtN.s (AtN.s (AtN.s (AtN.s (AtN.s AtN.z)))))))))
  | exact AtN.s (AtN.s (AtN.s (AtN.s (AtN.s (AtN.s (AtN.s (AtN.s (AtN.s (AtN.s (AtN.s AtN.z))))))))))
  | exact AtN.s (AtN.s (AtN.s (AtN.s (AtN.s (AtN.s (AtN.s (AtN.s (AtN.s (AtN.s (AtN.s (AtN.s AtN.z)))))))))))
  | exact AtN.s (AtN.s (AtN.s (AtN.s (AtN.s (AtN.s (AtN.s (AtN.s (AtN.s (AtN.s (AtN.s (AtN.s (AtN.s AtN.z))))))))))))
  | exact AtN.s (AtN.s (AtN.s (AtN.s (AtN.s (AtN.s (AtN.s (AtN.s (AtN.s (AtN.s (AtN.s (AtN.s (AtN.s (AtN.s AtN.z)))))))))))))
  | exact AtN.s (AtN.s (AtN.s (AtN.s (AtN.s (AtN.s (AtN.s (AtN.s (AtN.s (AtN.s (AtN.s (AtN.s (AtN.s (AtN.s (AtN.s AtN.z))))))))))))))))
local macro_rules | `(tactic| walk_at "ev1") => `(tactic| first
  | with_reducible refine ax_int ?_ | with_reducible refine ax_bl ?_ | with_reducible refine ax_non ?_ | with_reducible refine ax_str ?_
  | ((with_reducible show Ax _ _ (Expr.Name _ _) _ _ _); refine ax_u $(Lean.mkIdent `hN) (by walk_at "ix") rfl ?_)
  | ((with_reducible show Ax _ _ (Expr.Compare _ _ _ _) _ _ _); first | (with_reducible refine ax_cmpR cmp_lt ?_) | (with_reducible refine ax_cmpR cmp_le ?_) | (with_reducible refine ax_cmpR cmp_gt ?_) | (with_reducible refine ax_cmpR cmp_ge ?_) | (with_reducible refine ax_cmpR cmp_eq ?_) | (with_reducible refine ax_cmpR cmp_ne ?_) | (with_reducible refine ax_cmpR cmp_is ?_) | (with_reducible refine ax_cmpR cmp_isN ?_))
  | ((with_reducible show At _ _ (Expr.Compare _ _ _ _) _ _ _); first | (with_reducible refine at_cmpR cmp_lt ?_) | (with_reducible refine at_cmpR cmp_le ?_) | (with_reducible refine at_cmpR cmp_gt ?_) | (with_reducible refine at_cmpR cmp_ge ?_) | (with_reducible refine at_cmpR cmp_eq ?_) | (with_reducible refine at_cmpR cmp_ne ?_) | (with_reducible refine at_cmpR cmp_is ?_) | (with_reducible refine at_cmpR cmp_isN ?_))
  | with_reducible refine ax_add ?_ | with_reducible refine ax_sub ?_ | with_reducible refine ax_mul ?_ | with_reducible refine ax_fdiv ?_ | with_reducible refine ax_mod ?_ | with_reducible refine ax_shl ?_ | with_reducible refine ax_shr ?_ | with_reducible refine ax_and ?_ | with_reducible refine ax_or ?_ | with_reducible refine ax_neg ?_
  | with_reducible refine ax_one ?_ | with_reducible refine ax_andv ?_ | with_reducible refine ax_orv ?_ | with_reducible refine ax_notv ?_ | with_reducible refine at_one ?_ | with_reducible refine at_and ?_ | with_reducible refine at_or ?_ | with_reducible refine at_not ?_ | with_reducible refine ax_if ?_
  | ((with_reducible show Ax _ _ (Expr.Subscript _ _ _) _ _ _); refine ax_ix ?_) | with_reducible refine ax_tup ?_ | ((with_reducible show Aa _ _ (_ :: _) _ _ _); refine aa_cons ?_) | with_reducible refine aa_nil ?_
  | ((with_reducible show Ax _ _ (Expr.Call (Expr.Name "len" _) _ _ _) _ _ _); refine ax_len (Mods.len $(Lean.mkIdent `M)) ?_)
  | ((with_reducible show Ax _ _ (Expr.Call (Expr.Name "int" _) _ _ _) _ _ _); refine ax_int1 (Mods.int $(Lean.mkIdent `M)) ?_)
  | ((with_reducible show Ax _ _ (Expr.Call (Expr.Name "abs" _) _ _ _) _ _ _); refine ax_abs (Mods.abs $(Lean.mkIdent `M)) ?_)
  | ((with_reducible show Ax _ _ (Expr.Call (Expr.Name "tuple" _) _ _ _) _ _ _); refine ax_tuple (Mods.tuple $(Lean.mkIdent `M)) ?_)
  | ((with_reducible show Ax _ _ (Expr.Call (Expr.Name "has" _) _ _ _) _ _ _); refine ax_call $(Lean.mkIdent `cHas) (Room.mono $(Lean.mkIdent `hr) (by decide)) pas0 ?_)
  | ((with_reducible show Ax _ _ (Expr.Call (Expr.Name "set_of" _) _ _ _) _ _ _); refine ax_call $(Lean.mkIdent `cSetOf) (Room.mono $(Lean.mkIdent `hr) (by decide)) pas0 ?_)
  | ((with_reducible show Ax _ _ (Expr.Call (Expr.Name "members" _) _ _ _) _ _ _); refine ax_call $(Lean.mkIdent `cMembers) (Room.mono $(Lean.mkIdent `hr) (by decide)) pas0 ?_)
  | ((with_reducible show Ax _ _ (Expr.Call (Expr.Name "is_integer" _) _ _ _) _ _ _); refine ax_call $(Lean.mkIdent `cIsInt) (Room.mono $(Lean.mkIdent `hr) (by decide)) pas0 ?_)
  | ((with_reducible show Ax _ _ (Expr.Call (Expr.Attribute _ "bit_length" _) _ _ _) _ _ _); refine ax_bits ?_)
  | ((with_reducible show Ax _ _ (Expr.Call (Expr.Name "isinstance" _) [_, Expr.Name "int" _] _ _) _ _ _); refine ax_isi (u := "int") (Mods.isinstance $(Lean.mkIdent `M)) (Mods.int $(Lean.mkIdent `M)) boot_int ?_)
  | ((with_reducible show Ax _ _ (Expr.Call (Expr.Name "isinstance" _) [_, Expr.Name "bool" _] _ _) _ _ _); refine ax_isi (u := "bool") (Mods.isinstance $(Lean.mkIdent `M)) (Mods.bool $(Lean.mkIdent `M)) boot_bool ?_)
  | ((with_reducible show Ax _ _ (Expr.Call (Expr.Name "isinstance" _) [_, Expr.Name "tuple" _] _ _) _ _ _); refine ax_isi (u := "tuple") (Mods.isinstance $(Lean.mkIdent `M)) (Mods.tuple $(Lean.mkIdent `M)) boot_tuple ?_)
  | ((with_reducible show Ax _ _ (Expr.Call (Expr.Name "isinstance" _) [_, Expr.Tuple [Expr.Name "list" _, Expr.Name "tuple" _] _ _] _ _) _ _ _); refine ax_isi2 (u1 := "list") (u2 := "tuple") (Mods.isinstance $(Lean.mkIdent `M)) (Mods.list $(Lean.mkIdent `M)) (Mods.tuple $(Lean.mkIdent `M)) boot_list boot_tuple ?_)
  | ((with_reducible show ∃ t k, tyD _ = some t ∧ kitB t _ = some k ∧ _); refine ⟨_, _, rfl, by with_reducible (first | exact kit_ii | exact kit_ib | exact kit_tt), ?_⟩)
  | ((with_reducible show S_isInt _ _ _); refine ⟨_, rfl, ?_⟩) | ((with_reducible show S_has _ _ _); refine ⟨_, _, rfl, ?_⟩)
  | ((with_reducible show REq _ _ _ _); refine ⟨_, rfl, ?_⟩) | ((with_reducible show RNe _ _ _ _); refine ⟨_, rfl, ?_⟩) | ((with_reducible show RI _ _ _ _ _); refine ⟨_, _, rfl, rfl, ?_⟩)
  | with_reducible refine ⟨_, _, rfl, rfl, ?_⟩
  | with_reducible refine ⟨_, rfl, ?_⟩
  | ((with_reducible show At _ _ (Expr.Name _ _) _ _ _); refine at_val ?_) | ((with_reducible show At _ _ (Expr.Call _ _ _ _) _ _ _); refine at_val ?_) | ((with_reducible show At _ _ (Expr.Subscript _ _ _) _ _ _); refine at_val ?_))
local macro_rules | `(tactic| walk_at "ev") => `(tactic| repeat walk_at "ev1")
local macro_rules | `(tactic| walk_at "st1") => `(tactic| first
    | ((with_reducible show A1 _ _ (Stmt.Return _ _) _ _ _); refine a1_ret ?_)
    | ((with_reducible show A1 _ _ (Stmt.If _ _ _ _) _ _ _); refine a1_if ?_)
    | ((with_reducible show A1 _ _ (Stmt.Expr _ _) _ _ _); refine a1_drop ?_)
    | ((with_reducible show A1 _ _ (Stmt.Assign [Expr.Name _ _] _ _) _ _ _); refine a1_setU $(Lean.mkIdent `hN) (by walk_at "ix") $(Lean.mkIdent `hnd) ?_)
    | ((with_reducible show A1 _ _ (Stmt.Assign _ _ _) _ _ _); refine a1_asg ?_))
local macro_rules | `(tactic| walk_at "st") => `(tactic| first
  | ((with_reducible show As _ _ [] _ _ _); refine as_nil ?_)
  | (refine as_cons ?_; walk_at "st1"))
local macro_rules | `(tactic| walk_at "newl") => `(tactic| refine as_setU $(Lean.mkIdent `hN) (by walk_at "ix") $(Lean.mkIdent `hnd) (ax_lstC (aa_nil ⟨by decide, ?_⟩)))
local macro_rules | `(tactic| walk_at "for") => `(tactic| (refine as_cons ?_; refine a1_for ?hp ?_ ?hc ?hs; (case hp => exact PassesOwn.never); (case hc => rfl); (case hs => intro _; rfl)))
local macro_rules | `(tactic| walk_at "tgt") => `(tactic| refine ag_nameU $(Lean.mkIdent `hN) (by walk_at "ix") $(Lean.mkIdent `hnd) ?_)
local macro_rules | `(tactic| walk_at "rng") => `(tactic| refine ai_range1 (Mods.range $(Lean.mkIdent `M)) ?_)
local macro_rules | `(tactic| walk_at "while") => `(tactic| (refine as_cons ?_; refine a1_while ?hp ?I ?h0 ?hs; (case hp => exact PassesOwn.never)))
local macro_rules | `(tactic| walk_at "pair") => `(tactic| refine ag_pairU $(Lean.mkIdent `hN) (by walk_at "ix") (by walk_at "ix") $(Lean.mkIdent `hnd) ?hd ?_)
local macro_rules | `(tactic| walk_at "blk") => `(tactic| exact blkOk_by (by decide +kernel))
local macro_rules | `(tactic| walk_at "forX") => `(tactic| (refine as_cons ?_; refine a1_for ?hp ?_ ?hc ?hs; (case hp => exact passes_of rfl); (case hc => rfl); (case hs => intro _; rfl)))
/-! L12: pictures -/
def StkD (T : Ent) : Prop := T.mu = []
theorem bits_andm (a b : Nat) : sumB ((membersN a).filter fun j => decide (j ∈ membersN b)) = a &&& b := by
  unfold membersN
  rw [List.filter_filter]
  rw [sumB_filter]
  refine bitsOf_eq fun y => ?_
  rw [Nat.testBit_and]
  have hm : decide (y ∈ (List.range (Builtin.Int.intBits (b : Nat))).filter b.testBit) = b.testBit y := mem_membersN b y
  rw [hm]
  by_cases hy : y < Builtin.Int.intBits (a : Nat)
  · rw [decide_eq_true hy, Bool.true_and, Bool.and_comm]
  · rw [decide_eq_false hy, Bool.false_and, Nat.testBit_lt_two_pow (Nat.lt_of_lt_of_le (intBits_nat a) (Nat.pow_le_pow_right (by omega) (by omega))), Bool.false_and]
theorem bits_orm {m a b : Nat} (ha : a < 2 ^ m) (hb : b < 2 ^ m) : sumB ((List.range m).filter fun j => decide (j ∈ membersN a) || decide (j ∈ membersN b)) = a ||| b := by
  rw [sumB_filter]
  refine bitsOf_eq fun y => ?_
  rw [Nat.testBit_or, mem_membersN, mem_membersN]
  by_cases hy : y < m
  · rw [decide_eq_true hy, Bool.true_and]
  · have h1 := Nat.pow_le_pow_right (n := 2) (by omega) (show m ≤ y by omega)
    rw [decide_eq_false hy, Nat.testBit_lt_two_pow (Nat.lt_of_lt_of_le ha h1), Nat.testBit_lt_two_pow (Nat.lt_of_lt_of_le hb h1)]
    rfl
theorem imgN_lt (c : List Nat) (R : Rl) (x : Nat) : imgN c R x < 2 ^ c.length := bitsOf_lt _ _
theorem map_atL {α : Type} (c : List Nat) (f : Nat → α) : c.map f = (List.range c.length).map fun i => f (atL c i) := by
  refine List.ext_getElem? fun i => ?_
  rw [List.getElem?_map]
  by_cases hi : i < c.length
  · rw [atL_get hi, List.getElem?_map, List.getElem?_range hi]
    rfl
  · rw [List.getElem?_eq_none (by omega), List.getElem?_eq_none (by rw [List.length_map, List.length_range]; omega)]
    rfl
section
variable {P : Program} {w : World} {K : PySem.W.Frag} {mg : Str → Option Value} {base : Heap} {CR : Addr}
abbrev sPic : Stmt := topS 45
abbrev nPic : List Str := ["_law_found", "_law_table", "_law_chosen", "_law_joins", "_law_meets", "_law_n", "_law_x", "_law_due", "_law_k", "_law_small", "_law_y", "_law_bits_here", "_law_one", "_law_two", "_law_union", "_law_j"]
theorem scPic : FnScope nPic ["_law_found", "_law_table", "_law_chosen", "_law_joins", "_law_meets"] (defScope sPic) := ⟨rfl, rfl, rfl, by decide +kernel, rfl, by decide +kernel, by decide +kernel⟩
def S_pic : List Dt → (Dt → Prop) → (Str → Prop) → Prop := fun ds P _ => ∃ (n : Nat) (R : Rl) (c : List Nat) (J M : Nat → Nat → Nat), ds = [.tup (rowD n (imgN c R)), .lst (tabB n R), .lst (c.map natD), .lst (tabL n J), .lst (tabL n M)] ∧ n ≤ 100 ∧ c.length ≤ 10 ∧ (∀ x ∈ c, x < n) ∧ BelowN n J ∧ BelowN n M ∧
  (∀ b ∈ lowS c.length (belR c R), ((List.range n).filter fun x => decide (imgN c R x = b)).length = 1) ∧
  (∀ x y, x < n → y < x → imgN c R (J x y) = imgN c R x ||| imgN c R y ∧ imgN c R (M x y) = imgN c R x &&& imgN c R y) ∧ P (.bl true)
set_option maxHeartbeats 8000000 in
theorem ok_pic {f : Addr} {fd : FuncData} (F : Fun K "_law_pictures" "_law_pictures" sPic f fd) (M : Mods mg) (cBits : Fo P w K mg base CX0 CR 2 "_law_bits" (pureS S_bits)) (cPts : Fo P w K mg base CX0 CR 1 "_law_points" (pureS S_points)) (cLss : Fo P w K mg base CX0 CR 3 "_law_lower_sets" (pureS S_lss)) :
    FnOk P w K mg base CX0 4 f fd ["_law_found", "_law_table", "_law_chosen", "_law_joins", "_law_meets"] (spOf K CR (pureS S_pic)) := by
  refine def_ok F scPic (fun ds cs Pd R ⟨_, n, R, c, J, M, h, _⟩ => by rw [h]; rfl) fun cdv A outer s F H E ds cs Pd R0 hr ⟨hcs, n, R, c, J, Mt, hd, hn, hc10, hcn, bJ, bM, hB, hJM, kont⟩ => ?_
  subst hcs
  subst hd
  have hnd := scPic.nd
  have hN := cx_N CX0 P w K mg base nPic "_law_pictures" (defScope sPic) f cdv A outer s H E
  have gc : ∀ k, k < c.length → (c.map natD)[k]? = some (natD (atL c k)) := fun k hk => by rw [List.getElem?_map, atL_get hk]; rfl
  have hpow : 2 ^ c.length ≤ 2 ^ 900 := Nat.pow_le_pow_right (n := 2) (by decide) (by omega)
  have him : ∀ x, imgN c R x < 2 ^ 900 := fun x => Nat.lt_of_lt_of_le (imgN_lt c R x) hpow
  walk_at "st"
  walk_at "ev"
  refine ⟨_, .inl rfl, ?_⟩
  rw [tabB_len]
  walk_at "st"
  walk_at "ev"
  refine ⟨fun h => (nomatch h), fun _ => ?_⟩
  walk_at "ev"
  refine ⟨_, .inr (.inl rfl), ?_⟩
  rw [rowD_len]
  walk_at "ev"
  rw [dec_nat, decide_eq_true (rfl : n = n)]
  refine ⟨fun h => (nomatch h), fun _ => ?_⟩
  walk_at "st"
  walk_at "for"
  walk_at "rng"
  walk_at "ev"
  refine ⟨by omega, fun i ρ cs => cs = [] ∧ ∃ z1 z2 z3 z4 z5 z6 z7 z8 z9 z10, ρ = [some (.tup (rowD n (imgN c R))), some (.lst (tabB n R)), some (.lst (c.map natD)), some (.lst (tabL n J)), some (.lst (tabL n Mt)), some (natD n), z1, z2, z3, z4, z5, z6, z7, z8, z9, z10], ⟨rfl, _, _, _, _, _, _, _, _, _, _, rfl⟩, ?_, ?_⟩
  · rintro x e ρ' cs' hi ⟨rfl, z1, z2, z3, z4, z5, z6, z7, z8, z9, z10, rfl⟩
    obtain ⟨hx, rfl⟩ := rng_item hi
    walk_at "tgt"
    refine as_setU hN (by walk_at "ix") hnd (ax_call cBits (Room.mono hr (by decide)) pas0 ?_)
    refine aa_cons (ax_lcQ hN (by walk_at "ix") hnd (blkOk_by (sc := defScope sPic) (by decide +kernel)) rfl (ai_range1 M.range ?_))
    walk_at "ev"
    refine ⟨_, .inl rfl, c.length, by rw [List.length_map], by omega, by show c.length ≤ 90000; omega, ⟨0, rfl⟩, fun k => if decide (atL c k = x) || R (atL c k) x then some (natD k) else none, fun k d hk => ?_, ?_⟩
    · obtain ⟨hk1, rfl⟩ := rng_item hk
      intro s0 H0 C cl fp D acc
      refine ats_one ?_
      walk_at "ev"
      refine ⟨_, _, _, .inl rfl, rfl, gc k hk1, ?_⟩
      walk_at "ev"
      rw [dec_nat]
      refine ⟨fun h1 => ⟨rfl, fun _ _ _ _ _ _ => ?_, fun h => (nomatch h)⟩, fun h1 => ?_⟩
      · walk_at "ev"
        exact ⟨rfl, if_pos (by rw [h1]; rfl)⟩
      · walk_at "ev"
        refine ⟨_, _, _, .inl rfl, rfl, gc k hk1, ?_⟩
        refine ⟨_, _, _, .inl rfl, rfl, tabB_get (hcn _ (atL_mem hk1)), ?_⟩
        walk_at "ev"
        refine ⟨_, _, _, .inl rfl, rfl, bRow_get hx, _, rfl, rfl, fun hk _ _ _ _ _ => ?_, fun hk => if_neg (by rw [h1, hk]; exact Bool.false_ne_true)⟩
        walk_at "ev"
        exact ⟨rfl, if_pos (by rw [h1, hk]; rfl)⟩
    have e1 : (List.range (Src.len (.rng 0 c.length))).filterMap (fun k => if decide (atL c k = x) || R (atL c k) x then some (natD k) else none) = ((List.range c.length).filter fun k => decide (atL c k = x) || R (atL c k) x).map natD := fm_filter c.length (fun k => decide (atL c k = x) || R (atL c k) x) natD
    rw [e1]
    walk_at "ev"
    refine ⟨_, rfl, fun k hk => ?_, ?_⟩
    · have := List.mem_range.mp (List.mem_filter.mp hk).1
      omega
    rw [sumB_filter]
    walk_at "st"
    walk_at "ev"
    refine ⟨_, _, _, .inr (.inl rfl), rfl, rowD_get hx, ?_⟩
    walk_at "ev"
    refine ⟨fun h => (nomatch h), fun _ => ?_⟩
    walk_at "ev"
    refine ⟨_, _, _, .inr (.inl rfl), rfl, rowD_get hx, ?_⟩
    walk_at "ev"
    refine ⟨fun h => (nomatch h), fun _ => ?_⟩
    walk_at "ev"
    refine ⟨_, _, _, .inr (.inl rfl), rfl, rowD_get hx, ?_⟩
    walk_at "ev"
    have e2 : decide (((imgN c R x : Nat) : Int) = ((bitsOf c.length (fun k => decide (atL c k = x) || R (atL c k) x) : Nat) : Int)) = true := decide_eq_true rfl
    rw [e2]
    refine ⟨fun h => (nomatch h), fun _ => ?_⟩
    walk_at "st"
    walk_at "st"
    exact ⟨rfl, _, _, _, _, _, _, _, _, _, _, rfl⟩
  rintro ρ' cs' ⟨rfl, z1, z2, z3, z4, z5, z6, z7, z8, z9, z10, rfl⟩
  refine as_cons (a1_lcC hN (by walk_at "ix") hnd (blkOk_by (sc := defScope sPic) (by decide +kernel)) rfl (by walk_at "ix") rfl rfl rfl rfl (ai_seq ?_))
  walk_at "ev"
  refine ⟨_, .inl rfl, by show (c.map natD).length ≤ 90000; rw [List.length_map]; omega, fun i => (c[i]?).bind fun x => some (.lst (c.map fun y => .bl (R x y))), fun i d hi => fun s0 H0 C cl fp D acc => ats_nil ⟨rfl, fun _ _ _ _ _ _ => ?_, fun h => (nomatch h)⟩, fun q => ?_⟩
  · obtain ⟨x, hx, rfl⟩ := item_map hi
    have hxn := hcn x (List.mem_of_getElem? hx)
    refine ax_lcQ2 hN (by walk_at "ix") hnd (sc := defScope sPic) rfl (blkOk_by (by decide +kernel)) (ai_seq ?_)
    walk_at "ev"
    refine ⟨_, .inl rfl, by show (c.map natD).length ≤ 90000; rw [List.length_map]; omega, ⟨1, rfl⟩, fun j => (c[j]?).bind fun y => some (.bl (R x y)), fun j d hj => fun s0 H0 C cl fp D acc => ats_nil ⟨rfl, fun _ _ _ _ _ _ => ?_, fun h => (nomatch h)⟩, ?_⟩
    · obtain ⟨y, hy, rfl⟩ := item_map hj
      have hyn := hcn y (List.mem_of_getElem? hy)
      walk_at "ev"
      refine ⟨_, _, _, .inl rfl, rfl, tabB_get hxn, ?_⟩
      walk_at "ev"
      refine ⟨_, _, _, .inl rfl, rfl, bRow_get hyn, rfl, ?_⟩
      show (c[j]?).bind _ = _
      rw [hy]
      rfl
    · refine ⟨rfl, ?_⟩
      have e2 : ((List.range (Src.len (.seq (c.map natD)))).filterMap fun j => (c[j]?).bind fun y => some (Dt.bl (R x y))) = c.map fun y => .bl (R x y) := by
        show ((List.range (c.map natD).length).filterMap _) = _
        rw [List.length_map, fm_get, fm_some]
      rw [e2]
      show (c[i]?).bind _ = _
      rw [hx]
      rfl
  have e1 : ((List.range (Src.len (.seq (c.map natD)))).filterMap fun i => (c[i]?).bind fun x => some (Dt.lst (c.map fun y => .bl (R x y)))) = tabB c.length (belR c R) := by
    show ((List.range (c.map natD).length).filterMap _) = _
    rw [List.length_map, fm_get, fm_some, map_atL]
    refine map_range_congr fun i hi => ?_
    rw [map_atL]
    rfl
  rw [e1]
  refine as_freeze 9 0 rfl rfl ⟨1, by decide, rfl⟩ ?_
  walk_at "for"
  refine ai_seq (ax_call cLss (Room.mono hr (by decide)) pas0 ?_)
  walk_at "ev"
  refine ⟨c.length, belR c R, rfl, hc10, fun l hl => ⟨_, .inl rfl, fun i ρ cs => cs = [] ∧ ∃ z1 z2 z3 z4 z5 z6 z7 z8 z9 z10, ρ = [some (.tup (rowD n (imgN c R))), some (.lst (tabB n R)), some (.lst (c.map natD)), some (.lst (tabL n J)), some (.lst (tabL n Mt)), some (natD n), z1, z2, z3, z4, z5, z6, z7, z8, z9, z10], ⟨rfl, _, _, _, _, _, _, _, _, _, _, rfl⟩, ?_, ?_⟩⟩
  · rintro i e ρ' cs' hi ⟨rfl, z1, z2, z3, z4, z5, z6, z7, z8, z9, z10, rfl⟩
    obtain ⟨b, hb, rfl⟩ := item_map hi
    have hbl := hB b (hl.mem_iff.mp (List.mem_of_getElem? hb))
    walk_at "tgt"
    walk_at "st"
    walk_at "ev"
    refine ax_lcQ hN (by walk_at "ix") hnd (blkOk_by (sc := defScope sPic) (by decide +kernel)) rfl (ai_range1 M.range ?_)
    walk_at "ev"
    refine ⟨by omega, by show n ≤ 90000; omega, ⟨0, rfl⟩, fun x => if decide (imgN c R x = b) then some (natD x) else none, fun x d hxi => ?_, ?_⟩
    · obtain ⟨hx, rfl⟩ := rng_item hxi
      intro s0 H0 C cl fp D acc
      refine ats_one ?_
      walk_at "ev"
      refine ⟨_, _, _, .inr (.inl rfl), rfl, rowD_get hx, ?_⟩
      walk_at "ev"
      rw [dec_nat]
      refine ⟨rfl, fun hk _ _ _ _ _ => ?_, fun hk => if_neg (by rw [hk]; exact Bool.false_ne_true)⟩
      walk_at "ev"
      exact ⟨rfl, if_pos hk⟩
    have e3 : (List.range (Src.len (.rng 0 n))).filterMap (fun x => if decide (imgN c R x = b) then some (natD x) else none) = ((List.range n).filter fun x => decide (imgN c R x = b)).map natD := fm_filter n (fun x => decide (imgN c R x = b)) natD
    rw [e3]
    refine ⟨_, .inl rfl, ?_⟩
    rw [List.length_map, hbl]
    walk_at "ev"
    refine ⟨fun h => (nomatch h), fun _ => ?_⟩
    walk_at "st"
    walk_at "st"
    exact ⟨rfl, _, _, _, _, _, _, _, _, _, _, rfl⟩
  rintro ρ' cs' ⟨rfl, z1, z2, z3, z4, z5, z6, z7, z8, z9, z10, rfl⟩
  walk_at "for"
  walk_at "rng"
  walk_at "ev"
  refine ⟨by omega, fun i ρ cs => cs = [] ∧ ∃ z1 z2 z3 z4 z5 z6 z7 z8 z9 z10, ρ = [some (.tup (rowD n (imgN c R))), some (.lst (tabB n R)), some (.lst (c.map natD)), some (.lst (tabL n J)), some (.lst (tabL n Mt)), some (natD n), z1, z2, z3, z4, z5, z6, z7, z8, z9, z10], ⟨rfl, _, _, _, _, _, _, _, _, _, _, rfl⟩, ?_, ?_⟩
  · rintro x e ρ' cs' hi ⟨rfl, z1, z2, z3, z4, z5, z6, z7, z8, z9, z10, rfl⟩
    obtain ⟨hx, rfl⟩ := rng_item hi
    walk_at "tgt"
    walk_at "for"
    walk_at "rng"
    walk_at "ev"
    refine ⟨by omega, fun i ρ cs => cs = [] ∧ ∃ z2 z3 z4 z5 z6 z7 z8 z9 z10, ρ = [some (.tup (rowD n (imgN c R))), some (.lst (tabB n R)), some (.lst (c.map natD)), some (.lst (tabL n J)), some (.lst (tabL n Mt)), some (natD n), some (natD x), z2, z3, z4, z5, z6, z7, z8, z9, z10], ⟨rfl, _, _, _, _, _, _, _, _, _, rfl⟩, ?_, ?_⟩
    · rintro y e ρ' cs' hi ⟨rfl, z2, z3, z4, z5, z6, z7, z8, z9, z10, rfl⟩
      obtain ⟨hy, rfl⟩ := rng_item hi
      have hyn : y < n := by omega
      obtain ⟨hJ1, hM1⟩ := hJM x y hx hy
      walk_at "tgt"
      walk_at "st"
      refine ax_tup ?_
      refine aa_cons (ax_call cPts (Room.mono hr (by decide)) pas0 ?_)
      walk_at "ev"
      refine ⟨_, _, _, .inr (.inl rfl), rfl, rowD_get hx, ?_⟩
      walk_at "ev"
      refine ⟨_, rfl, him x, ?_⟩
      refine aa_cons (ax_call cPts (Room.mono hr (by decide)) pas0 ?_)
      walk_at "ev"
      refine ⟨_, _, _, .inr (.inl rfl), rfl, rowD_get hyn, ?_⟩
      walk_at "ev"
      refine ⟨_, rfl, him y, ?_⟩
      walk_at "ev"
      refine ⟨by show 2 ≤ 1000; decide, ?_⟩
      refine ag_pairU hN (by walk_at "ix") (by walk_at "ix") hnd rfl ?_
      refine as_setU hN (by walk_at "ix") hnd (ax_call cBits (Room.mono hr (by decide)) pas0 ?_)
      refine aa_cons (ax_lcQ hN (by walk_at "ix") hnd (blkOk_by (sc := defScope sPic) (by decide +kernel)) rfl (ai_range1 M.range ?_))
      walk_at "ev"
      refine ⟨_, .inl rfl, c.length, by rw [List.length_map], by omega, by show c.length ≤ 90000; omega, ⟨0, rfl⟩, fun j => if decide (j ∈ membersN (imgN c R x)) || decide (j ∈ membersN (imgN c R y)) then some (natD j) else none, fun j d hj => ?_, ?_⟩
      · obtain ⟨hj1, rfl⟩ := rng_item hj
        intro s0 H0 C cl fp D acc
        refine ats_one (at_or (at_cmpR (cmp_in rfl) ?_))
        walk_at "ev"
        refine ⟨_, (membersN (imgN c R x)).map intN, rfl, .inl (by rw [nat_ints]), ?_⟩
        rw [if_neg Bool.false_ne_true, mem_ints]
        refine ⟨fun h1 => ⟨rfl, fun _ _ _ _ _ _ => ?_, fun h => (nomatch h)⟩, fun h1 => ?_⟩
        · walk_at "ev"
          exact ⟨rfl, if_pos (by rw [h1]; rfl)⟩
        refine at_one (at_cmpR (cmp_in rfl) ?_)
        walk_at "ev"
        refine ⟨_, (membersN (imgN c R y)).map intN, rfl, .inl (by rw [nat_ints]), ?_⟩
        rw [if_neg Bool.false_ne_true, mem_ints]
        refine ⟨rfl, fun hk _ _ _ _ _ => ?_, fun hk => if_neg (by rw [h1, hk]; exact Bool.false_ne_true)⟩
        walk_at "ev"
        exact ⟨rfl, if_pos (by rw [h1, hk]; rfl)⟩
      have e4 : (List.range (Src.len (.rng 0 c.length))).filterMap (fun j => if decide (j ∈ membersN (imgN c R x)) || decide (j ∈ membersN (imgN c R y)) then some (natD j) else none) = ((List.range c.length).filter fun j => decide (j ∈ membersN (imgN c R x)) || decide (j ∈ membersN (imgN c R y))).map natD := fm_filter c.length (fun j => decide (j ∈ membersN (imgN c R x)) || decide (j ∈ membersN (imgN c R y))) natD
      rw [e4]
      walk_at "ev"
      refine ⟨_, rfl, fun k hk => ?_, ?_⟩
      · have := List.mem_range.mp (List.mem_filter.mp hk).1
        omega
      rw [bits_orm (imgN_lt c R x) (imgN_lt c R y)]
      walk_at "st"
      walk_at "ev"
      refine ⟨_, _, _, .inl rfl, rfl, tabL_get hx, ?_⟩
      walk_at "ev"
      refine ⟨_, _, _, .inl rfl, rfl, rowD_get hyn, ?_⟩
      refine ⟨_, _, _, .inr (.inl rfl), rfl, rowD_get (bJ x y hx hyn), ?_⟩
      walk_at "ev"
      rw [hJ1, dec_nat, decide_eq_true (rfl : (imgN c R x ||| imgN c R y) = _)]
      refine ⟨fun h => (nomatch h), fun _ => ?_⟩
      walk_at "ev"
      refine ⟨_, _, _, .inl rfl, rfl, tabL_get hx, ?_⟩
      walk_at "ev"
      refine ⟨_, _, _, .inl rfl, rfl, rowD_get hyn, ?_⟩
      refine ⟨_, _, _, .inr (.inl rfl), rfl, rowD_get (bM x y hx hyn), ?_⟩
      refine ax_call cBits (Room.mono hr (by decide)) pas0 ?_
      refine aa_cons (ax_lcQ hN (by walk_at "ix") hnd (blkOk_by (sc := defScope sPic) (by decide +kernel)) rfl (ai_seq ?_))
      walk_at "ev"
      have hml : ∀ z ∈ membersN (imgN c R x), z < c.length := fun z hz => mem_members (imgN_lt c R x) hz
      have hmlen : (membersN (imgN c R x)).length ≤ 900 := by
        have h1 := List.length_filter_le (imgN c R x).testBit (List.range (Builtin.Int.intBits (imgN c R x : Nat)))
        rw [List.length_range] at h1
        have h2 := intBits_le (him x)
        unfold membersN
        omega
      refine ⟨_, .inl rfl, by show ((membersN (imgN c R x)).map natD).length ≤ 90000; rw [List.length_map]; omega, ⟨0, rfl⟩, fun j => ((membersN (imgN c R x))[j]?).bind fun z => if decide (z ∈ membersN (imgN c R y)) then some (natD z) else none, fun j d hj => ?_, ?_⟩
      · obtain ⟨z, hz, rfl⟩ := item_map hj
        intro s0 H0 C cl fp D acc
        refine ats_one (at_cmpR (cmp_in rfl) ?_)
        walk_at "ev"
        refine ⟨_, (membersN (imgN c R y)).map intN, rfl, .inl (by rw [nat_ints]), ?_⟩
        rw [if_neg Bool.false_ne_true, mem_ints]
        refine ⟨rfl, fun hk _ _ _ _ _ => ?_, fun hk => ?_⟩
        · walk_at "ev"
          refine ⟨rfl, ?_⟩
          show ((membersN (imgN c R x))[j]?).bind _ = _
          rw [hz]
          exact if_pos hk
        · show ((membersN (imgN c R x))[j]?).bind _ = _
          rw [hz]
          exact if_neg (by rw [hk]; exact Bool.false_ne_true)
      have e5 : ((List.range (Src.len (.seq ((membersN (imgN c R x)).map natD)))).filterMap fun j => ((membersN (imgN c R x))[j]?).bind fun z => if decide (z ∈ membersN (imgN c R y)) then some (natD z) else none) = ((membersN (imgN c R x)).filter fun z => decide (z ∈ membersN (imgN c R y))).map natD := by
        show ((List.range ((membersN (imgN c R x)).map natD).length).filterMap _) = _
        rw [List.length_map, fm_get, fm_if]
      rw [e5]
      walk_at "ev"
      refine ⟨_, rfl, fun k hk => ?_, ?_⟩
      · have := hml k (List.mem_filter.mp hk).1
        omega
      rw [bits_andm]
      walk_at "ev"
      rw [hM1, dec_nat, decide_eq_true (rfl : (imgN c R x &&& imgN c R y) = _)]
      refine ⟨fun h => (nomatch h), fun _ => ?_⟩
      walk_at "st"
      walk_at "st"
      exact ⟨rfl, _, _, _, _, _, _, _, _, _, rfl⟩
    · rintro ρ' cs' ⟨rfl, z2, z3, z4, z5, z6, z7, z8, z9, z10, rfl⟩
      walk_at "st"
      exact ⟨rfl, _, _, _, _, _, _, _, _, _, _, rfl⟩
  rintro ρ' cs' ⟨rfl, z1, z2, z3, z4, z5, z6, z7, z8, z9, z10, rfl⟩
  walk_at "st"
  walk_at "ev"
  exact kont
end

end G
namespace G
open PySem PySem.Spec PyProof.Rows L2 Evl
--nomac
/-! M1: lattices by looking -/
def okB (n : Nat) (R : Rl) (J M : Nat → Nat → Nat) : Bool :=
  decide (0 < n) && ((List.range n).all (fun x => !R x x) && ((List.range n).all (fun x => (List.range n).all fun y => (List.range n).all fun z => !(R x y && R y z) || R x z) &&
    ((List.range n).all (fun x => (List.range n).all fun y => decide (J x y < n) && (List.range n).all fun z => leR R (J x y) z == (leR R x z && leR R y z)) &&
      (List.range n).all (fun x => (List.range n).all fun y => decide (M x y < n) && (List.range n).all fun z => leR R z (M x y) == (leR R z x && leR R z y)))))
theorem all_rng {n : Nat} {p : Nat → Bool} (h : (List.range n).all p = true) {x : Nat} (hx : x < n) : p x = true := List.all_eq_true.mp h x (List.mem_range.mpr hx)
theorem okB_ok {n : Nat} {R : Rl} {J M : Nat → Nat → Nat} (h : okB n R J M = true) : LatOk n R J M := by
  unfold okB at h
  rw [Bool.and_eq_true, Bool.and_eq_true, Bool.and_eq_true, Bool.and_eq_true] at h
  obtain ⟨h1, h2, h3, h4, h5⟩ := h
  refine ⟨of_decide_eq_true h1, fun x hx => ?_, fun x y z hx hy hz a b => ?_, fun x y hx hy => ?_, fun x y hx hy => ?_⟩
  · simpa using all_rng h2 hx
  · have := all_rng (all_rng (all_rng h3 hx) hy) hz
    rw [a, b] at this
    simpa using this
  · have := all_rng (all_rng h4 hx) hy
    rw [Bool.and_eq_true] at this
    exact ⟨of_decide_eq_true this.1, fun z hz => eq_of_beq (all_rng this.2 hz)⟩
  · have := all_rng (all_rng h5 hx) hy
    rw [Bool.and_eq_true] at this
    exact ⟨of_decide_eq_true this.1, fun z hz => eq_of_beq (all_rng this.2 hz)⟩
/-- the first that fits -/
def jnB (n : Nat) (R : Rl) (x y : Nat) : Nat := ((List.range n).find? fun j => (List.range n).all fun z => leR R j z == (leR R x z && leR R y z)).getD 0
def mtB (n : Nat) (R : Rl) (x y : Nat) : Nat := ((List.range n).find? fun j => (List.range n).all fun z => leR R z j == (leR R z x && leR R z y)).getD 0
theorem shapes_ok : shapes.all (fun q => decide (q.1 ≤ 8) && (q.2.all (fun r => decide (r.1 < q.1) && decide (r.2 < q.1)) && (decide (q.2.length ≤ 100) && okB q.1 (war q.1 (rel q.2)) (jnB q.1 (war q.1 (rel q.2))) (mtB q.1 (war q.1 (rel q.2)))))) = true := by decide +kernel
theorem rel_war_eq {n : Nat} {ps : List (Nat × Nat)} (hin : InR n ps) : ∀ x y z, war n (rel ps) x y = true → war n (rel ps) y z = true → war n (rel ps) x z = true :=
  fun x y z => war_trans (fun x y h => hin (x, y) (of_decide_eq_true h)) x y z
/-! ### the two large ones -/
def chainP : List (Nat × Nat) := (List.range 11).map fun k => (k, k + 1)
def wideP : List (Nat × Nat) := ((List.range 11).map fun k => (0, k + 1)) ++ (List.range 11).map fun k => (k + 1, 12)
def chR : Rl := fun x y => decide (x < y) && decide (y < 12)
def wiR : Rl := fun x y => decide (x < y) && decide (y < 13) && (decide (x = 0) || decide (y = 12))
def wiJ (x y : Nat) : Nat := if x = y then x else if x = 0 then y else if y = 0 then x else 12
def wiM (x y : Nat) : Nat := if x = y then x else if x = 12 then y else if y = 12 then x else 0
theorem ch_ok : okB 12 chR max min = true := by decide +kernel
theorem wi_ok : okB 13 wiR wiJ wiM = true := by decide +kernel
theorem ch_dist : distB 12 max min = true := by decide +kernel
theorem wi_dist : distB 13 wiJ wiM = false := by decide +kernel
theorem ch_irr : (irrL 12 chR).length = 11 := by decide +kernel
theorem wi_irr : (irrL 13 wiR).length = 11 := by decide +kernel
theorem ch_in : InR 12 chainP := by unfold InR chainP; decide
theorem wi_in : InR 13 wideP := by unfold InR wideP; decide
theorem ch_war (x y : Nat) : war 12 (rel chainP) x y = chR x y := by
  rw [Bool.eq_iff_iff]
  constructor
  · refine war_least (fun a b h => ?_) (fun a b c h1 h2 => ?_) 12 x y
    · have h : (a, b) ∈ chainP := of_decide_eq_true h
      obtain ⟨k, hk, e⟩ := List.mem_map.mp h
      have hk := List.mem_range.mp hk
      cases e
      unfold chR
      rw [decide_eq_true (by omega), decide_eq_true (by omega)]
      rfl
    · unfold chR at h1 h2 ⊢
      rw [Bool.and_eq_true, decide_eq_true_iff, decide_eq_true_iff] at h1 h2 ⊢
      omega
  · intro h
    unfold chR at h
    rw [Bool.and_eq_true, decide_eq_true_iff, decide_eq_true_iff] at h
    obtain ⟨d, hd⟩ : ∃ d, y = x + d + 1 := ⟨y - x - 1, by omega⟩
    have key : ∀ d x, x + d + 1 < 12 → war 12 (rel chainP) x (x + d + 1) = true := by
      intro d
      induction d with
      | zero =>
        intro x hx
        exact war_mono (decide_eq_true (List.mem_map.mpr ⟨x, List.mem_range.mpr (by omega), rfl⟩)) 12
      | succ d ih =>
        intro x hx
        refine rel_war_eq ch_in x (x + d + 1) _ (ih x (by omega)) ?_
        exact war_mono (decide_eq_true (List.mem_map.mpr ⟨x + d + 1, List.mem_range.mpr (by omega), rfl⟩)) 12
    rw [hd]
    exact key d x (by omega)
theorem wi_war (x y : Nat) : war 13 (rel wideP) x y = wiR x y := by
  have m1 : ∀ k, k < 11 → war 13 (rel wideP) 0 (k + 1) = true := fun k hk => war_mono (decide_eq_true (List.mem_append_left _ (List.mem_map.mpr ⟨k, List.mem_range.mpr hk, rfl⟩))) 13
  have m2 : ∀ k, k < 11 → war 13 (rel wideP) (k + 1) 12 = true := fun k hk => war_mono (decide_eq_true (List.mem_append_right _ (List.mem_map.mpr ⟨k, List.mem_range.mpr hk, rfl⟩))) 13
  rw [Bool.eq_iff_iff]
  constructor
  · refine war_least (fun a b h => ?_) (fun a b c h1 h2 => ?_) 13 x y
    · have h : (a, b) ∈ wideP := of_decide_eq_true h
      unfold wiR
      rcases List.mem_append.mp h with h | h
      · obtain ⟨k, hk, e⟩ := List.mem_map.mp h
        have hk := List.mem_range.mp hk
        cases e
        rw [decide_eq_true (show 0 < k + 1 by omega), decide_eq_true (show k + 1 < 13 by omega)]
        rfl
      · obtain ⟨k, hk, e⟩ := List.mem_map.mp h
        have hk := List.mem_range.mp hk
        cases e
        rw [decide_eq_true (show k + 1 < 12 by omega)]
        simp
    · unfold wiR at h1 h2 ⊢
      simp only [Bool.and_eq_true, Bool.or_eq_true, decide_eq_true_iff] at h1 h2 ⊢
      omega
  · intro h
    unfold wiR at h
    simp only [Bool.and_eq_true, Bool.or_eq_true, decide_eq_true_iff] at h
    obtain ⟨⟨h1, h2⟩, h3⟩ := h
    rcases h3 with h3 | h3
    · subst h3
      by_cases hy : y = 12
      · subst hy
        exact rel_war_eq wi_in 0 1 12 (m1 0 (by omega)) (m2 0 (by omega))
      · obtain ⟨k, rfl⟩ : ∃ k, y = k + 1 := ⟨y - 1, by omega⟩
        exact m1 k (by omega)
    · subst h3
      by_cases hx : x = 0
      · subst hx
        exact rel_war_eq wi_in 0 1 12 (m1 0 (by omega)) (m2 0 (by omega))
      · obtain ⟨k, rfl⟩ : ∃ k, x = k + 1 := ⟨x - 1, by omega⟩
        exact m2 k (by omega)

end G
namespace G
open PySem PySem.Spec PyProof.Rows L2 Evl
local macro_rules | `(tactic| walk_at "ix") => `(tactic| with_reducible (first
  | exact AtN.z | exact AtN.s AtN.z | exact AtN.s (AtN.s AtN.z) | exact AtN.s (AtN.s (AtN.s AtN.z)) | exact AtN.s (AtN.s (AtN.s (AtN.s AtN.z)))
  | exact AtN.s (AtN.s (AtN.s (AtN.s (AtN.s AtN.z)))) | exact AtN.s (AtN.s (AtN.s (AtN.s (AtN.s (AtN.s AtN.z))))) | exact AtN.s (AtN.s (AtN.s (AtN.s (AtN.s (AtN.s (AtN.s AtN.z))))))
  | exact AtN.s (AtN.s (AtN.s (AtN.s (AtN.s (AtN.s (AtN.s (AtN.s AtN.z))))))) | exact AtN.s (AtN.s (AtN.s (AtN.s (AtN.s (AtN.s (AtN.s (AtN.s (AtN.s AtN.z)))))))) | exact AtN.s (AtN.s (AtN.s (AtN.s (AtN.s (AtN.s (AtN.s (AtN.s (AtN.s (AtN.s AtN.z)))))))))
  | exact AtN.s (AtN.s (AtN.s (AtN.s (AtN.s (AtN.s (AtN.s (AtN.s (AtN.s (AtN.s (AtN.s AtN.z))))))))))
  | exact AtN.s (AtN.s (AtN.s (AtN.s (AtN.s (AtN.s (AtN.s (AtN.s (AtN.s (AtN.s (AtN.s (AtN.s AtN.z)))))))))))
  | exact AtN.s (AtN.s (AtN.s (AtN.s (AtN.s (AtN.s (AtN.s (AtN.s (AtN.s (AtN.s (AtN.s (AtN.s (AtN.s AtN.z))))))))))))
  | exact AtN.s (AtN.s (AtN.s (AtN.s (AtN.s (AtN.s (AtN.s (AtN.s (AtN.s (AtN.s (AtN.s (AtN.s (AtN.s (AtN.s AtN.z)))))))))))))
  | exact AtN.s (AtN.s (AtN.s (AtN.s (AtN.s (AtN.s (AtN.s (AtN.s (AtN.s (AtN.s (AtN.s (AtN.s (AtN.s (AtN.s (AtN.s AtN.z))))))))))))))))
local macro_rules | `(tactic| walk_at "ev1") => `(tactic| first
  | with_reducible refine ax_int ?_ | with_reducible refine ax_bl ?_ | with_reducible refine ax_non ?_ | with_reducible refine ax_str ?_
  | ((with_reducible show Ax _ _ (Expr.Name _ _) _ _ _); refine ax_u $(Lean.mkIdent `hN) (by walk_at "ix") rfl ?_)
  | ((with_reducible show Ax _ _ (Expr.Compare _ _ _ _) _ _ _); first | (with_reducible refine ax_cmpR cmp_lt ?_) | (with_reducible refine ax_cmpR cmp_le ?_) | (with_reducible refine ax_cmpR cmp_gt ?_) | (with_reducible refine ax_cmpR cmp_ge ?_) | (with_reducible refine ax_cmpR cmp_eq ?_) | (with_reducible refine ax_cmpR cmp_ne ?_) | (with_reducible refine ax_cmpR cmp_is ?_) | (with_reducible refine ax_cmpR cmp_isN ?_))
  | ((with_reducible show At _ _ (Expr.Compare _ _ _ _) _ _ _); first | (with_reducible refine at_cmpR cmp_lt ?_) | (with_reducible refine at_cmpR cmp_le ?_) | (with_reducible refine at_cmpR cmp_gt ?_) | (with_reducible refine at_cmpR cmp_ge ?_) | (with_reducible refine at_cmpR cmp_eq ?_) | (with_reducible refine at_cmpR cmp_ne ?_) | (with_reducible refine at_cmpR cmp_is ?_) | (with_reducible refine at_cmpR cmp_isN ?_))
  | with_reducible refine ax_add ?_ | with_reducible refine ax_sub ?_ | with_reducible refine ax_mul ?_ | with_reducible refine ax_fdiv ?_ | with_reducible refine ax_mod ?_ | with_reducible refine ax_shl ?_ | with_reducible refine ax_shr ?_ | with_reducible refine ax_and ?_ | with_reducible refine ax_or ?_ | with_reducible refine ax_neg ?_
  | with_reducible refine ax_one ?_ | with_reducible refine ax_andv ?_ | with_reducible refine ax_orv ?_ | with_reducible refine ax_notv ?_ | with_reducible refine at_one ?_ | with_reducible refine at_and ?_ | with_reducible refine at_or ?_ | with_reducible refine at_not ?_ | with_reducible refine ax_if ?_
  | ((with_reducible show Ax _ _ (Expr.Subscript _ _ _) _ _ _); refine ax_ix ?_) | with_reducible refine ax_tup ?_ | ((with_reducible show Aa _ _ (_ :: _) _ _ _); refine aa_cons ?_) | with_reducible refine aa_nil ?_
  | ((with_reducible show Ax _ _ (Expr.Call (Expr.Name "len" _) _ _ _) _ _ _); refine ax_len (Mods.len $(Lean.mkIdent `M)) ?_)
  | ((with_reducible show Ax _ _ (Expr.Call (Expr.Name "int" _) _ _ _) _ _ _); refine ax_int1 (Mods.int $(Lean.mkIdent `M)) ?_)
  | ((with_reducible show Ax _ _ (Expr.Call (Expr.Name "abs" _) _ _ _) _ _ _); refine ax_abs (Mods.abs $(Lean.mkIdent `M)) ?_)
  | ((with_reducible show Ax _ _ (Expr.Call (Expr.Name "tuple" _) _ _ _) _ _ _); refine ax_tuple (Mods.tuple $(Lean.mkIdent `M)) ?_)
  | ((with_reducible show Ax _ _ (Expr.Call (Expr.Name "has" _) _ _ _) _ _ _); refine ax_call $(Lean.mkIdent `cHas) (Room.mono $(Lean.mkIdent `hr) (by decide)) pas0 ?_)
  | ((with_reducible show Ax _ _ (Expr.Call (Expr.Name "set_of" _) _ _ _) _ _ _); refine ax_call $(Lean.mkIdent `cSetOf) (Room.mono $(Lean.mkIdent `hr) (by decide)) pas0 ?_)
  | ((with_reducible show Ax _ _ (Expr.Call (Expr.Name "members" _) _ _ _) _ _ _); refine ax_call $(Lean.mkIdent `cMembers) (Room.mono $(Lean.mkIdent `hr) (by decide)) pas0 ?_)
  | ((with_reducible show Ax _ _ (Expr.Call (Expr.Name "is_integer" _) _ _ _) _ _ _); refine ax_call $(Lean.mkIdent `cIsInt) (Room.mono $(Lean.mkIdent `hr) (by decide)) pas0 ?_)
  | ((with_reducible show Ax _ _ (Expr.Call (Expr.Attribute _ "bit_length" _) _ _ _) _ _ _); refine ax_bits ?_)
  | ((with_reducible show Ax _ _ (Expr.Call (Expr.Name "isinstance" _) [_, Expr.Name "int" _] _ _) _ _ _); refine ax_isi (u := "int") (Mods.isinstance $(Lean.mkIdent `M)) (Mods.int $(Lean.mkIdent `M)) boot_int ?_)
  | ((with_reducible show Ax _ _ (Expr.Call (Expr.Name "isinstance" _) [_, Expr.Name "bool" _] _ _) _ _ _); refine ax_isi (u := "bool") (Mods.isinstance $(Lean.mkIdent `M)) (Mods.bool $(Lean.mkIdent `M)) boot_bool ?_)
  | ((with_reducible show Ax _ _ (Expr.Call (Expr.Name "isinstance" _) [_, Expr.Name "tuple" _] _ _) _ _ _); refine ax_isi (u := "tuple") (Mods.isinstance $(Lean.mkIdent `M)) (Mods.tuple $(Lean.mkIdent `M)) boot_tuple ?_)
  | ((with_reducible show Ax _ _ (Expr.Call (Expr.Name "isinstance" _) [_, Expr.Tuple [Expr.Name "list" _, Expr.Name "tuple" _] _ _] _ _) _ _ _); refine ax_isi2 (u1 := "list") (u2 := "tuple") (Mods.isinstance $(Lean.mkIdent `M)) (Mods.list $(Lean.mkIdent `M)) (Mods.tuple $(Lean.mkIdent `M)) boot_list boot_tuple ?_)
  | ((with_reducible show ∃ t k, tyD _ = some t ∧ kitB t _ = some k ∧ _); refine ⟨_, _, rfl, by with_reducible (first | exact kit_ii | exact kit_ib | exact kit_tt), ?_⟩)
  | ((with_reducible show S_isInt _ _ _); refine ⟨_, rfl, ?_⟩) | ((with_reducible show S_has _ _ _); refine ⟨_, _, rfl, ?_⟩)
  | ((with_reducible show REq _ _ _ _); refine ⟨_, rfl, ?_⟩) | ((with_reducible show RNe _ _ _ _); refine ⟨_, rfl, ?_⟩) | ((with_reducible show RI _ _ _ _ _); refine ⟨_, _, rfl, rfl, ?_⟩)
  | with_reducible refine ⟨_, _, rfl, rfl, ?_⟩
  | with_reducible refine ⟨_, rfl, ?_⟩
  | ((with_reducible show At _ _ (Expr.Name _ _) _ _ _); refine at_val ?_) | ((with_reducible show At _ _ (Expr.Call _ _ _ _) _ _ _); refine at_val ?_) | ((with_reducible show At _ _ (Expr.Subscript _ _ _) _ _ _); refine at_val ?_))
local macro_rules | `(tactic| walk_at "ev") => `(tactic| repeat walk_at "ev1")
local macro_rules | `(tactic| walk_at "st1") => `(tactic| first
    | ((with_reducible show A1 _ _ (Stmt.Return _ _) _ _ _); refine a1_ret ?_)
    | ((with_reducible show A1 _ _ (Stmt.If _ _ _ _) _ _ _); refine a1_if ?_)
    | ((with_reducible show A1 _ _ (Stmt.Expr _ _) _ _ _); refine a1_drop ?_)
    | ((with_reducible show A1 _ _ (Stmt.Assign [Expr.Name _ _] _ _) _ _ _); refine a1_setU $(Lean.mkIdent `hN) (by walk_at "ix") $(Lean.mkIdent `hnd) ?_)
    | ((with_reducible show A1 _ _ (Stmt.Assign _ _ _) _ _ _); refine a1_asg ?_))
local macro_rules | `(tactic| walk_at "st") => `(tactic| first
  | ((with_reducible show As _ _ [] _ _ _); refine as_nil ?_)
  | (refine as_cons ?_; walk_at "st1"))
local macro_rules | `(tactic| walk_at "newl") => `(tactic| refine as_setU $(Lean.mkIdent `hN) (by walk_at "ix") $(Lean.mkIdent `hnd) (ax_lstC (aa_nil ⟨by decide, ?_⟩)))
local macro_rules | `(tactic| walk_at "for") => `(tactic| (refine as_cons ?_; refine a1_for ?hp ?_ ?hc ?hs; (case hp => exact PassesOwn.never); (case hc => rfl); (case hs => intro _; rfl)))
local macro_rules | `(tactic| walk_at "tgt") => `(tactic| refine ag_nameU $(Lean.mkIdent `hN) (by walk_at "ix") $(Lean.mkIdent `hnd) ?_)
local macro_rules | `(tactic| walk_at "rng") => `(tactic| refine ai_range1 (Mods.range $(Lean.mkIdent `M)) ?_)
local macro_rules | `(tactic| walk_at "while") => `(tactic| (refine as_cons ?_; refine a1_while ?hp ?I ?h0 ?hs; (case hp => exact PassesOwn.never)))
local macro_rules | `(tactic| walk_at "pair") => `(tactic| refine ag_pairU $(Lean.mkIdent `hN) (by walk_at "ix") (by walk_at "ix") $(Lean.mkIdent `hnd) ?hd ?_)
local macro_rules | `(tactic| walk_at "blk") => `(tactic| exact blkOk_by (by decide +kernel))
local macro_rules | `(tactic| walk_at "forX") => `(tactic| (refine as_cons ?_; refine a1_for ?hp ?_ ?hc ?hs; (case hp => exact passes_of rfl); (case hc => rfl); (case hs => intro _; rfl)))
/-! L13: the large lattices -/
theorem leR_congr {n : Nat} {R R' : Rl} (h : ∀ x y, x < n → y < n → R x y = R' x y) {x y : Nat} (hx : x < n) (hy : y < n) : leR R x y = leR R' x y := by
  unfold leR
  rw [h x y hx hy]
theorem LatOk.congr {n : Nat} {R R' : Rl} {J M : Nat → Nat → Nat} (L : LatOk n R J M) (h : ∀ x y, x < n → y < n → R' x y = R x y) : LatOk n R' J M :=
  ⟨L.pos, fun x hx => by rw [h x x hx hx]; exact L.irr x hx, fun x y z hx hy hz a b => by
    rw [h x y hx hy] at a
    rw [h y z hy hz] at b
    rw [h x z hx hz]
    exact L.tr x y z hx hy hz a b, fun x y hx hy => ⟨(L.jn x y hx hy).1, fun z hz => by rw [leR_congr h (L.jn x y hx hy).1 hz, leR_congr h hx hz, leR_congr h hy hz]; exact (L.jn x y hx hy).2 z hz⟩,
    fun x y hx hy => ⟨(L.mt x y hx hy).1, fun z hz => by rw [leR_congr h hz (L.mt x y hx hy).1, leR_congr h hz hx, leR_congr h hz hy]; exact (L.mt x y hx hy).2 z hz⟩⟩
theorem any_congr' {l : List Nat} {p q : Nat → Bool} (h : ∀ x ∈ l, p x = q x) : l.any p = l.any q := by
  induction l with
  | nil => rfl
  | cons a l ih => rw [List.any_cons, List.any_cons, h a (List.mem_cons_self ..), ih fun x hx => h x (List.mem_cons_of_mem _ hx)]
theorem cov_congr {n : Nat} {R R' : Rl} (h : ∀ x y, x < n → y < n → R' x y = R x y) {x y : Nat} (hx : x < n) (hy : y < n) : cov n R' x y = cov n R x y := by
  unfold cov
  rw [h x y hx hy, any_congr' fun z hz => by rw [h x z hx (List.mem_range.mp hz), h z y (List.mem_range.mp hz) hy]]
theorem irrL_congr {n : Nat} {R R' : Rl} (h : ∀ x y, x < n → y < n → R' x y = R x y) : irrL n R' = irrL n R := by
  unfold irrL
  refine List.filter_congr fun x hx => ?_
  rw [List.filter_congr fun y hy => cov_congr h (List.mem_range.mp hy) (List.mem_range.mp hx)]
theorem LatOk.bj {n : Nat} {R : Rl} {J M : Nat → Nat → Nat} (L : LatOk n R J M) : BelowN n J := fun x y hx hy => (L.jn x y hx hy).1
theorem LatOk.bm {n : Nat} {R : Rl} {J M : Nat → Nat → Nat} (L : LatOk n R J M) : BelowN n M := fun x y hx hy => (L.mt x y hx hy).1
theorem rngs_item {lo : Int} {n i : Nat} {d : Dt} (h : (Src.rng lo n).item i = some d) : i < n ∧ d = .int (lo + i) := by
  have h : (if i < n then some (Dt.int (lo + (i : Int))) else none) = some d := h
  split at h
  · rename_i hl
    cases h
    exact ⟨hl, rfl⟩
  · cases h
section
variable {P : Program} {w : World} {K : PySem.W.Frag} {mg : Str → Option Value} {base : Heap} {CR CL : Addr}
abbrev sLrg : Stmt := topS 44
abbrev nLrg : List Str := ["_law_which", "_law_chain", "_law_k", "_law_wide"]
theorem scLrg : FnScope nLrg ["_law_which"] (defScope sLrg) := ⟨rfl, rfl, rfl, by decide +kernel, rfl, by decide +kernel, by decide +kernel⟩
def S_lrg : List Dt → (Dt → Prop) → (Str → Prop) → Prop := fun ds P _ => ∃ wh : Nat, ds = [natD wh] ∧ P (.bl true)
theorem ok_lrg {f : Addr} {fd : FuncData} (F : Fun K "_law_large" "_law_large" sLrg f fd) (M : Mods mg) (cL : Ko P w K mg base CX0 CR CL 3 "Lattice" (S_latI CL)) (cRea : Fo P w K mg base CX0 CR 7 "_law_reason" (pureS (S_rea CL))) : FnOk P w K mg base CX0 8 f fd ["_law_which"] (spOf K CR (pureS S_lrg)) := by
  refine def_ok F scLrg (fun ds cs Pd R ⟨_, _, h, _⟩ => by rw [h]; rfl) fun cdv A outer s F H E ds cs Pd R0 hr ⟨hcs, wh, hd, kont⟩ => ?_
  subst hcs
  subst hd
  have hnd := scLrg.nd
  have hN := cx_N CX0 P w K mg base nLrg "_law_large" (defScope sLrg) f cdv A outer s H E
  have LC : LatOk 12 (war 12 (rel chainP)) max min := (okB_ok ch_ok).congr fun x y _ _ => ch_war x y
  have LW : LatOk 13 (war 13 (rel wideP)) wiJ wiM := (okB_ok wi_ok).congr fun x y _ _ => wi_war x y
  have iC : (irrL 12 (war 12 (rel chainP))).length = 11 := by rw [irrL_congr fun x y _ _ => ch_war x y]; exact ch_irr
  have iW : (irrL 13 (war 13 (rel wideP))).length = 11 := by rw [irrL_congr fun x y _ _ => wi_war x y]; exact wi_irr
  generalize hRC : war 12 (rel chainP) = RC at *
  generalize hRW : war 13 (rel wideP) = RW at *
  have c0 : reaS 12 RC max min 0 = "large" := by unfold reaS; rw [if_pos rfl, if_neg (by rw [ch_dist]; decide), if_pos (by rw [iC]; decide)]
  have c1 : reaS 12 RC max min 1 = "large" := by unfold reaS; rw [if_neg (by decide), if_pos (by rw [iC]; decide)]
  have w0 : reaS 13 RW wiJ wiM 0 = "distributive" := by unfold reaS; rw [if_pos rfl, if_pos wi_dist]
  have w1 : reaS 13 RW wiJ wiM 1 = "large" := by unfold reaS; rw [if_neg (by decide), if_pos (by rw [iW]; decide)]
  walk_at "st"
  walk_at "ev"
  refine ⟨fun _ => ?_, fun _ => ?_⟩
  · refine as_setU hN (by walk_at "ix") hnd (ax_make cL (Room.mono hr (by decide)) pas0 ?_)
    walk_at "ev"
    refine ax_lcQ hN (by walk_at "ix") hnd (blkOk_by (sc := defScope sLrg) (by decide +kernel)) rfl (ai_range1 M.range ?_)
    walk_at "ev"
    refine ⟨by show 11 ≤ 100000; decide, by show 11 ≤ 90000; decide, ⟨0, rfl⟩, fun k => some (pairN (k, k + 1)), fun k d hk s0 H0 C cl fp D acc => ats_nil ⟨rfl, fun _ _ _ _ _ _ => ?_, fun h => (nomatch h)⟩, ?_⟩
    · obtain ⟨hk, rfl⟩ := rng_item hk
      walk_at "ev"
      exact ⟨by show 2 ≤ 1000; decide, rfl, rfl⟩
    have e1 : ((List.range (Src.len (.rng 0 11))).filterMap fun k => some (pairN (k, k + 1))) = chainP.map pairN := by
      show ((List.range 11).filterMap fun k => some (pairN (k, k + 1))) = _
      rw [fm_some, chainP, List.map_map]
      rfl
    rw [e1]
    walk_at "ev"
    intro y
    refine ⟨y, 12, chainP, _, max, min, rfl, rfl, by decide, .inl rfl, ch_in, by rw [hRC]; exact LC, rfl, _, _, rfl, ?_⟩
    rw [hRC]
    walk_at "st"
    walk_at "ev"
    refine ax_call cRea (Room.mono hr (by decide)) pas0 ?_
    walk_at "ev"
    refine ⟨12, RC, max, min, 0, rfl, by decide, LC.ord, LC.bj, LC.bm, ?_⟩
    rw [c0]
    walk_at "ev"
    refine ⟨fun _ => ?_, fun h => absurd h (by decide)⟩
    walk_at "ev"
    refine ax_call cRea (Room.mono hr (by decide)) pas0 ?_
    walk_at "ev"
    refine ⟨12, RC, max, min, 1, rfl, by decide, LC.ord, LC.bj, LC.bm, ?_⟩
    rw [c1]
    walk_at "ev"
    exact kont
  · walk_at "st"
    refine as_setU hN (by walk_at "ix") hnd (ax_make cL (Room.mono hr (by decide)) pas0 (aa_cons (ax_int (aa_cons (ax_cat ?_)))))
    refine ax_lcQ hN (by walk_at "ix") hnd (blkOk_by (sc := defScope sLrg) (by decide +kernel)) rfl (ai_range2 M.range ?_)
    walk_at "ev"
    refine ⟨1, 11, rfl, rfl, by decide, by decide, by decide, by show 11 ≤ 90000; decide, ⟨0, rfl⟩, fun k => some (pairN (0, k + 1)), fun k d hk s0 H0 C cl fp D acc => ats_nil ⟨rfl, fun _ _ _ _ _ _ => ?_, fun h => (nomatch h)⟩, ?_⟩
    · obtain ⟨hk, rfl⟩ := rngs_item hk
      walk_at "ev"
      refine ⟨by show 2 ≤ 1000; decide, rfl, ?_⟩
      show some (pairN (0, k + 1)) = some (.tup [.int 0, .int (1 + (k : Int))])
      rw [show (1 : Int) + (k : Int) = ((k + 1 : Nat) : Int) by omega]
      rfl
    refine ax_lcQ hN (by walk_at "ix") hnd (blkOk_by (sc := defScope sLrg) (by decide +kernel)) rfl (ai_range2 M.range ?_)
    walk_at "ev"
    refine ⟨1, 11, rfl, rfl, by decide, by decide, by decide, by show 11 ≤ 90000; decide, ⟨0, rfl⟩, fun k => some (pairN (k + 1, 12)), fun k d hk s0 H0 C cl fp D acc => ats_nil ⟨rfl, fun _ _ _ _ _ _ => ?_, fun h => (nomatch h)⟩, ?_⟩
    · obtain ⟨hk, rfl⟩ := rngs_item hk
      walk_at "ev"
      refine ⟨by show 2 ≤ 1000; decide, rfl, ?_⟩
      show some (pairN (k + 1, 12)) = some (.tup [.int (1 + (k : Int)), .int 12])
      rw [show (1 : Int) + (k : Int) = ((k + 1 : Nat) : Int) by omega]
      rfl
    refine ⟨_, _, rfl, rfl, by decide, ?_⟩
    have e1 : ((List.range (Src.len (.rng 1 11))).filterMap fun k => some (pairN (0, k + 1))) ++ ((List.range (Src.len (.rng 1 11))).filterMap fun k => some (pairN (k + 1, 12))) = wideP.map pairN := by
      show ((List.range 11).filterMap fun k => some (pairN (0, k + 1))) ++ ((List.range 11).filterMap fun k => some (pairN (k + 1, 12))) = _
      rw [fm_some, fm_some, wideP, List.map_append, List.map_map, List.map_map]
      rfl
    rw [e1]
    walk_at "ev"
    intro y
    refine ⟨y, 13, wideP, _, wiJ, wiM, rfl, rfl, by decide, .inl rfl, wi_in, by rw [hRW]; exact LW, rfl, _, _, rfl, ?_⟩
    rw [hRW]
    walk_at "st"
    walk_at "ev"
    refine ax_call cRea (Room.mono hr (by decide)) pas0 ?_
    walk_at "ev"
    refine ⟨13, RW, wiJ, wiM, 0, rfl, by decide, LW.ord, LW.bj, LW.bm, ?_⟩
    rw [w0]
    walk_at "ev"
    refine ⟨fun _ => ?_, fun h => absurd h (by decide)⟩
    walk_at "ev"
    refine ax_call cRea (Room.mono hr (by decide)) pas0 ?_
    walk_at "ev"
    refine ⟨13, RW, wiJ, wiM, 1, rfl, by decide, LW.ord, LW.bj, LW.bm, ?_⟩
    rw [w1]
    walk_at "ev"
    exact kont
end

end G
namespace G
open PySem PySem.Spec PyProof.Rows L2 Evl
local macro_rules | `(tactic| walk_at "ix") => `(tactic| with_reducible (first
  | exact AtN.z | exact AtN.s AtN.z | exact AtN.s (AtN.s AtN.z) | exact AtN.s (AtN.s (AtN.s AtN.z)) | exact AtN.s (AtN.s (AtN.s (AtN.s AtN.z)))
  | exact AtN.s (AtN.s (AtN.s (AtN.s (AtN.s AtN.z)))) | exact AtN.s (AtN.s (AtN.s (AtN.s (AtN.s (AtN.s AtN.z))))) | exact AtN.s (AtN.s (AtN.s (AtN.s (AtN.s (AtN.s (AtN.s AtN.z))))))
  | exact AtN.s (AtN.s (AtN.s (AtN.s (AtN.s (AtN.s (AtN.s (AtN.s AtN.z))))))) | exact AtN.s (AtN.s (AtN.s (AtN.s (AtN.s (AtN.s (AtN.s (AtN.s (AtN.s AtN.z)))))))) | exact AtN.s (AtN.s (AtN.s (AtN.s (AtN.s (AtN.s (AtN.s (AtN.s (AtN.s (AtN.s AtN.z)))))))))
  | exact AtN.s (AtN.s (AtN.s (AtN.s (AtN.s (AtN.s (AtN.s (AtN.s (AtN.s (AtN.s (AtN.s AtN.z))))))))))
  | exact AtN.s (AtN.s (AtN.s (AtN.s (AtN.s (AtN.s (AtN.s (AtN.s (AtN.s (AtN.s (AtN.s (AtN.s AtN.z)))))))))))
  | exact AtN.s (AtN.s (AtN.s (AtN.s (AtN.s (AtN.s (AtN.s (AtN.s (AtN.s (AtN.s (AtN.s (AtN.s (AtN.s AtN.z))))))))))))
  | exact AtN.s (AtN.s (AtN.s (AtN.s (AtN.s (AtN.s (AtN.s (AtN.s (AtN.s (AtN.s (AtN.s (AtN.s (AtN.s (AtN.s AtN.z)))))))))))))
  | exact AtN.s (AtN.s (AtN.s (AtN.s (AtN.s (AtN.s (AtN.s (AtN.s (AtN.s (AtN.s (AtN.s (AtN.s (AtN.s (AtN.s (AtN.s AtN.z))))))))))))))))
local macro_rules | `(tactic| walk_at "ev1") => `(tactic| first
  | with_reducible refine ax_int ?_ | with_reducible refine ax_bl ?_ | with_reducible refine ax_non ?_ | with_reducible refine ax_str ?_
  | ((with_reducible show Ax _ _ (Expr.Name _ _) _ _ _); refine ax_u $(Lean.mkIdent `hN) (by walk_at "ix") rfl ?_)
  | ((with_reducible show Ax _ _ (Expr.Compare _ _ _ _) _ _ _); first | (with_reducible refine ax_cmpR cmp_lt ?_) | (with_reducible refine ax_cmpR cmp_le ?_) | (with_reducible refine ax_cmpR cmp_gt ?_) | (with_reducible refine ax_cmpR cmp_ge ?_) | (with_reducible refine ax_cmpR cmp_eq ?_) | (with_reducible refine ax_cmpR cmp_ne ?_) | (with_reducible refine ax_cmpR cmp_is ?_) | (with_reducible refine ax_cmpR cmp_isN ?_))
  | ((with_reducible show At _ _ (Expr.Compare _ _ _ _) _ _ _); first | (with_reducible refine at_cmpR cmp_lt ?_) | (with_reducible refine at_cmpR cmp_le ?_) | (with_reducible refine at_cmpR cmp_gt ?_) | (with_reducible refine at_cmpR cmp_ge ?_) | (with_reducible refine at_cmpR cmp_eq ?_) | (with_reducible refine at_cmpR cmp_ne ?_) | (with_reducible refine at_cmpR cmp_is ?_) | (with_reducible refine at_cmpR cmp_isN ?_))
  | with_reducible refine ax_add ?_ | with_reducible refine ax_sub ?_ | with_reducible refine ax_mul ?_ | with_reducible refine ax_fdiv ?_ | with_reducible refine ax_mod ?_ | with_reducible refine ax_shl ?_ | with_reducible refine ax_shr ?_ | with_reducible refine ax_and ?_ | with_reducible refine ax_or ?_ | with_reducible refine ax_neg ?_
  | with_reducible refine ax_one ?_ | with_reducible refine ax_andv ?_ | with_reducible refine ax_orv ?_ | with_reducible refine ax_notv ?_ | with_reducible refine at_one ?_ | with_reducible refine at_and ?_ | with_reducible refine at_or ?_ | with_reducible refine at_not ?_ | with_reducible refine ax_if ?_
  | ((with_reducible show Ax _ _ (Expr.Subscript _ _ _) _ _ _); refine ax_ix ?_) | with_reducible refine ax_tup ?_ | ((with_reducible show Aa _ _ (_ :: _) _ _ _); refine aa_cons ?_) | with_reducible refine aa_nil ?_
  | ((with_reducible show Ax _ _ (Expr.Call (Expr.Name "len" _) _ _ _) _ _ _); refine ax_len (Mods.len $(Lean.mkIdent `M)) ?_)
  | ((with_reducible show Ax _ _ (Expr.Call (Expr.Name "int" _) _ _ _) _ _ _); refine ax_int1 (Mods.int $(Lean.mkIdent `M)) ?_)
  | ((with_reducible show Ax _ _ (Expr.Call (Expr.Name "abs" _) _ _ _) _ _ _); refine ax_abs (Mods.abs $(Lean.mkIdent `M)) ?_)
  | ((with_reducible show Ax _ _ (Expr.Call (Expr.Name "tuple" _) _ _ _) _ _ _); refine ax_tuple (Mods.tuple $(Lean.mkIdent `M)) ?_)
  | ((with_reducible show Ax _ _ (Expr.Call (Expr.Name "has" _) _ _ _) _ _ _); refine ax_call $(Lean.mkIdent `cHas) (Room.mono $(Lean.mkIdent `hr) (by decide)) pas0 ?_)
  | ((with_reducible show Ax _ _ (Expr.Call (Expr.Name "set_of" _) _ _ _) _ _ _); refine ax_call $(Lean.mkIdent `cSetOf) (Room.mono $(Lean.mkIdent `hr) (by decide)) pas0 ?_)
  | ((with_reducible show Ax _ _ (Expr.Call (Expr.Name "members" _) _ _ _) _ _ _); refine ax_call $(Lean.mkIdent `cMembers) (Room.mono $(Lean.mkIdent `hr) (by decide)) pas0 ?_)
  | ((with_reducible show Ax _ _ (Expr.Call (Expr.Name "is_integer" _) _ _ _) _ _ _); refine ax_call $(Lean.mkIdent `cIsInt) (Room.mono $(Lean.mkIdent `hr) (by decide)) pas0 ?_)
  | ((with_reducible show Ax _ _ (Expr.Call (Expr.Attribute _ "bit_length" _) _ _ _) _ _ _); refine ax_bits ?_)
  | ((with_reducible show Ax _ _ (Expr.Call (Expr.Name "isinstance" _) [_, Expr.Name "int" _] _ _) _ _ _); refine ax_isi (u := "int") (Mods.isinstance $(Lean.mkIdent `M)) (Mods.int $(Lean.mkIdent `M)) boot_int ?_)
  | ((with_reducible show Ax _ _ (Expr.Call (Expr.Name "isinstance" _) [_, Expr.Name "bool" _] _ _) _ _ _); refine ax_isi (u := "bool") (Mods.isinstance $(Lean.mkIdent `M)) (Mods.bool $(Lean.mkIdent `M)) boot_bool ?_)
  | ((with_reducible show Ax _ _ (Expr.Call (Expr.Name "isinstance" _) [_, Expr.Name "tuple" _] _ _) _ _ _); refine ax_isi (u := "tuple") (Mods.isinstance $(Lean.mkIdent `M)) (Mods.tuple $(Lean.mkIdent `M)) boot_tuple ?_)
  | ((with_reducible show Ax _ _ (Expr.Call (Expr.Name "isinstance" _) [_, Expr.Tuple [Expr.Name "list" _, Expr.Name "tuple" _] _ _] _ _) _ _ _); refine ax_isi2 (u1 := "list") (u2 := "tuple") (Mods.isinstance $(Lean.mkIdent `M)) (Mods.list $(Lean.mkIdent `M)) (Mods.tuple $(Lean.mkIdent `M)) boot_list boot_tuple ?_)
  | ((with_reducible show ∃ t k, tyD _ = some t ∧ kitB t _ = some k ∧ _); refine ⟨_, _, rfl, by with_reducible (first | exact kit_ii | exact kit_ib | exact kit_tt), ?_⟩)
  | ((with_reducible show S_isInt _ _ _); refine ⟨_, rfl, ?_⟩) | ((with_reducible show S_has _ _ _); refine ⟨_, _, rfl, ?_⟩)
  | ((with_reducible show REq _ _ _ _); refine ⟨_, rfl, ?_⟩) | ((with_reducible show RNe _ _ _ _); refine ⟨_, rfl, ?_⟩) | ((with_reducible show RI _ _ _ _ _); refine ⟨_, _, rfl, rfl, ?_⟩)
  | with_reducible refine ⟨_, _, rfl, rfl, ?_⟩
  | with_reducible refine ⟨_, rfl, ?_⟩
  | ((with_reducible show At _ _ (Expr.Name _ _) _ _ _); refine at_val ?_) | ((with_reducible show At _ _ (Expr.Call _ _ _ _) _ _ _); refine at_val ?_) | ((with_reducible show At _ _ (Expr.Subscript _ _ _) _ _ _); refine at_val ?_))
local macro_rules | `(tactic| walk_at "ev") => `(tactic| repeat walk_at "ev1")
local macro_rules | `(tactic| walk_at "st1") => `(tactic| first
    | ((with_reducible show A1 _ _ (Stmt.Return _ _) _ _ _); refine a1_ret ?_)
    | ((with_reducible show A1 _ _ (Stmt.If _ _ _ _) _ _ _); refine a1_if ?_)
    | ((with_reducible show A1 _ _ (Stmt.Expr _ _) _ _ _); refine a1_drop ?_)
    | ((with_reducible show A1 _ _ (Stmt.Assign [Expr.Name _ _] _ _) _ _ _); refine a1_setU $(Lean.mkIdent `hN) (by walk_at "ix") $(Lean.mkIdent `hnd) ?_)
    | ((with_reducible show A1 _ _ (Stmt.Assign _ _ _) _ _ _); refine a1_asg ?_))
local macro_rules | `(tactic| walk_at "st") => `(tactic| first
  | ((with_reducible show As _ _ [] _ _ _); refine as_nil ?_)
  | (refine as_cons ?_; walk_at "st1"))
local macro_rules | `(tactic| walk_at "newl") => `(tactic| refine as_setU $(Lean.mkIdent `hN) (by walk_at "ix") $(Lean.mkIdent `hnd) (ax_lstC (aa_nil ⟨by decide, ?_⟩)))
local macro_rules | `(tactic| walk_at "for") => `(tactic| (refine as_cons ?_; refine a1_for ?hp ?_ ?hc ?hs; (case hp => exact PassesOwn.never); (case hc => rfl); (case hs => intro _; rfl)))
local macro_rules | `(tactic| walk_at "tgt") => `(tactic| refine ag_nameU $(Lean.mkIdent `hN) (by walk_at "ix") $(Lean.mkIdent `hnd) ?_)
local macro_rules | `(tactic| walk_at "rng") => `(tactic| refine ai_range1 (Mods.range $(Lean.mkIdent `M)) ?_)
local macro_rules | `(tactic| walk_at "while") => `(tactic| (refine as_cons ?_; refine a1_while ?hp ?I ?h0 ?hs; (case hp => exact PassesOwn.never)))
local macro_rules | `(tactic| walk_at "pair") => `(tactic| refine ag_pairU $(Lean.mkIdent `hN) (by walk_at "ix") (by walk_at "ix") $(Lean.mkIdent `hnd) ?hd ?_)
local macro_rules | `(tactic| walk_at "blk") => `(tactic| exact blkOk_by (by decide +kernel))
local macro_rules | `(tactic| walk_at "forX") => `(tactic| (refine as_cons ?_; refine a1_for ?hp ?_ ?hc ?hs; (case hp => exact passes_of rfl); (case hc => rfl); (case hs => intro _; rfl)))
/-! L14: == of two orders -/
section
variable {X : Cx} {T : Ent} {ρ : Rho} {cs : Cs}
theorem passLL {CR : Addr} : Pas X T (L2.CX X.prog X.w) CR R0 := ⟨L2.E0, L2.passL, fun _ _ _ h => h.elim⟩
def eqR (K : PySem.W.Frag) (CO : Addr) : Addr → Addr → Hp → Prop := fun a b H => ∃ n R, RpL K H [ordD CO n R, ordD CO n R] [.ref a, .ref b]
theorem ax_eqO {CR CO : Addr} {a b : Expr} {pos : Pos} {P : Dt → Cs → Prop} (cE : Mo X.prog X.w X.K X.mg X.base CX0 CR CO 2 "__eq__" (pureS (S_ordE CO))) (hr : Room 2 X.A)
    (h : Ax X T a ρ cs fun d cs1 => Ax X T b ρ cs1 fun e cs2 => ∃ n R, d = ordD CO n R ∧ e = ordD CO n R ∧ P (.bl true) cs2) : Ax X T (.Compare a [.Eq] [b] pos) ρ cs P := by
  obtain ⟨f, fd, ps, F, cl, mt, hb⟩ := cE.ex
  have F2 : FnOk X.prog X.w X.K X.mg X.base CX0 2 f fd ps (spEq (eqR X.K CO)) := F.imp fun vs H Q E ⟨x, y, e, ⟨n, R, hr⟩, q⟩ => by
    subst e
    refine ⟨H, _, [], fun d cs => d = .bl true, R0, ⟨Ex.refl _, Ex.refl _, fun b o q => .inl q, fun b o q _ => q, fun c hc => by simp at hc, by simp, fun b hb => by simp at hb⟩, hr, ⟨rfl, n, R, rfl, rfl⟩, fun v H' ⟨F', d, cs', e1, h1, r1, hd⟩ => ?_, fun _ _ _ h => h.elim⟩
    subst hd
    obtain rfl := (show v = V.bl true from r1)
    exact q H' (e1.trans h1.exH)
  have rc := rcG_ins (X := X) (C := CO) F2 mt.at_ mt.fn hb pass0
  refine ax_cmp (op_eqG rc hr) (nomark _) (h.imp fun d cs1 h1 => h1.imp fun e cs2 ⟨n, R, hd, he, q⟩ => fun Fb F H x y e1 hh rx ry => ?_)
  subst hd
  subst he
  have mx := rx.mono hh.exH
  have my := ry.mono hh.exH
  obtain ⟨ax, dx, vx, ex, hx, _⟩ := id mx
  obtain ⟨ay, dy, vy, ey, hy, _⟩ := id my
  subst ex
  subst ey
  exact ⟨⟨ax, ay, dx, dy, _, _, rfl, rfl, hx, hy, n, R, _, _, rfl, mx, _, _, rfl, my, rfl⟩, fun H' k => .flat (d := .bl true) e1 (hh.lift k) rfl q⟩
end

end G
namespace G
open PySem PySem.Spec PyProof.Rows L2 Evl
--nomac
/-! M2: the plain law -/
theorem leR_iff {R : Rl} {x y : Nat} : leR R x y = true ↔ R x y = true ∨ y = x := by unfold leR; rw [Bool.or_eq_true, decide_eq_true_iff]
section
variable {n : Nat} {R : Rl} {J M : Nat → Nat → Nat}
theorem Ord.le_tr (O : Ord n R) {x y z : Nat} (hx : x < n) (hy : y < n) (hz : z < n) (h1 : leR R x y = true) (h2 : leR R y z = true) : leR R x z = true := by
  rw [leR_iff] at h1 h2 ⊢
  rcases h1 with h1 | rfl
  · rcases h2 with h2 | rfl
    · exact .inl (O.tr x y z hx hy hz h1 h2)
    · exact .inl h1
  · exact h2
theorem LatOk.j1 (L : LatOk n R J M) {x y : Nat} (hx : x < n) (hy : y < n) : leR R x (J x y) = true ∧ leR R y (J x y) = true := by
  have h := (L.jn x y hx hy).2 (J x y) (L.jn x y hx hy).1
  rw [leR_refl] at h
  have h := h.symm
  rw [Bool.and_eq_true] at h
  exact h
theorem LatOk.j2 (L : LatOk n R J M) {x y z : Nat} (hx : x < n) (hy : y < n) (hz : z < n) (h1 : leR R x z = true) (h2 : leR R y z = true) : leR R (J x y) z = true := by
  rw [(L.jn x y hx hy).2 z hz, h1, h2]
  rfl
theorem LatOk.m1 (L : LatOk n R J M) {x y : Nat} (hx : x < n) (hy : y < n) : leR R (M x y) x = true ∧ leR R (M x y) y = true := by
  have h := (L.mt x y hx hy).2 (M x y) (L.mt x y hx hy).1
  rw [leR_refl] at h
  have h := h.symm
  rw [Bool.and_eq_true] at h
  exact h
theorem LatOk.m2 (L : LatOk n R J M) {x y z : Nat} (hx : x < n) (hy : y < n) (hz : z < n) (h1 : leR R z x = true) (h2 : leR R z y = true) : leR R z (M x y) = true := by
  rw [(L.mt x y hx hy).2 z hz, h1, h2]
  rfl
theorem LatOk.j_comm (L : LatOk n R J M) {x y : Nat} (hx : x < n) (hy : y < n) : J x y = J y x :=
  L.anti (L.bj x y hx hy) (L.bj y x hy hx) (L.j2 hx hy (L.bj y x hy hx) (L.j1 hy hx).2 (L.j1 hy hx).1) (L.j2 hy hx (L.bj x y hx hy) (L.j1 hx hy).2 (L.j1 hx hy).1)
theorem LatOk.j_idem (L : LatOk n R J M) {x : Nat} (hx : x < n) : J x x = x := L.anti (L.bj x x hx hx) hx (L.j2 hx hx hx (leR_refl R x) (leR_refl R x)) (L.j1 hx hx).1
theorem distL_eq (L : LatOk n R J M) : distL n J M = distB n J M := by
  rw [Bool.eq_iff_iff]
  constructor
  · intro h
    have key : ∀ x y z, x < n → y < n → z < y → M x (J y z) = J (M x y) (M x z) := fun x y z hx hy hz =>
      of_decide_eq_true (List.all_eq_true.mp (List.all_eq_true.mp (List.all_eq_true.mp h x (List.mem_range.mpr hx)) y (List.mem_range.mpr hy)) z (List.mem_range.mpr hz))
    refine dist_yes fun x y z hx hy hz => ?_
    rcases Nat.lt_trichotomy z y with h1 | h1 | h1
    · exact key x y z hx hy h1
    · subst h1
      rw [L.j_idem hz, L.j_idem (L.bm x z hx hz)]
    · rw [L.j_comm hy hz, key x z y hx hz h1, L.j_comm (L.bm x z hx hz) (L.bm x y hx hy)]
  · intro h
    refine distL_yes fun x y z hx hy hz => ?_
    exact of_decide_eq_true (List.all_eq_true.mp (List.all_eq_true.mp (List.all_eq_true.mp h x (List.mem_range.mpr hx)) y (List.mem_range.mpr hy)) z (List.mem_range.mpr (by omega)))
theorem irrT_eq (O : Ord n R) : irrT n R = irrL n R := by
  unfold irrT irrL
  refine List.filter_congr fun x hx => ?_
  have e : topT n R x = (List.range n).filter fun y => cov n R y x := by
    unfold topT belT
    rw [List.filter_filter]
    refine List.filter_congr fun y hy => ?_
    unfold cov
    rw [List.filter_filter, Bool.and_comm]
    congr 1
    rw [Bool.eq_iff_iff, decide_eq_true_iff, Bool.not_eq_true', List.length_eq_zero_iff, List.filter_eq_nil_iff, List.any_eq_false]
  rw [e]
theorem find_uniq {p : Nat → Bool} {l : List Nat} {j : Nat} (hj : j ∈ l) (hp : p j = true) (hu : ∀ z, z ∈ l → p z = true → z = j) : l.find? p = some j := by
  cases h : l.find? p with
  | none => exact absurd hp (List.find?_eq_none.mp h j hj)
  | some z => rw [hu z (List.mem_of_find?_eq_some h) (List.find?_some h)]
theorem bound_up (L : LatOk n R J M) {x y : Nat} (hx : x < n) (hy : y < n) : boundI n R x y true = (J x y : Int) := by
  have eu : ∀ a b, upR true R a b = leR R a b := fun a b => by
    unfold upR leR
    rw [if_pos rfl, Bool.or_comm]
    congr 1
    rw [Bool.eq_iff_iff, decide_eq_true_iff, decide_eq_true_iff]
    exact eq_comm
  have hm : ∀ z, z ∈ comL n R x y true ↔ z < n ∧ leR R (J x y) z = true := fun z => by
    unfold comL
    rw [List.mem_filter, List.mem_range, eu, eu]
    constructor
    · exact fun h => ⟨h.1, by rw [(L.jn x y hx hy).2 z h.1]; exact h.2⟩
    · exact fun h => ⟨h.1, by rw [← (L.jn x y hx hy).2 z h.1]; exact h.2⟩
  have hg : ∀ z, goodB (comL n R x y true) R true z = true ↔ ∀ w, w < n → leR R (J x y) w = true → leR R z w = true := fun z => by
    unfold goodB
    rw [List.all_eq_true]
    constructor
    · intro h w hw hl
      have := h w ((hm w).mpr ⟨hw, hl⟩)
      rw [if_pos rfl, Bool.or_comm] at this
      exact this
    · intro h w hw
      obtain ⟨h1, h2⟩ := (hm w).mp hw
      rw [if_pos rfl, Bool.or_comm]
      exact h w h1 h2
  have hJ := L.bj x y hx hy
  have e := find_uniq (p := goodB (comL n R x y true) R true) ((hm _).mpr ⟨hJ, leR_refl R _⟩) ((hg _).mpr fun w _ h => h) (fun z hz hgz => by
    obtain ⟨h1, h2⟩ := (hm z).mp hz
    exact L.anti h1 hJ ((hg z).mp hgz _ hJ (leR_refl R _)) h2)
  unfold boundI
  rw [e]
theorem bound_dn (L : LatOk n R J M) {x y : Nat} (hx : x < n) (hy : y < n) : boundI n R x y false = (M x y : Int) := by
  have eu : ∀ a b, upR false R a b = leR R b a := fun a b => by
    unfold upR leR
    rw [if_neg Bool.false_ne_true, Bool.or_comm]
  have hm : ∀ z, z ∈ comL n R x y false ↔ z < n ∧ leR R z (M x y) = true := fun z => by
    unfold comL
    rw [List.mem_filter, List.mem_range, eu, eu]
    constructor
    · exact fun h => ⟨h.1, by rw [(L.mt x y hx hy).2 z h.1]; exact h.2⟩
    · exact fun h => ⟨h.1, by rw [← (L.mt x y hx hy).2 z h.1]; exact h.2⟩
  have hg : ∀ z, goodB (comL n R x y false) R false z = true ↔ ∀ w, w < n → leR R w (M x y) = true → leR R w z = true := fun z => by
    have ef : ∀ w, (decide (w = z) || (if false = true then R z w else R w z)) = leR R w z := fun w => by
      unfold leR
      rw [if_neg Bool.false_ne_true, Bool.or_comm]
      congr 1
      rw [Bool.eq_iff_iff, decide_eq_true_iff, decide_eq_true_iff]
      exact eq_comm
    unfold goodB
    rw [List.all_eq_true]
    constructor
    · intro h w hw hl
      have := h w ((hm w).mpr ⟨hw, hl⟩)
      rw [ef] at this
      exact this
    · intro h w hw
      obtain ⟨h1, h2⟩ := (hm w).mp hw
      rw [ef]
      exact h w h1 h2
  have hM := L.bm x y hx hy
  have e := find_uniq (p := goodB (comL n R x y false) R false) ((hm _).mpr ⟨hM, leR_refl R _⟩) ((hg _).mpr fun w _ h => h) (fun z hz hgz => by
    obtain ⟨h1, h2⟩ := (hm z).mp hz
    exact L.anti h1 hM h2 ((hg z).mp hgz _ hM (leR_refl R _)))
  unfold boundI
  rw [e]
/-! ### finite orders -/
theorem Ord.max (O : Ord n R) : ∀ l : List Nat, l ≠ [] → (∀ x ∈ l, x < n) → ∃ m ∈ l, ∀ v ∈ l, R m v = false
  | [], h, _ => absurd rfl h
  | [a], _, hl => ⟨a, List.mem_singleton.mpr rfl, fun v hv => by rw [List.mem_singleton.mp hv]; exact O.irr a (hl a (List.mem_singleton.mpr rfl))⟩
  | a :: b :: l, _, hl => by
    have ha := hl a (List.mem_cons_self ..)
    have hl2 : ∀ x ∈ b :: l, x < n := fun x hx => hl x (List.mem_cons_of_mem _ hx)
    obtain ⟨m, hm, hv⟩ := O.max (b :: l) (by simp) hl2
    cases h : R m a with
    | true =>
      refine ⟨a, List.mem_cons_self .., fun v hvm => ?_⟩
      rcases List.mem_cons.mp hvm with rfl | hvm
      · exact O.irr _ ha
      · cases h2 : R a v with
        | false => rfl
        | true =>
          have := O.tr m a v (hl2 m hm) ha (hl2 v hvm) h h2
          rw [hv v hvm] at this
          cases this
    | false =>
      refine ⟨m, List.mem_cons_of_mem _ hm, fun v hvm => ?_⟩
      rcases List.mem_cons.mp hvm with rfl | hvm
      · exact h
      · exact hv v hvm
theorem Ord.flip (O : Ord n R) : Ord n (fun x y => R y x) := ⟨O.irr, fun x y z hx hy hz h1 h2 => O.tr z y x hz hy hx h2 h1⟩
theorem Ord.min (O : Ord n R) (l : List Nat) (h : l ≠ []) (hl : ∀ x ∈ l, x < n) : ∃ m ∈ l, ∀ v ∈ l, R v m = false := O.flip.max l h hl
theorem cov_iff {x y : Nat} : cov n R x y = true ↔ R x y = true ∧ ∀ z, z < n → ¬ (R x z = true ∧ R z y = true) := by
  unfold cov
  rw [Bool.and_eq_true, Bool.not_eq_true', List.any_eq_false]
  constructor
  · exact fun h => ⟨h.1, fun z hz q => h.2 z (List.mem_range.mpr hz) (by rw [q.1, q.2]; rfl)⟩
  · exact fun h => ⟨h.1, fun z hz q => h.2 z (List.mem_range.mp hz) (by rwa [Bool.and_eq_true] at q)⟩
/-- a cover between -/
theorem Ord.cover (O : Ord n R) {z j : Nat} (hz : z < n) (hj : j < n) (h : R z j = true) : ∃ y, y < n ∧ cov n R y j = true ∧ leR R z y = true := by
  have hmem : ∀ w, w ∈ (List.range n).filter (fun w => leR R z w && R w j) ↔ w < n ∧ leR R z w = true ∧ R w j = true := fun w => by rw [List.mem_filter, List.mem_range, Bool.and_eq_true]
  have hzm := (hmem z).mpr ⟨hz, leR_refl R z, h⟩
  obtain ⟨m, hm, hv⟩ := O.max _ (List.ne_nil_of_mem hzm) fun x hx => ((hmem x).mp hx).1
  obtain ⟨h1, h2, h3⟩ := (hmem m).mp hm
  refine ⟨m, h1, cov_iff.mpr ⟨h3, fun v hv2 q => ?_⟩, h2⟩
  have := hv v ((hmem v).mpr ⟨hv2, O.le_tr hz h1 hv2 h2 (leR_iff.mpr (.inl q.1)), q.2⟩)
  rw [q.1] at this
  cases this
theorem len_one {l : List Nat} (hn : l.Nodup) (h : l ≠ []) (hu : ∀ a b, a ∈ l → b ∈ l → a = b) : l.length = 1 := by
  match l, hn, h, hu with
  | [a], _, _, _ => rfl
  | a :: b :: l, hn, _, hu =>
    have e := hu a b (List.mem_cons_self ..) (List.mem_cons_of_mem _ (List.mem_cons_self ..))
    subst e
    exact absurd (List.mem_cons_self ..) (List.nodup_cons.mp hn).1
theorem irr_iff {x : Nat} : x ∈ irrL n R ↔ x < n ∧ ∃ d, d < n ∧ cov n R d x = true ∧ ∀ e, e < n → cov n R e x = true → e = d := by
  unfold irrL
  rw [List.mem_filter, List.mem_range, decide_eq_true_iff]
  have hm : ∀ d, d ∈ (List.range n).filter (fun y => cov n R y x) ↔ d < n ∧ cov n R d x = true := fun d => by rw [List.mem_filter, List.mem_range]
  refine ⟨fun ⟨h1, h2⟩ => ⟨h1, ?_⟩, fun ⟨h1, d, h2, h3, h4⟩ => ⟨h1, len_one (List.nodup_range.sublist List.filter_sublist) (List.ne_nil_of_mem ((hm d).mpr ⟨h2, h3⟩)) fun a b ha hb => ?_⟩⟩
  · obtain ⟨d, hd⟩ := List.length_eq_one_iff.mp h2
    have hdm := (hm d).mp (by rw [hd]; exact List.mem_singleton.mpr rfl)
    refine ⟨d, hdm.1, hdm.2, fun e he hc => ?_⟩
    have := (hm e).mpr ⟨he, hc⟩
    rw [hd] at this
    exact List.mem_singleton.mp this
  · rw [h4 a ((hm a).mp ha).1 ((hm a).mp ha).2, h4 b ((hm b).mp hb).1 ((hm b).mp hb).2]
/-- an irreducible point below a join is below one of the two -/
theorem prime (L : LatOk n R J M) (hd : distB n J M = true) {j x y : Nat} (hj : j ∈ irrL n R) (hx : x < n) (hy : y < n) (h : leR R j (J x y) = true) : leR R j x = true ∨ leR R j y = true := by
  obtain ⟨hjn, d, hdn, hc, hu⟩ := irr_iff.mp hj
  have D : ∀ x y z, x < n → y < n → z < n → M x (J y z) = J (M x y) (M x z) := fun x y z hx hy hz =>
    of_decide_eq_true (List.all_eq_true.mp (List.all_eq_true.mp (List.all_eq_true.mp hd x (List.mem_range.mpr hx)) y (List.mem_range.mpr hy)) z (List.mem_range.mpr hz))
  have hJ := L.bj x y hx hy
  have ha := L.bm j x hjn hx
  have hb := L.bm j y hjn hy
  have e1 : M j (J x y) = j := L.anti (L.bm j _ hjn hJ) hjn (L.m1 hjn hJ).1 (L.m2 hjn hJ hjn (leR_refl R j) h)
  rw [D j x y hjn hx hy] at e1
  have below : ∀ a, a < n → R a j = true → leR R a d = true := fun a ha hR => by
    obtain ⟨y, hy, hcy, hly⟩ := L.ord.cover ha hjn hR
    rw [hu y hy hcy] at hly
    exact hly
  rcases leR_iff.mp (L.m1 hjn hx).1 with h1 | h1
  · rcases leR_iff.mp (L.m1 hjn hy).1 with h2 | h2
    · have h3 := L.j2 ha hb hdn (below _ ha h1) (below _ hb h2)
      rw [e1] at h3
      have h4 : R d j = true := (cov_iff.mp hc).1
      have h5 := L.anti hjn hdn h3 (leR_iff.mpr (.inl h4))
      rw [← h5, L.irr j hjn] at h4
      cases h4
    · right
      have := (L.m1 hjn hy).2
      rw [← h2] at this
      exact this
  · left
    have := (L.m1 hjn hx).2
    rw [← h1] at this
    exact this
theorem img_bit {c : List Nat} {x k : Nat} (hk : k < c.length) : (imgN c R x).testBit k = leR R (atL c k) x := by
  unfold imgN
  rw [bit_row hk]
  unfold leR
  rw [Bool.or_comm]
  congr 1
  rw [Bool.eq_iff_iff, decide_eq_true_iff, decide_eq_true_iff]
  exact eq_comm
theorem img_out {c : List Nat} {x k : Nat} (hk : ¬ k < c.length) : (imgN c R x).testBit k = false := by
  unfold imgN
  rw [testBit_bitsOf, decide_eq_false hk, Bool.false_and]
theorem pic_ops (L : LatOk n R J M) (hd : distB n J M = true) {x y : Nat} (hx : x < n) (hy : y < n) : imgN (irrL n R) R (J x y) = imgN (irrL n R) R x ||| imgN (irrL n R) R y ∧ imgN (irrL n R) R (M x y) = imgN (irrL n R) R x &&& imgN (irrL n R) R y := by
  have hJ := L.bj x y hx hy
  have hM := L.bm x y hx hy
  constructor
  · refine Nat.eq_of_testBit_eq fun k => ?_
    rw [Nat.testBit_or]
    by_cases hk : k < (irrL n R).length
    · have hm := atL_mem hk
      have hn := irrL_lt hm
      rw [img_bit hk, img_bit hk, img_bit hk, Bool.eq_iff_iff, Bool.or_eq_true]
      exact ⟨prime L hd hm hx hy, fun h => h.elim (fun h => L.ord.le_tr hn hx hJ h (L.j1 hx hy).1) fun h => L.ord.le_tr hn hy hJ h (L.j1 hx hy).2⟩
    · rw [img_out hk, img_out hk, img_out hk]
      rfl
  · refine Nat.eq_of_testBit_eq fun k => ?_
    rw [Nat.testBit_and]
    by_cases hk : k < (irrL n R).length
    · rw [img_bit hk, img_bit hk, img_bit hk]
      exact (L.mt x y hx hy).2 _ (irrL_lt (atL_mem hk))
    · rw [img_out hk, img_out hk, img_out hk]
      rfl
theorem LatOk.bot (L : LatOk n R J M) : ∃ z, z < n ∧ ∀ v, v < n → R v z = false := by
  obtain ⟨m, hm, hv⟩ := L.ord.min (List.range n) (by
    have := L.pos
    intro e
    have e2 := congrArg List.length e
    rw [List.length_range] at e2
    have e3 : n = 0 := e2
    omega) fun x hx => List.mem_range.mp hx
  exact ⟨m, List.mem_range.mp hm, fun v h => hv v (List.mem_range.mpr h)⟩
/-- what is below x and irreducible tells whether x is below y -/
theorem le_of_img (L : LatOk n R J M) {x y : Nat} (hx : x < n) (hy : y < n) (h : ∀ j, j ∈ irrL n R → leR R j x = true → leR R j y = true) : leR R x y = true := by
  cases hxy : leR R x y with
  | true => rfl
  | false =>
    exfalso
    have O := L.ord
    have hmem : ∀ w, w ∈ (List.range n).filter (fun w => leR R w x && !leR R w y) ↔ w < n ∧ leR R w x = true ∧ leR R w y = false := fun w => by rw [List.mem_filter, List.mem_range, Bool.and_eq_true, Bool.not_eq_true']
    obtain ⟨z, hz, hv⟩ := O.min _ (List.ne_nil_of_mem ((hmem x).mpr ⟨hx, leR_refl R x, hxy⟩)) fun x hx => ((hmem x).mp hx).1
    obtain ⟨hzn, hzx, hzy⟩ := (hmem z).mp hz
    have below : ∀ w, w < n → R w z = true → leR R w y = true := fun w hw hr => by
      cases hwy : leR R w y with
      | true => rfl
      | false =>
        have := hv w ((hmem w).mpr ⟨hw, O.le_tr hw hzn hx (leR_iff.mpr (.inl hr)) hzx, hwy⟩)
        rw [hr] at this
        cases this
    have hM := L.bm z y hzn hy
    have hne : R (M z y) z = true := by
      rcases leR_iff.mp (L.m1 hzn hy).1 with h1 | h1
      · exact h1
      · have := (L.m1 hzn hy).2
        rw [← h1, hzy] at this
        cases this
    obtain ⟨d, hdn, hdc, _⟩ := O.cover hM hzn hne
    have hdz := (cov_iff.mp hdc).1
    have hzi : z ∈ irrL n R := irr_iff.mpr ⟨hzn, d, hdn, hdc, fun e hen hec => by
      have hez := (cov_iff.mp hec).1
      have hJn := L.bj d e hdn hen
      have hJz : leR R (J d e) z = true := L.j2 hdn hen hzn (leR_iff.mpr (.inl hdz)) (leR_iff.mpr (.inl hez))
      have hJy : leR R (J d e) y = true := L.j2 hdn hen hy (below d hdn hdz) (below e hen hez)
      have hJR : R (J d e) z = true := by
        rcases leR_iff.mp hJz with q | q
        · exact q
        · rw [← q, hzy] at hJy
          cases hJy
      have e1 : J d e = d := by
        rcases leR_iff.mp (L.j1 hdn hen).1 with q | q
        · exact absurd ⟨q, hJR⟩ ((cov_iff.mp hdc).2 _ hJn)
        · exact q
      have e2 : J d e = e := by
        rcases leR_iff.mp (L.j1 hdn hen).2 with q | q
        · exact absurd ⟨q, hJR⟩ ((cov_iff.mp hec).2 _ hJn)
        · exact q
      rw [← e1, e2]⟩
    have := h z hzi hzx
    rw [hzy] at this
    cases this
theorem img_le {x y : Nat} (h : imgN (irrL n R) R x = imgN (irrL n R) R y) {j : Nat} (hj : j ∈ irrL n R) (hl : leR R j x = true) : leR R j y = true := by
  obtain ⟨k, hk, e⟩ := List.mem_iff_getElem.mp hj
  have e2 : atL (irrL n R) k = j := by
    have := atL_get hk
    rw [List.getElem?_eq_getElem hk, e] at this
    exact (Option.some.inj this).symm
  rw [← e2] at hl ⊢
  rw [← img_bit hk] at hl ⊢
  rw [← h]
  exact hl
theorem joins_of (L : LatOk n R J M) (hd : distB n J M = true) : ∀ ks : List Nat, (∀ k ∈ ks, k < n) → ∃ x, x < n ∧ ∀ j, j ∈ irrL n R → (leR R j x = true ↔ ∃ k ∈ ks, leR R j k = true)
  | [], _ => by
    obtain ⟨z, hz, hb⟩ := L.bot
    refine ⟨z, hz, fun j hj => ⟨fun h => ?_, fun ⟨k, hk, _⟩ => by simp at hk⟩⟩
    obtain ⟨hjn, d, hdn, hc, _⟩ := irr_iff.mp hj
    rcases leR_iff.mp h with q | q
    · rw [hb j hjn] at q
      cases q
    · have := (cov_iff.mp hc).1
      rw [← q, hb d hdn] at this
      cases this
  | k :: ks, hk => by
    obtain ⟨x, hx, h⟩ := joins_of L hd ks fun y hy => hk y (List.mem_cons_of_mem _ hy)
    have hkn := hk k (List.mem_cons_self ..)
    have hJ := L.bj k x hkn hx
    refine ⟨J k x, hJ, fun j hj => ⟨fun q => ?_, fun ⟨y, hy, q⟩ => ?_⟩⟩
    · rcases prime L hd hj hkn hx q with q | q
      · exact ⟨k, List.mem_cons_self .., q⟩
      · obtain ⟨y, hy, q⟩ := (h j hj).mp q
        exact ⟨y, List.mem_cons_of_mem _ hy, q⟩
    · have hjn := irrL_lt hj
      rcases List.mem_cons.mp hy with rfl | hy
      · exact L.ord.le_tr hjn hkn hJ q (L.j1 hkn hx).1
      · exact L.ord.le_tr hjn hx hJ ((h j hj).mpr ⟨y, hy, q⟩) (L.j1 hkn hx).2
theorem pic_one (L : LatOk n R J M) (hd : distB n J M = true) : ∀ b ∈ lowS (irrL n R).length (belR (irrL n R) R), ((List.range n).filter fun x => decide (imgN (irrL n R) R x = b)).length = 1 := by
  intro b hb
  obtain ⟨hb1, hb2⟩ := List.mem_filter.mp hb
  have hb1 := List.mem_range.mp hb1
  rw [lowB_iff] at hb2
  have hm : ∀ x, x ∈ (List.range n).filter (fun x => decide (imgN (irrL n R) R x = b)) ↔ x < n ∧ imgN (irrL n R) R x = b := fun x => by rw [List.mem_filter, List.mem_range, decide_eq_true_iff]
  refine len_one (List.nodup_range.sublist List.filter_sublist) ?_ fun x y hx hy => ?_
  · obtain ⟨x, hx, h⟩ := joins_of L hd (((List.range (irrL n R).length).filter b.testBit).map (atL (irrL n R))) fun k hk => by
      obtain ⟨i, hi, rfl⟩ := List.mem_map.mp hk
      exact irrL_lt (atL_mem (List.mem_range.mp (List.mem_filter.mp hi).1))
    refine List.ne_nil_of_mem ((hm x).mpr ⟨hx, Nat.eq_of_testBit_eq fun k => ?_⟩)
    by_cases hk : k < (irrL n R).length
    · rw [img_bit hk, Bool.eq_iff_iff, h _ (atL_mem hk)]
      constructor
      · rintro ⟨j, hj, q⟩
        obtain ⟨i, hi, rfl⟩ := List.mem_map.mp hj
        obtain ⟨hi1, hi2⟩ := List.mem_filter.mp hi
        have hi1 := List.mem_range.mp hi1
        rcases leR_iff.mp q with q | q
        · exact hb2 i hi2 k hk q
        · rw [← atL_inj (irrL_nodup n R) hi1 hk q]
          exact hi2
      · intro q
        exact ⟨_, List.mem_map.mpr ⟨k, List.mem_filter.mpr ⟨List.mem_range.mpr hk, q⟩, rfl⟩, leR_refl R _⟩
    · rw [img_out hk, Nat.testBit_lt_two_pow (Nat.lt_of_lt_of_le hb1 (Nat.pow_le_pow_right (by omega) (by omega)))]
  · obtain ⟨hxn, hxb⟩ := (hm x).mp hx
    obtain ⟨hyn, hyb⟩ := (hm y).mp hy
    exact L.anti hxn hyn (le_of_img L hxn hyn fun j hj hl => img_le (hxb.trans hyb.symm) hj hl) (le_of_img L hyn hxn fun j hj hl => img_le (hyb.trans hxb.symm) hj hl)
end
/-! ### the drawn ones are lattices -/
/-- bit by bit below -/
def Sb (a b : Nat) : Prop := ∀ k, a.testBit k = true → b.testBit k = true
theorem Sb.anti {a b : Nat} (h1 : Sb a b) (h2 : Sb b a) : a = b := Nat.eq_of_testBit_eq fun k => by
  rw [Bool.eq_iff_iff]
  exact ⟨h1 k, h2 k⟩
theorem sub_iff {s : List Nat} {i j : Nat} : subS s i j = true ↔ i ≠ j ∧ Sb (atL s i) (atL s j) := by
  unfold subS
  rw [Bool.and_eq_true, Bool.not_eq_true', decide_eq_false_iff_not, decide_eq_true_iff, List.length_eq_zero_iff, List.filter_eq_nil_iff]
  have hm : ∀ a x, x ∈ membersN a ↔ a.testBit x = true := fun a x => by rw [← mem_membersN, decide_eq_true_iff]
  refine ⟨fun h => ⟨h.1, fun k hk => ?_⟩, fun h => ⟨h.1, fun k hk => ?_⟩⟩
  · have := h.2 k ((hm _ k).mpr hk)
    rw [mem_membersN] at this
    simpa using this
  · rw [mem_membersN, h.2 k ((hm _ k).mp hk)]
    decide
theorem idx_lt {s : List Nat} {a : Nat} (h : a ∈ s) : s.idxOf a < s.length := List.idxOf_lt_length_of_mem h
theorem atL_idx {s : List Nat} {a : Nat} (h : a ∈ s) : atL s (s.idxOf a) = a := by
  have h1 := idx_lt h
  have h2 := atL_get h1
  rw [List.getElem?_eq_getElem h1, List.getElem_idxOf h1] at h2
  exact (Option.some.inj h2).symm
theorem fam_lat {s : List Nat} (F : FamOk s) : ∃ J M, LatOk s.length (war s.length (rel (prs s.length (subS s) s.length))) J M := by
  have O : Ord s.length (subS s) := by
    refine ⟨fun x _ => ?_, fun x y z hx hy hz h1 h2 => ?_⟩
    · cases h : subS s x x with
      | false => rfl
      | true => exact absurd rfl (sub_iff.mp h).1
    · obtain ⟨a1, a2⟩ := sub_iff.mp h1
      obtain ⟨b1, b2⟩ := sub_iff.mp h2
      refine sub_iff.mpr ⟨fun e => ?_, fun k hk => b2 k (a2 k hk)⟩
      subst e
      exact a1 (atL_inj F.nd hx hy (a2.anti b2))
  have hle : ∀ x y, x < s.length → y < s.length → (leR (subS s) x y = true ↔ Sb (atL s x) (atL s y)) := fun x y hx hy => by
    rw [leR_iff]
    constructor
    · rintro (h | rfl)
      · exact (sub_iff.mp h).2
      · exact fun k hk => hk
    · intro h
      by_cases e : x = y
      · exact .inr e.symm
      · exact .inl (sub_iff.mpr ⟨e, h⟩)
  have hor : ∀ x y, x < s.length → y < s.length → (atL s x ||| atL s y) ∈ s := fun x y hx hy => (F.cl _ _ (atL_mem hx) (atL_mem hy)).2
  have hand : ∀ x y, x < s.length → y < s.length → (atL s x &&& atL s y) ∈ s := fun x y hx hy => (F.cl _ _ (atL_mem hx) (atL_mem hy)).1
  have hpos : 0 < s.length := by
    have := F.ne
    cases s with
    | nil => exact absurd rfl this
    | cons a l => exact Nat.succ_pos _
  refine ⟨fun x y => s.idxOf (atL s x ||| atL s y), fun x y => s.idxOf (atL s x &&& atL s y), (LatOk.congr (R := subS s) ⟨hpos, O.irr, O.tr, fun x y hx hy => ⟨idx_lt (hor x y hx hy), fun z hz => ?_⟩, fun x y hx hy => ⟨idx_lt (hand x y hx hy), fun z hz => ?_⟩⟩ fun x y hx hy => war_prs (fun _ _ _ _ => rfl) O hx hy)⟩
  · rw [Bool.eq_iff_iff, Bool.and_eq_true, hle _ _ (idx_lt (hor x y hx hy)) hz, hle x z hx hz, hle y z hy hz, atL_idx (hor x y hx hy)]
    constructor
    · exact fun h => ⟨fun k hk => h k (by rw [Nat.testBit_or, hk]; rfl), fun k hk => h k (by rw [Nat.testBit_or, hk, Bool.or_true])⟩
    · intro h k hk
      rw [Nat.testBit_or, Bool.or_eq_true] at hk
      exact hk.elim (h.1 k) (h.2 k)
  · rw [Bool.eq_iff_iff, Bool.and_eq_true, hle _ _ hz (idx_lt (hand x y hx hy)), hle z x hz hx, hle z y hz hy, atL_idx (hand x y hx hy)]
    constructor
    · intro h
      refine ⟨fun k hk => ?_, fun k hk => ?_⟩
      · have := h k hk
        rw [Nat.testBit_and, Bool.and_eq_true] at this
        exact this.1
      · have := h k hk
        rw [Nat.testBit_and, Bool.and_eq_true] at this
        exact this.2
    · intro h k hk
      rw [Nat.testBit_and, h.1 k hk, h.2 k hk]
      rfl
theorem shape_at {n : Nat} {ps : List (Nat × Nat)} (h : (n, ps) ∈ shapes) : n ≤ 8 ∧ InR n ps ∧ ps.length ≤ 100 ∧ ∃ J M, LatOk n (war n (rel ps)) J M := by
  have := List.all_eq_true.mp shapes_ok _ h
  rw [Bool.and_eq_true, Bool.and_eq_true, Bool.and_eq_true, decide_eq_true_iff, decide_eq_true_iff] at this
  obtain ⟨h1, h2, h3, h4⟩ := this
  refine ⟨h1, fun q hq => ?_, h3, _, _, okB_ok h4⟩
  have := List.all_eq_true.mp h2 q hq
  rw [Bool.and_eq_true, decide_eq_true_iff, decide_eq_true_iff] at this
  exact this
theorem drawn_sz {n : Nat} {ps : List (Nat × Nat)} (h : DrawnOk n ps) : InR n ps ∧ n ≤ 8 ∧ ps.length ≤ 100 := by
  rcases h with ⟨s, F, rfl, rfl⟩ | h
  · have h8 := F.le
    have h1 := prs_len s.length (subS s) s.length
    have h2 : s.length * s.length ≤ 8 * 8 := Nat.mul_le_mul h8 h8
    exact ⟨inR_prs _ _, h8, by omega⟩
  · obtain ⟨h1, h2, h3, _⟩ := shape_at h
    exact ⟨h2, h1, h3⟩
theorem drawn_lat0 {n : Nat} {ps : List (Nat × Nat)} (h : DrawnOk n ps) : ∃ J M, LatOk n (war n (rel ps)) J M := by
  rcases h with ⟨s, F, rfl, rfl⟩ | h
  · exact fam_lat F
  · exact (shape_at h).2.2.2
section
variable {n : Nat} {ps : List (Nat × Nat)} {N : List Nat}
theorem perm_at (hN : N.Perm (List.range n)) : N.length = n ∧ N.Nodup ∧ ∀ a, a ∈ N ↔ a < n :=
  ⟨by rw [hN.length_eq, List.length_range], hN.nodup_iff.mpr List.nodup_range, fun a => by rw [hN.mem_iff, List.mem_range]⟩
theorem ren_in (hin : InR n ps) (hN : N.Perm (List.range n)) : InR n (renP N ps) := by
  obtain ⟨h1, h2, h3⟩ := perm_at hN
  intro q hq
  obtain ⟨r, hr, rfl⟩ := List.mem_map.mp hq
  have := hin r hr
  exact ⟨(h3 _).mp (atL_mem (by omega)), (h3 _).mp (atL_mem (by omega))⟩
theorem ren_war (hin : InR n ps) (hN : N.Perm (List.range n)) {a b : Nat} (ha : a < n) (hb : b < n) : war n (rel (renP N ps)) a b = war n (rel ps) (N.idxOf a) (N.idxOf b) := by
  obtain ⟨h1, h2, h3⟩ := perm_at hN
  have hin2 := ren_in hin hN
  have qp : ∀ x, x < n → N.idxOf (atL N x) = x := fun x hx => by
    have hm := atL_mem (c := N) (i := x) (by omega)
    exact atL_inj h2 (idx_lt hm) (by omega) (atL_idx hm)
  rw [Bool.eq_iff_iff]
  constructor
  · intro h
    have hw := war_least (R := rel (renP N ps)) (S := fun a b => decide (a < n) && (decide (b < n) && war n (rel ps) (N.idxOf a) (N.idxOf b))) (fun x y h => ?_) (fun x y z h1 h2 => ?_) n a b h
    · simp only [Bool.and_eq_true] at hw
      exact hw.2.2
    · have h : (x, y) ∈ renP N ps := of_decide_eq_true h
      obtain ⟨r, hr, e⟩ := List.mem_map.mp h
      have hr2 := hin r hr
      have e1 : atL N r.1 = x := congrArg Prod.fst e
      have e2 : atL N r.2 = y := congrArg Prod.snd e
      subst e1 e2
      rw [decide_eq_true ((h3 _).mp (atL_mem (c := N) (by omega))), decide_eq_true ((h3 _).mp (atL_mem (c := N) (by omega))), qp _ hr2.1, qp _ hr2.2, Bool.true_and, Bool.true_and]
      exact war_mono (decide_eq_true hr) n
    · simp only [Bool.and_eq_true] at h1 h2 ⊢
      exact ⟨h1.1, h2.2.1, rel_war_eq hin _ _ _ h1.2.2 h2.2.2⟩
  · intro h
    have hw := war_least (R := rel ps) (S := fun x y => war n (rel (renP N ps)) (atL N x) (atL N y)) (fun x y h => ?_) (fun x y z h1 h2 => rel_war_eq hin2 _ _ _ h1 h2) n _ _ h
    · rw [atL_idx ((h3 a).mpr ha), atL_idx ((h3 b).mpr hb)] at hw
      exact hw
    · exact war_mono (decide_eq_true (List.mem_map.mpr ⟨(x, y), of_decide_eq_true h, rfl⟩)) n
theorem drawn_lat (h : DrawnOk n ps) (hN : N.Perm (List.range n)) : ∃ J M, LatOk n (war n (rel (renP N ps))) J M := by
  obtain ⟨J, M, L⟩ := drawn_lat0 h
  have hin := (drawn_sz h).1
  obtain ⟨h1, h2, h3⟩ := perm_at hN
  have ql : ∀ a, a < n → N.idxOf a < n := fun a ha => by
    have := idx_lt ((h3 a).mpr ha)
    omega
  have pl : ∀ x, x < n → atL N x < n := fun x hx => (h3 _).mp (atL_mem (by omega))
  have pq : ∀ a, a < n → atL N (N.idxOf a) = a := fun a ha => atL_idx ((h3 a).mpr ha)
  have qp : ∀ x, x < n → N.idxOf (atL N x) = x := fun x hx => by
    have hm := atL_mem (c := N) (i := x) (by omega)
    exact atL_inj h2 (idx_lt hm) (by omega) (atL_idx hm)
  have hR : ∀ a b, a < n → b < n → war n (rel (renP N ps)) a b = war n (rel ps) (N.idxOf a) (N.idxOf b) := fun a b ha hb => ren_war hin hN ha hb
  generalize war n (rel (renP N ps)) = R' at *
  generalize war n (rel ps) = R at *
  have hle : ∀ a b, a < n → b < n → leR R' a b = leR R (N.idxOf a) (N.idxOf b) := fun a b ha hb => by
    unfold leR
    rw [hR a b ha hb]
    congr 1
    rw [Bool.eq_iff_iff, decide_eq_true_iff, decide_eq_true_iff]
    refine ⟨fun e => by rw [e], fun e => ?_⟩
    rw [← pq a ha, ← pq b hb, e]
  refine ⟨fun a b => atL N (J (N.idxOf a) (N.idxOf b)), fun a b => atL N (M (N.idxOf a) (N.idxOf b)), L.pos, fun x hx => by rw [hR x x hx hx]; exact L.irr _ (ql x hx), fun x y z hx hy hz a b => ?_, fun x y hx hy => ?_, fun x y hx hy => ?_⟩
  · rw [hR _ _ hx hy] at a
    rw [hR _ _ hy hz] at b
    rw [hR _ _ hx hz]
    exact L.tr _ _ _ (ql x hx) (ql y hy) (ql z hz) a b
  · have hj := L.bj _ _ (ql x hx) (ql y hy)
    refine ⟨pl _ hj, fun z hz => ?_⟩
    rw [hle _ _ (pl _ hj) hz, hle x z hx hz, hle y z hy hz, qp _ hj]
    exact (L.jn _ _ (ql x hx) (ql y hy)).2 _ (ql z hz)
  · have hj := L.bm _ _ (ql x hx) (ql y hy)
    refine ⟨pl _ hj, fun z hz => ?_⟩
    rw [hle _ _ hz (pl _ hj), hle z x hz hx, hle z y hz hy, qp _ hj]
    exact (L.mt _ _ (ql x hx) (ql y hy)).2 _ (ql z hz)
end

end G
namespace G
open PySem PySem.Spec PyProof.Rows L2 Evl
local macro_rules | `(tactic| walk_at "ix") => `(tactic| with_reducible (first
  | exact AtN.z | exact AtN.s AtN.z | exact AtN.s (AtN.s AtN.z) | exact AtN.s (AtN.s (AtN.s AtN.z)) | exact AtN.s (AtN.s (AtN.s (AtN.s AtN.z)))
  | exact AtN.s (AtN.s (AtN.s (AtN.s (AtN.s AtN.z)))) | exact AtN.s (AtN.s (AtN.s (AtN.s (AtN.s (AtN.s AtN.z))))) | exact AtN.s (AtN.s (AtN.s (AtN.s (AtN.s (AtN.s (AtN.s AtN.z))))))
  | exact AtN.s (AtN.s (AtN.s (AtN.s (AtN.s (AtN.s (AtN.s (AtN.s AtN.z))))))) | exact AtN.s (AtN.s (AtN.s (AtN.s (AtN.s (AtN.s (AtN.s (AtN.s (AtN.s AtN.z)))))))) | exact AtN.s (AtN.s (AtN.s (AtN.s (AtN.s (AtN.s (AtN.s (AtN.s (AtN.s (AtN.s AtN.z)))))))))
  | exact AtN.s (AtN.s (AtN.s (AtN.s (AtN.s (AtN.s (AtN.s (AtN.s (AtN.s (AtN.s (AtN.s AtN.z))))))))))
  | exact AtN.s (AtN.s (AtN.s (AtN.s (AtN.s (AtN.s (AtN.s (AtN.s (AtN.s (AtN.s (AtN.s (AtN.s AtN.z)))))))))))
  | exact AtN.s (AtN.s (AtN.s (AtN.s (AtN.s (AtN.s (AtN.s (AtN.s (AtN.s (AtN.s (AtN.s (AtN.s (AtN.s AtN.z))))))))))))
  | exact AtN.s (AtN.s (AtN.s (AtN.s (AtN.s (AtN.s (AtN.s (AtN.s (AtN.s (AtN.s (AtN.s (AtN.s (AtN.s (AtN.s AtN.z)))))))))))))
  | exact AtN.s (AtN.s (AtN.s (AtN.s (AtN.s (AtN.s (AtN.s (AtN.s (AtN.s (AtN.s (AtN.s (AtN.s (AtN.s (AtN.s (AtN.s AtN.z))))))))))))))))
local macro_rules | `(tactic| walk_at "ev1") => `(tactic| first
  | with_reducible refine ax_int ?_ | with_reducible refine ax_bl ?_ | with_reducible refine ax_non ?_ | with_reducible refine ax_str ?_
  | ((with_reducible show Ax _ _ (Expr.Name _ _) _ _ _); refine ax_u $(Lean.mkIdent `hN) (by walk_at "ix") rfl ?_)
  | ((with_reducible show Ax _ _ (Expr.Compare _ _ _ _) _ _ _); first | (with_reducible refine ax_cmpR cmp_lt ?_) | (with_reducible refine ax_cmpR cmp_le ?_) | (with_reducible refine ax_cmpR cmp_gt ?_) | (with_reducible refine ax_cmpR cmp_ge ?_) | (with_reducible refine ax_cmpR cmp_eq ?_) | (with_reducible refine ax_cmpR cmp_ne ?_) | (with_reducible refine ax_cmpR cmp_is ?_) | (with_reducible refine ax_cmpR cmp_isN ?_))
  | ((with_reducible show At _ _ (Expr.Compare _ _ _ _) _ _ _); first | (with_reducible refine at_cmpR cmp_lt ?_) | (with_reducible refine at_cmpR cmp_le ?_) | (with_reducible refine at_cmpR cmp_gt ?_) | (with_reducible refine at_cmpR cmp_ge ?_) | (with_reducible refine at_cmpR cmp_eq ?_) | (with_reducible refine at_cmpR cmp_ne ?_) | (with_reducible refine at_cmpR cmp_is ?_) | (with_reducible refine at_cmpR cmp_isN ?_))
  | with_reducible refine ax_add ?_ | with_reducible refine ax_sub ?_ | with_reducible refine ax_mul ?_ | with_reducible refine ax_fdiv ?_ | with_reducible refine ax_mod ?_ | with_reducible refine ax_shl ?_ | with_reducible refine ax_shr ?_ | with_reducible refine ax_and ?_ | with_reducible refine ax_or ?_ | with_reducible refine ax_neg ?_
  | with_reducible refine ax_one ?_ | with_reducible refine ax_andv ?_ | with_reducible refine ax_orv ?_ | with_reducible refine ax_notv ?_ | with_reducible refine at_one ?_ | with_reducible refine at_and ?_ | with_reducible refine at_or ?_ | with_reducible refine at_not ?_ | with_reducible refine ax_if ?_
  | ((with_reducible show Ax _ _ (Expr.Subscript _ _ _) _ _ _); refine ax_ix ?_) | with_reducible refine ax_tup ?_ | ((with_reducible show Aa _ _ (_ :: _) _ _ _); refine aa_cons ?_) | with_reducible refine aa_nil ?_
  | ((with_reducible show Ax _ _ (Expr.Call (Expr.Name "len" _) _ _ _) _ _ _); refine ax_len (Mods.len $(Lean.mkIdent `M)) ?_)
  | ((with_reducible show Ax _ _ (Expr.Call (Expr.Name "int" _) _ _ _) _ _ _); refine ax_int1 (Mods.int $(Lean.mkIdent `M)) ?_)
  | ((with_reducible show Ax _ _ (Expr.Call (Expr.Name "abs" _) _ _ _) _ _ _); refine ax_abs (Mods.abs $(Lean.mkIdent `M)) ?_)
  | ((with_reducible show Ax _ _ (Expr.Call (Expr.Name "tuple" _) _ _ _) _ _ _); refine ax_tuple (Mods.tuple $(Lean.mkIdent `M)) ?_)
  | ((with_reducible show Ax _ _ (Expr.Call (Expr.Name "has" _) _ _ _) _ _ _); refine ax_call $(Lean.mkIdent `cHas) (Room.mono $(Lean.mkIdent `hr) (by decide)) pas0 ?_)
  | ((with_reducible show Ax _ _ (Expr.Call (Expr.Name "set_of" _) _ _ _) _ _ _); refine ax_call $(Lean.mkIdent `cSetOf) (Room.mono $(Lean.mkIdent `hr) (by decide)) pas0 ?_)
  | ((with_reducible show Ax _ _ (Expr.Call (Expr.Name "members" _) _ _ _) _ _ _); refine ax_call $(Lean.mkIdent `cMembers) (Room.mono $(Lean.mkIdent `hr) (by decide)) pas0 ?_)
  | ((with_reducible show Ax _ _ (Expr.Call (Expr.Name "is_integer" _) _ _ _) _ _ _); refine ax_call $(Lean.mkIdent `cIsInt) (Room.mono $(Lean.mkIdent `hr) (by decide)) pas0 ?_)
  | ((with_reducible show Ax _ _ (Expr.Call (Expr.Attribute _ "bit_length" _) _ _ _) _ _ _); refine ax_bits ?_)
  | ((with_reducible show Ax _ _ (Expr.Call (Expr.Name "isinstance" _) [_, Expr.Name "int" _] _ _) _ _ _); refine ax_isi (u := "int") (Mods.isinstance $(Lean.mkIdent `M)) (Mods.int $(Lean.mkIdent `M)) boot_int ?_)
  | ((with_reducible show Ax _ _ (Expr.Call (Expr.Name "isinstance" _) [_, Expr.Name "bool" _] _ _) _ _ _); refine ax_isi (u := "bool") (Mods.isinstance $(Lean.mkIdent `M)) (Mods.bool $(Lean.mkIdent `M)) boot_bool ?_)
  | ((with_reducible show Ax _ _ (Expr.Call (Expr.Name "isinstance" _) [_, Expr.Name "tuple" _] _ _) _ _ _); refine ax_isi (u := "tuple") (Mods.isinstance $(Lean.mkIdent `M)) (Mods.tuple $(Lean.mkIdent `M)) boot_tuple ?_)
  | ((with_reducible show Ax _ _ (Expr.Call (Expr.Name "isinstance" _) [_, Expr.Tuple [Expr.Name "list" _, Expr.Name "tuple" _] _ _] _ _) _ _ _); refine ax_isi2 (u1 := "list") (u2 := "tuple") (Mods.isinstance $(Lean.mkIdent `M)) (Mods.list $(Lean.mkIdent `M)) (Mods.tuple $(Lean.mkIdent `M)) boot_list boot_tuple ?_)
  | ((with_reducible show ∃ t k, tyD _ = some t ∧ kitB t _ = some k ∧ _); refine ⟨_, _, rfl, by with_reducible (first | exact kit_ii | exact kit_ib | exact kit_tt), ?_⟩)
  | ((with_reducible show S_isInt _ _ _); refine ⟨_, rfl, ?_⟩) | ((with_reducible show S_has _ _ _); refine ⟨_, _, rfl, ?_⟩)
  | ((with_reducible show REq _ _ _ _); refine ⟨_, rfl, ?_⟩) | ((with_reducible show RNe _ _ _ _); refine ⟨_, rfl, ?_⟩) | ((with_reducible show RI _ _ _ _ _); refine ⟨_, _, rfl, rfl, ?_⟩)
  | with_reducible refine ⟨_, _, rfl, rfl, ?_⟩
  | with_reducible refine ⟨_, rfl, ?_⟩
  | ((with_reducible show At _ _ (Expr.Name _ _) _ _ _); refine at_val ?_) | ((with_reducible show At _ _ (Expr.Call _ _ _ _) _ _ _); refine at_val ?_) | ((with_reducible show At _ _ (Expr.Subscript _ _ _) _ _ _); refine at_val ?_))
local macro_rules | `(tactic| walk_at "ev") => `(tactic| repeat walk_at "ev1")
local macro_rules | `(tactic| walk_at "st1") => `(tactic| first
    | ((with_reducible show A1 _ _ (Stmt.Return _ _) _ _ _); refine a1_ret ?_)
    | ((with_reducible show A1 _ _ (Stmt.If _ _ _ _) _ _ _); refine a1_if ?_)
    | ((with_reducible show A1 _ _ (Stmt.Expr _ _) _ _ _); refine a1_drop ?_)
    | ((with_reducible show A1 _ _ (Stmt.Assign [Expr.Name _ _] _ _) _ _ _); refine a1_setU $(Lean.mkIdent `hN) (by walk_at "ix") $(Lean.mkIdent `hnd) ?_)
    | ((with_reducible show A1 _ _ (Stmt.Assign _ _ _) _ _ _); refine a1_asg ?_))
local macro_rules | `(tactic| walk_at "st") => `(tactic| first
  | ((with_reducible show As _ _ [] _ _ _); refine as_nil ?_)
  | (refine as_cons ?_; walk_at "st1"))
local macro_rules | `(tactic| walk_at "newl") => `(tactic| refine as_setU $(Lean.mkIdent `hN) (by walk_at "ix") $(Lean.mkIdent `hnd) (ax_lstC (aa_nil ⟨by decide, ?_⟩)))
local macro_rules | `(tactic| walk_at "for") => `(tactic| (refine as_cons ?_; refine a1_for ?hp ?_ ?hc ?hs; (case hp => exact PassesOwn.never); (case hc => rfl); (case hs => intro _; rfl)))
local macro_rules | `(tactic| walk_at "tgt") => `(tactic| refine ag_nameU $(Lean.mkIdent `hN) (by walk_at "ix") $(Lean.mkIdent `hnd) ?_)
local macro_rules | `(tactic| walk_at "rng") => `(tactic| refine ai_range1 (Mods.range $(Lean.mkIdent `M)) ?_)
local macro_rules | `(tactic| walk_at "while") => `(tactic| (refine as_cons ?_; refine a1_while ?hp ?I ?h0 ?hs; (case hp => exact PassesOwn.never)))
local macro_rules | `(tactic| walk_at "pair") => `(tactic| refine ag_pairU $(Lean.mkIdent `hN) (by walk_at "ix") (by walk_at "ix") $(Lean.mkIdent `hnd) ?hd ?_)
local macro_rules | `(tactic| walk_at "blk") => `(tactic| exact blkOk_by (by decide +kernel))
local macro_rules | `(tactic| walk_at "forX") => `(tactic| (refine as_cons ?_; refine a1_for ?hp ?_ ?hc ?hs; (case hp => exact passes_of rfl); (case hc => rfl); (case hs => intro _; rfl)))
/-! L15: the law -/
theorem flat_bl (a b : Bool) : flat2 (.bl a) (.bl b) = some (decide (a = b)) := by cases a <;> cases b <;> rfl
section
variable {P : Program} {w : World} {K : PySem.W.Frag} {mg : Str → Option Value} {base : Heap} {CR CL CO : Addr}
abbrev sLaw : Stmt := topS 46
abbrev nLaw : List Str := ["_law_script", "_law_state_here", "_law_n", "_law_drawn_here", "_law_pairs", "_law_lattice_here", "_law_table", "_law_joins", "_law_y", "_law_x", "_law_meets", "_law_chosen", "_law_order", "_law_below", "_law_i", "_law_k"]
theorem scLaw : FnScope nLaw ["_law_script"] (defScope sLaw) := ⟨rfl, rfl, rfl, by decide +kernel, rfl, by decide +kernel, by decide +kernel⟩
def S_law : List Dt → (Dt → Prop) → (Str → Prop) → Prop := fun ds P _ => ∃ ns : List Int, ds = [.scr ns] ∧ P (.bl true)
structure Cs0 (P : Program) (w : World) (K : PySem.W.Frag) (mg : Str → Option Value) (base : Heap) (CR CL CO : Addr) : Prop where
  state : Fo P w K mg base CX0 CR 1 "_law_state" S_state
  take : Fo P w K mg base CX0 CR 1 "_law_take" S_take
  latt : Fo P w K mg base CX0 CR 4 "_law_lattice" S_latt
  ren : Fo P w K mg base CX0 CR 2 "_law_renumbered" S_ren
  lcl : Fo P w K mg base CX0 CR 2 "_law_closed" (pureS S_lcl)
  bnd : Fo P w K mg base CX0 CR 2 "_law_bound" (pureS S_bnd)
  irr : Fo P w K mg base CX0 CR 2 "_law_irreducible" (pureS S_lirr)
  iro : Fo P w K mg base (L2.CX P w) CR 6 "irreducible_order" (pureS (S_iro CL CO))
  img : Fo P w K mg base (L2.CX P w) CR 6 "images" (pureS (S_img CL))
  rea : Fo P w K mg base CX0 CR 7 "_law_reason" (pureS (S_rea CL))
  lrg : Fo P w K mg base CX0 CR 8 "_law_large" (pureS S_lrg)
  ldi : Fo P w K mg base CX0 CR 2 "_law_is_distributive" (pureS S_ldi)
  pic : Fo P w K mg base CX0 CR 4 "_law_pictures" (pureS S_pic)
  mkL : Ko P w K mg base CX0 CR CL 3 "Lattice" (S_latI CL)
  mkO : Ko P w K mg base (L2.CX P w) CR CO 4 "Order" (S_ordI CO)
  ljn : Mo P w K mg base CX0 CR CL 2 "joined" (pureS (S_ljn CL))
  lmt : Mo P w K mg base CX0 CR CL 2 "met" (pureS (S_lmt CL))
  lir : Mo P w K mg base CX0 CR CL 3 "join_irreducibles" (pureS (S_lir CL))
  lds : Mo P w K mg base CX0 CR CL 3 "is_distributive" (pureS (S_lds CL))
  oeq : Mo P w K mg base CX0 CR CO 2 "__eq__" (pureS (S_ordE CO))
  osz : Mo P w K mg base CX0 CR CO 2 "size" (pureS (S_ordS CO))
  ols : Mo P w K mg base CX0 CR CO 2 "less" (pureS (S_ordL CO))
  isO : IsC K CO
  mgO : mg "Order" = some (.ref CO)
set_option maxHeartbeats 16000000 in
theorem law_rest {f : Addr} (M : Mods mg) (C : Cs0 P w K mg base CR CL CO) {cdv : Value} {A : Around} {outer : List Env} {sh : Shared} {H0 : Hp} {E0 : XK} {T : Ent} {Pd : Dt → Cs → Prop} {a : Addr} {n : Nat} {R : Rl} {J Mt : Nat → Nat → Nat} {s2 t2 : Int} {ns : List Int} {d dq : Dt} {z8 z9 z11 z12 z13 z14 z15 : Option Dt}
    (hr : Room 8 (A.deeper (envOfC "law" (defScope sLaw) sh.heap.objs.size f cdv))) (hmu : T.mu = []) (hst2 : StOk s2 t2) (hn8 : n ≤ 8) (L : LatOk n R J Mt) (kont : Pd (.bl true) []) :
    As (cxOf CX0 P w K mg base nLaw "law" (defScope sLaw) f cdv A outer sh H0 E0).nox T ((defBody sLaw).drop 7) [some (.scr ns), some (.cell a), some (natD n), some d, some dq, some (latD CL n R J Mt), some (.lst (tabB n R)), some (.lst (tabL n J)), z8, z9, some (.lst (tabL n Mt)), z11, z12, z13, z14, z15] [stC a s2 t2] { nx := fun _ cs' => Pd .non cs', rt := Pd } := by
  have hnd := scLaw.nd
  have hN := cx_N CX0 P w K mg base nLaw "law" (defScope sLaw) f cdv A outer sh H0 E0
  have bJ := L.bj
  have bM := L.bm
  have O := L.ord
  have hcl := irrL_len n R
  have hcn := irrL_nodup n R
  have hcm : ∀ x ∈ irrL n R, x < n := fun x hx => irrL_lt hx
  have hOB := belR_ord O hcm
  have hpre : Pre T [stC a s2 t2] 0 := ⟨1, by decide, by rw [hmu]; rfl⟩
  show As _ _ (Stmt.Assign _ _ _ :: Stmt.Assign _ _ _ :: _) _ _ _
  refine as_setU hN (by walk_at "ix") hnd (ax_call C.irr (Room.mono hr (by decide)) pas0 ?_)
  walk_at "ev"
  refine ⟨n, R, rfl, by omega, ?_⟩
  rw [irrT_eq O]
  refine as_setU hN (by walk_at "ix") hnd (ax_call C.iro (Room.mono hr (by decide)) passLL ?_)
  walk_at "ev"
  refine ⟨n, R, J, Mt, rfl, by omega, O, fun _ => ?_, fun h => absurd h (by omega)⟩
  generalize hc : irrL n R = c at *
  have gc : ∀ k, k < c.length → (c.map natD)[k]? = some (natD (atL c k)) := fun k hk => by rw [List.getElem?_map, atL_get hk]; rfl
  refine as_setU hN (by walk_at "ix") hnd (ax_lst (aa_nil ⟨by decide, ?_⟩))
  walk_at "for"
  walk_at "rng"
  walk_at "ev"
  refine ⟨_, .inl rfl, c.length, by rw [List.length_map], by omega, fun i ρ cs => cs = [stC a s2 t2] ∧ ∃ z14 z15, ρ = [some (.scr ns), some (.cell a), some (natD n), some d, some dq, some (latD CL n R J Mt), some (.lst (tabB n R)), some (.lst (tabL n J)), z8, z9, some (.lst (tabL n Mt)), some (.lst (c.map natD)), some (ordD CO c.length (belR c R)), some (.lst ((prs c.length (belR c R) i).map pairN)), z14, z15], ⟨rfl, _, _, rfl⟩, ?_, ?_⟩
  · rintro i e ρ' cs' hi ⟨rfl, z14, z15, rfl⟩
    obtain ⟨hi1, rfl⟩ := rng_item hi
    walk_at "tgt"
    refine as_setU hN (by walk_at "ix") hnd (ax_cat ?_)
    walk_at "ev"
    refine ax_lcQ hN (by walk_at "ix") hnd (blkOk_by (sc := defScope sLaw) (by decide +kernel)) rfl (ai_range1 M.range ?_)
    walk_at "ev"
    refine ⟨_, .inl rfl, c.length, by rw [List.length_map], by omega, by show c.length ≤ 90000; omega, ⟨1, by rw [hmu]; rfl⟩, fun k => if belR c R i k then some (pairN (i, k)) else none, fun k d hk => ?_, ?_⟩
    · obtain ⟨hk1, rfl⟩ := rng_item hk
      intro s0 H0 C1 cl fp D acc
      refine ats_one ?_
      walk_at "ev"
      refine ⟨_, _, _, .inl rfl, rfl, gc i hi1, ?_⟩
      refine ⟨_, _, _, .inl rfl, rfl, tabB_get (hcm _ (atL_mem hi1)), ?_⟩
      walk_at "ev"
      refine ⟨_, _, _, .inl rfl, rfl, gc k hk1, ?_⟩
      refine ⟨_, _, _, .inl rfl, rfl, bRow_get (hcm _ (atL_mem hk1)), _, rfl, rfl, fun hk _ _ _ _ _ => ?_, fun hk => if_neg (by unfold belR; rw [hk]; exact Bool.false_ne_true)⟩
      walk_at "ev"
      exact ⟨by show 2 ≤ 1000; decide, rfl, if_pos hk⟩
    have e1 : (List.range (Src.len (.rng 0 c.length))).filterMap (fun k => if belR c R i k then some (pairN (i, k)) else none) = ((List.range c.length).filter (belR c R i)).map fun k => pairN (i, k) := fm_filter c.length (belR c R i) fun k => pairN (i, k)
    rw [e1]
    have hl1 := prs_len c.length (belR c R) i
    have hl2 := List.length_filter_le (belR c R i) (List.range c.length)
    have hl3 : i * c.length ≤ 8 * 8 := Nat.mul_le_mul (by omega) (by omega)
    rw [List.length_range] at hl2
    refine ⟨_, _, rfl, rfl, by rw [List.length_map, List.length_map]; omega, ?_⟩
    walk_at "st"
    refine ⟨rfl, some (natD i), z15, ?_⟩
    have e2 : (prs c.length (belR c R) (i + 1)).map pairN = (prs c.length (belR c R) i).map pairN ++ ((List.range c.length).filter (belR c R i)).map fun k => pairN (i, k) := by
      rw [prs_succ, List.map_append, List.map_map]
      rfl
    rw [e2]
    rfl
  rintro ρ' cs' ⟨rfl, z14, z15, rfl⟩
  have e0 : prs c.length (belR c R) (Src.len (.rng 0 c.length)) = prs c.length (belR c R) c.length := rfl
  rw [e0]
  walk_at "st"
  refine at_or (at_cmpR (cmp_neT (Room.u64 hr)) (ax_meth0 C.lir (Room.mono hr (by decide)) pas0 ?_))
  walk_at "ev"
  refine ⟨_, _, rfl, by decide, n, R, J, Mt, rfl, by omega, ?_⟩
  rw [hc]
  walk_at "ev"
  refine ⟨_, .inl rfl, c.map intN, by rw [nat_ints], by rw [nat_ints], fun h => (nomatch h), fun _ => ?_⟩
  refine at_or (at_not (at_val (ax_isiC M.isinstance C.mgO C.isO ?_)))
  walk_at "ev"
  refine ⟨_, _, rfl, _, rfl, fun h => (nomatch h), fun _ => ?_⟩
  refine at_one (at_cmpR cmp_ne (ax_meth0 C.osz (Room.mono hr (by decide)) pas0 ?_))
  walk_at "ev"
  refine ⟨_, _, rfl, by decide, c.length, belR c R, rfl, ?_⟩
  walk_at "ev"
  refine ⟨_, .inl rfl, ?_⟩
  rw [List.length_map]
  refine ⟨_, flat_nat _ _, ?_⟩
  rw [decide_eq_true (rfl : c.length = c.length)]
  refine ⟨fun h => (nomatch h), fun _ => ?_⟩
  walk_at "st"
  walk_at "for"
  walk_at "rng"
  walk_at "ev"
  refine ⟨_, .inl rfl, c.length, by rw [List.length_map], by omega, fun i ρ cs => cs = [stC a s2 t2] ∧ ∃ z14 z15, ρ = [some (.scr ns), some (.cell a), some (natD n), some d, some dq, some (latD CL n R J Mt), some (.lst (tabB n R)), some (.lst (tabL n J)), z8, z9, some (.lst (tabL n Mt)), some (.lst (c.map natD)), some (ordD CO c.length (belR c R)), some (.lst ((prs c.length (belR c R) c.length).map pairN)), z14, z15], ⟨rfl, _, _, rfl⟩, ?_, ?_⟩
  · rintro i e ρ' cs' hi ⟨rfl, z14, z15, rfl⟩
    obtain ⟨hi1, rfl⟩ := rng_item hi
    walk_at "tgt"
    walk_at "for"
    walk_at "rng"
    walk_at "ev"
    refine ⟨_, .inl rfl, c.length, by rw [List.length_map], by omega, fun k ρ cs => cs = [stC a s2 t2] ∧ ∃ z15, ρ = [some (.scr ns), some (.cell a), some (natD n), some d, some dq, some (latD CL n R J Mt), some (.lst (tabB n R)), some (.lst (tabL n J)), z8, z9, some (.lst (tabL n Mt)), some (.lst (c.map natD)), some (ordD CO c.length (belR c R)), some (.lst ((prs c.length (belR c R) c.length).map pairN)), some (natD i), z15], ⟨rfl, _, rfl⟩, ?_, ?_⟩
    · rintro k e ρ' cs' hk ⟨rfl, z15, rfl⟩
      obtain ⟨hk1, rfl⟩ := rng_item hk
      walk_at "tgt"
      walk_at "st"
      refine at_cmpR cmp_ne (ax_meth C.ols (Room.mono hr (by decide)) pas0 ?_)
      walk_at "ev"
      refine ⟨_, _, rfl, by decide, ?_⟩
      walk_at "ev"
      refine ⟨c.length, belR c R, i, k, rfl, hi1, hk1, ?_⟩
      refine ax_cmpR (cmp_inP (Room.u65 hr) rfl) ?_
      walk_at "ev"
      refine ⟨by show 2 ≤ 1000; decide, ?_⟩
      walk_at "ev"
      refine ⟨((i : Int), (k : Int)), (prs c.length (belR c R) c.length).map intP, rfl, .inl (by rw [pairs_int]), ?_⟩
      rw [mem_intP, rel_prs, decide_eq_true hi1, decide_eq_true hk1, Bool.true_and, Bool.true_and]
      refine ⟨_, flat_bl _ _, ?_⟩
      rw [decide_eq_true (rfl : belR c R i k = belR c R i k)]
      refine ⟨fun h => (nomatch h), fun _ => ?_⟩
      walk_at "st"
      walk_at "st"
      exact ⟨rfl, _, rfl⟩
    · rintro ρ' cs' ⟨rfl, z15, rfl⟩
      walk_at "st"
      exact ⟨rfl, _, _, rfl⟩
  rintro ρ' cs' ⟨rfl, z14, z15, rfl⟩
  have hwar : ∀ x y, x < c.length → y < c.length → war c.length (rel (prs c.length (belR c R) c.length)) x y = belR c R x y := fun x y hx hy => war_prs (fun _ _ _ _ => rfl) hOB hx hy
  have hl1 := prs_len c.length (belR c R) c.length
  have hl3 : c.length * c.length ≤ 8 * 8 := Nat.mul_le_mul (by omega) (by omega)
  walk_at "st"
  refine at_or (at_cmpR cmp_isN (ax_eqO C.oeq (Room.mono hr (by decide)) ?_))
  walk_at "ev"
  refine ax_make C.mkO (Room.mono hr (by decide)) passLL ?_
  walk_at "ev"
  refine ⟨_, .inl rfl, ?_⟩
  walk_at "ev"
  intro y
  refine ⟨y, c.length, _, by rw [List.length_map], rfl, by omega, inR_prs _ _, by omega, fun _ => ⟨fun x hx => by rw [hwar x x hx hx]; exact hOB.irr x hx, rfl, _, _, rfl, c.length, belR c R, rfl, ?_, ?_⟩, fun h => absurd h (by omega)⟩
  · rw [rowsD_congr hwar]
    rfl
  walk_at "ev"
  refine .inr ⟨_, _, rfl, rfl, fun h => (nomatch h), fun _ => ?_⟩
  refine at_one (at_not (at_val (ax_call C.lrg (Room.mono hr (by decide)) pas0 ?_)))
  refine aa_cons (ax_callN 0 C.take (Room.mono hr (by decide)) pas0 ?_)
  walk_at "ev"
  refine ⟨a, 2, s2, t2, rfl, by decide, by decide, hst2, rfl, fun v s3 t3 hv hst3 => ?_⟩
  walk_at "ev"
  refine ⟨v, rfl, _, rfl, fun h => (nomatch h), fun _ => ?_⟩
  refine as_drop 1 0 rfl ⟨1, by decide, by rw [hmu]; rfl⟩ ?_
  walk_at "st"
  walk_at "st"
  walk_at "ev"
  refine ax_call C.ldi (Room.mono hr (by decide)) pas0 ?_
  walk_at "ev"
  refine ⟨n, J, Mt, rfl, by omega, bJ, bM, _, rfl, fun hd => ?_, fun hd => ?_⟩
  · rw [distL_eq L] at hd
    walk_at "st"
    walk_at "ev"
    refine ax_meth0 C.lds (Room.mono hr (by decide)) pas0 ?_
    walk_at "ev"
    refine ⟨_, _, rfl, by decide, n, R, J, Mt, rfl, by omega, bJ, bM, ?_⟩
    rw [hd]
    walk_at "ev"
    refine .inr ⟨_, _, rfl, rfl, ?_⟩
    walk_at "ev"
    refine ⟨fun _ => ?_, fun h => (nomatch h)⟩
    refine ax_one (ax_call C.pic (Room.mono hr (by decide)) pas0 ?_)
    refine aa_cons (ax_call C.img (Room.mono hr (by decide)) passLL ?_)
    walk_at "ev"
    refine ⟨n, R, J, Mt, rfl, by omega, bJ, bM, fun h => absurd h (by rw [hd]; decide), fun _ h => absurd h (by rw [hc]; omega), fun _ _ => ?_⟩
    rw [hc]
    walk_at "ev"
    have p1 := pic_one L hd
    have p2 := fun x y => pic_ops L hd (x := x) (y := y)
    rw [hc] at p1 p2
    exact ⟨n, R, c, J, Mt, rfl, by omega, by omega, hcm, bJ, bM, p1, fun x y hx hy => p2 x y hx (by omega), kont⟩
  · rw [distL_eq L] at hd
    walk_at "st"
    walk_at "st"
    walk_at "ev"
    refine ax_meth0 C.lds (Room.mono hr (by decide)) pas0 ?_
    walk_at "ev"
    refine ⟨_, _, rfl, by decide, n, R, J, Mt, rfl, by omega, bJ, bM, ?_⟩
    rw [hd]
    walk_at "ev"
    refine .inr ⟨_, _, rfl, rfl, ?_⟩
    walk_at "ev"
    refine ⟨fun _ => ?_, fun h => (nomatch h)⟩
    walk_at "ev"
    refine ax_call C.rea (Room.mono hr (by decide)) pas0 ?_
    walk_at "ev"
    refine ⟨n, R, J, Mt, 0, rfl, by omega, O, bJ, bM, ?_⟩
    have hz : reaS n R J Mt 0 = "distributive" := by unfold reaS; rw [if_pos rfl, if_pos hd]
    rw [hz]
    walk_at "ev"
    exact kont
set_option maxHeartbeats 16000000 in
theorem ok_law {f : Addr} {fd : FuncData} (F : Fun K "law" "law" sLaw f fd) (M : Mods mg) (C : Cs0 P w K mg base CR CL CO) : FnOk P w K mg base CX0 9 f fd ["_law_script"] (spOf K CR (pureS S_law)) := by
  refine def_ok F scLaw (fun ds cs Pd R ⟨_, _, h, _⟩ => by rw [h]; rfl) fun cdv A outer s F H E ds cs Pd R0' hr ⟨hcs, ns, hd, kont⟩ => ?_
  subst hcs
  subst hd
  have hnd := scLaw.nd
  have hN := cx_N CX0 P w K mg base nLaw "law" (defScope sLaw) f cdv A outer s H E
  refine as_setU hN (by walk_at "ix") hnd (ax_callN 0 C.state (Room.mono hr (by decide)) pas0 ?_)
  walk_at "ev"
  refine ⟨ns, rfl, rfl, fun a s0 t0 hst0 => ?_⟩
  walk_at "st"
  refine ax_callN 0 C.latt (Room.mono hr (by decide)) pas0 ?_
  walk_at "ev"
  refine ⟨a, s0, t0, rfl, hst0, rfl, fun n ps d s1 t1 hdr hdd hst1 => ?_⟩
  obtain ⟨hin, hn8, hpl⟩ := drawn_sz hdr
  refine ag_pairU hN (by walk_at "ix") (by walk_at "ix") hnd rfl ?_
  refine as_setU hN (by walk_at "ix") hnd (ax_callN 0 C.ren (Room.mono hr (by decide)) pas0 ?_)
  walk_at "ev"
  refine ⟨a, n, ps, d, s1, t1, rfl, hdd, by omega, hin, by omega, hst1, rfl, fun N s2 t2 hN2 hst2 => ?_⟩
  obtain ⟨J, Mt, L⟩ := drawn_lat hdr hN2
  have hin2 := ren_in hin hN2
  generalize hqs : renP N ps = qs at *
  walk_at "st"
  refine ax_tup (aa_cons (ax_make C.mkL (Room.mono hr (by decide)) pas0 ?_))
  walk_at "ev"
  intro y
  refine ⟨y, n, qs, _, J, Mt, rfl, rfl, by omega, .inr rfl, hin2, L, rfl, _, _, rfl, ?_⟩
  refine aa_cons (ax_call C.lcl (Room.mono hr (by decide)) pas0 ?_)
  walk_at "ev"
  refine ⟨n, qs, rfl, by omega, ?_⟩
  walk_at "ev"
  refine ⟨by show 2 ≤ 1000; decide, ?_⟩
  generalize hR : war n (rel qs) = R at *
  refine ag_pairU hN (by walk_at "ix") (by walk_at "ix") hnd rfl ?_
  have eJ : ((List.range n).map fun x => Dt.lst ((List.range n).map fun y => .int (boundI n R x y true))) = tabL n J := map_range_congr fun x hx => congrArg Dt.lst (map_range_congr fun y hy => congrArg Dt.int (bound_up L hx hy))
  have eM : ((List.range n).map fun x => Dt.lst ((List.range n).map fun y => .int (boundI n R x y false))) = tabL n Mt := map_range_congr fun x hx => congrArg Dt.lst (map_range_congr fun y hy => congrArg Dt.int (bound_dn L hx hy))
  refine as_cons (a1_lcC hN (by walk_at "ix") hnd (blkOk_by (sc := defScope sLaw) (by decide +kernel)) rfl (by walk_at "ix") rfl rfl rfl rfl (ai_range1 M.range ?_))
  walk_at "ev"
  refine ⟨by omega, by show n ≤ 90000; omega, fun x => some (.lst ((List.range n).map fun y => .int (boundI n R x y true))), fun x d hxi => fun s0 H0 C1 cl fp D acc => ats_nil ⟨rfl, fun _ _ _ _ _ _ => ?_, fun h => (nomatch h)⟩, fun q => ?_⟩
  · obtain ⟨hx, rfl⟩ := rng_item hxi
    refine ax_lcQ2 hN (by walk_at "ix") hnd (sc := defScope sLaw) rfl (blkOk_by (by decide +kernel)) (ai_range1 M.range ?_)
    walk_at "ev"
    refine ⟨by omega, by show n ≤ 90000; omega, ⟨2, rfl⟩, fun y => some (.int (boundI n R x y true)), fun y d hyi => fun s0 H0 C2 cl fp D acc => ats_nil ⟨rfl, fun _ _ _ _ _ _ => ?_, fun h => (nomatch h)⟩, ?_⟩
    · obtain ⟨hy, rfl⟩ := rng_item hyi
      refine ax_call C.bnd (Room.mono hr (by decide)) pas0 ?_
      walk_at "ev"
      exact ⟨n, R, x, y, true, rfl, by omega, hx, hy, rfl, rfl⟩
    · refine ⟨rfl, ?_⟩
      have e2 : (List.range (Src.len (.rng 0 n))).filterMap (fun y => some (Dt.int (boundI n R x y true))) = (List.range n).map fun y => .int (boundI n R x y true) := fm_some _ _
      rw [e2]
  have e1 : (List.range (Src.len (.rng 0 n))).filterMap (fun x => some (Dt.lst ((List.range n).map fun y => .int (boundI n R x y true)))) = tabL n J := (fm_some _ _).trans eJ
  rw [e1]
  refine as_freeze 7 0 rfl rfl ⟨2, by decide, rfl⟩ ?_
  refine as_cons (a1_lcC hN (by walk_at "ix") hnd (blkOk_by (sc := defScope sLaw) (by decide +kernel)) rfl (by walk_at "ix") rfl rfl rfl rfl (ai_range1 M.range ?_))
  walk_at "ev"
  refine ⟨by omega, by show n ≤ 90000; omega, fun x => some (.lst ((List.range n).map fun y => .int (boundI n R x y false))), fun x d hxi => fun s0 H0 C1 cl fp D acc => ats_nil ⟨rfl, fun _ _ _ _ _ _ => ?_, fun h => (nomatch h)⟩, fun q => ?_⟩
  · obtain ⟨hx, rfl⟩ := rng_item hxi
    refine ax_lcQ2 hN (by walk_at "ix") hnd (sc := defScope sLaw) rfl (blkOk_by (by decide +kernel)) (ai_range1 M.range ?_)
    walk_at "ev"
    refine ⟨by omega, by show n ≤ 90000; omega, ⟨2, rfl⟩, fun y => some (.int (boundI n R x y false)), fun y d hyi => fun s0 H0 C2 cl fp D acc => ats_nil ⟨rfl, fun _ _ _ _ _ _ => ?_, fun h => (nomatch h)⟩, ?_⟩
    · obtain ⟨hy, rfl⟩ := rng_item hyi
      refine ax_call C.bnd (Room.mono hr (by decide)) pas0 ?_
      walk_at "ev"
      exact ⟨n, R, x, y, false, rfl, by omega, hx, hy, rfl, rfl⟩
    · refine ⟨rfl, ?_⟩
      have e2 : (List.range (Src.len (.rng 0 n))).filterMap (fun y => some (Dt.int (boundI n R x y false))) = (List.range n).map fun y => .int (boundI n R x y false) := fm_some _ _
      rw [e2]
  have e1 : (List.range (Src.len (.rng 0 n))).filterMap (fun x => some (Dt.lst ((List.range n).map fun y => .int (boundI n R x y false)))) = tabL n Mt := (fm_some _ _).trans eM
  rw [e1]
  refine as_freeze 10 0 rfl rfl ⟨2, by decide, rfl⟩ ?_
  have bJ := L.bj
  have bM := L.bm
  have O := L.ord
  walk_at "for"
  walk_at "rng"
  walk_at "ev"
  refine ⟨by omega, fun i ρ cs => cs = [stC a s2 t2] ∧ ∃ z8 z9 z11 z12 z13 z14 z15, ρ = [some (.scr ns), some (.cell a), some (natD n), some d, some (.tup (qs.map pairN)), some (latD CL n R J Mt), some (.lst (tabB n R)), some (.lst (tabL n J)), z8, z9, some (.lst (tabL n Mt)), z11, z12, z13, z14, z15], ⟨rfl, _, _, _, _, _, _, _, rfl⟩, ?_, ?_⟩
  · rintro x e ρ' cs' hi ⟨rfl, z8, z9, z11, z12, z13, z14, z15, rfl⟩
    obtain ⟨hx, rfl⟩ := rng_item hi
    walk_at "tgt"
    walk_at "for"
    walk_at "rng"
    walk_at "ev"
    refine ⟨by omega, fun i ρ cs => cs = [stC a s2 t2] ∧ ∃ z8 z11 z12 z13 z14 z15, ρ = [some (.scr ns), some (.cell a), some (natD n), some d, some (.tup (qs.map pairN)), some (latD CL n R J Mt), some (.lst (tabB n R)), some (.lst (tabL n J)), z8, some (natD x), some (.lst (tabL n Mt)), z11, z12, z13, z14, z15], ⟨rfl, _, _, _, _, _, _, rfl⟩, ?_, ?_⟩
    · rintro y e ρ' cs' hi ⟨rfl, z8, z11, z12, z13, z14, z15, rfl⟩
      obtain ⟨hy, rfl⟩ := rng_item hi
      walk_at "tgt"
      walk_at "st"
      walk_at "ev"
      refine ax_meth C.ljn (Room.mono hr (by decide)) pas0 ?_
      walk_at "ev"
      refine ⟨_, _, rfl, by decide, ?_⟩
      walk_at "ev"
      refine ⟨n, R, J, Mt, x, y, rfl, hx, hy, ?_⟩
      walk_at "ev"
      refine ⟨_, _, _, .inl rfl, rfl, tabL_get hx, ?_⟩
      walk_at "ev"
      refine ⟨_, _, _, .inl rfl, rfl, rowD_get hy, ?_⟩
      refine ⟨_, flat_nat _ _, ?_⟩
      rw [decide_eq_true (rfl : J x y = J x y)]
      refine ⟨fun h => (nomatch h), fun _ => ?_⟩
      walk_at "ev"
      refine ax_meth C.lmt (Room.mono hr (by decide)) pas0 ?_
      walk_at "ev"
      refine ⟨_, _, rfl, by decide, ?_⟩
      walk_at "ev"
      refine ⟨n, R, J, Mt, x, y, rfl, hx, hy, ?_⟩
      walk_at "ev"
      refine ⟨_, _, _, .inl rfl, rfl, tabL_get hx, ?_⟩
      walk_at "ev"
      refine ⟨_, _, _, .inl rfl, rfl, rowD_get hy, ?_⟩
      refine ⟨_, flat_nat _ _, ?_⟩
      rw [decide_eq_true (rfl : Mt x y = Mt x y)]
      refine ⟨fun h => (nomatch h), fun _ => ?_⟩
      walk_at "st"
      walk_at "st"
      exact ⟨rfl, _, _, _, _, _, _, rfl⟩
    · rintro ρ' cs' ⟨rfl, z8, z11, z12, z13, z14, z15, rfl⟩
      walk_at "st"
      exact ⟨rfl, _, _, _, _, _, _, _, rfl⟩
  rintro ρ' cs' ⟨rfl, z8, z9, z11, z12, z13, z14, z15, rfl⟩
  exact law_rest M C (a := a) hr rfl hst2 (by omega) L kont
end

end G
namespace G
open PySem PySem.Spec PyProof.Rows L2 Evl
--nomac
/-! W0: what the top has written, gathered -/
def D1 (K : PySem.W.Frag) (x : Str) (st : Stmt) : Prop := ∃ (f : Addr) (oc kV dc pm cd ct : Value) (od an : Option Addr) (sl : Array (Option Value)), PySem.W.nsIn K mainGlobals x = some (some (.ref f)) ∧ K.lookup f = some ⟨oc, od, .func (PySem.W.fnOf x x (defArgs st) (defBody st) (defScope st) .none kV dc pm an cd ct), sl⟩ ∧ PySem.W.codeIn K cd x = true ∧ PySem.W.keepIn K (.ref f) = true
theorem D1.of {K : PySem.W.Frag} {x : Str} {st : Stmt} {f : Addr} {oc kV dc pm cd ct : Value} {od an : Option Addr} {sl : Array (Option Value)} (a : PySem.W.nsIn K mainGlobals x = some (some (.ref f))) (l : K.lookup f = some ⟨oc, od, .func (PySem.W.fnOf x x (defArgs st) (defBody st) (defScope st) .none kV dc pm an cd ct), sl⟩) (c : PySem.W.codeIn K cd x = true) (k : PySem.W.keepIn K (.ref f) = true) : D1 K x st := ⟨f, oc, kV, dc, pm, cd, ct, od, an, sl, a, l, c, k⟩
def D2 (K : PySem.W.Frag) (C : Addr) (m q : Str) (st : Stmt) : Prop := ∃ (f : Addr) (oc kV dc pm cd ct : Value) (od an : Option Addr) (sl : Array (Option Value)), PySem.W.findIn K (.ref C) m = some (some (.ref f)) ∧ PySem.W.isFn K (.ref f) = true ∧ K.lookup f = some ⟨oc, od, .func (PySem.W.fnOf m q (defArgs st) (defBody st) (defScope st) .none kV dc pm an cd ct), sl⟩ ∧ PySem.W.codeIn K cd q = true ∧ PySem.W.keepIn K (.ref f) = true
theorem D2.of {K : PySem.W.Frag} {C : Addr} {m q : Str} {st : Stmt} {f : Addr} {oc kV dc pm cd ct : Value} {od an : Option Addr} {sl : Array (Option Value)} (a : PySem.W.findIn K (.ref C) m = some (some (.ref f))) (i : PySem.W.isFn K (.ref f) = true) (l : K.lookup f = some ⟨oc, od, .func (PySem.W.fnOf m q (defArgs st) (defBody st) (defScope st) .none kV dc pm an cd ct), sl⟩) (c : PySem.W.codeIn K cd q = true) (k : PySem.W.keepIn K (.ref f) = true) : D2 K C m q st := ⟨f, oc, kV, dc, pm, cd, ct, od, an, sl, a, i, l, c, k⟩
section
variable {P : Program} {w : World} {K : PySem.W.Frag} {h : Heap} {mg : Str → Option Value} {base : Heap} {CR : Addr} {CX : CXT} {k : Nat} {S : Sd} {ps : List Str} {st : Stmt}
theorem D1.fo {x : Str} (d : D1 K x st) (X : K.In h) (G : h.Ns mainGlobals mg) (bi : ∀ (kV dc pm : Value) (an : Option Addr) (cd ct : Value) (us : List Value), us.length = ps.length → bindArgs (PySem.W.fnOf x x (defArgs st) (defBody st) (defScope st) .none kV dc pm an cd ct) ⟨us, []⟩ = pure (ps.zip us))
    (ok : ∀ {f : Addr} {fd : FuncData}, Fun K x x st f fd → FnOk P w K mg base CX k f fd ps (spOf K CR S)) : Fo P w K mg base CX CR k x S := by
  obtain ⟨f, oc, kV, dc, pm, cd, ct, od, an, sl, a, l, c, kp⟩ := d
  have F := fun_mk (st := st) l c kp
  exact ⟨f, _, ps, ok F, PySem.W.mg_of X G a, kp, F.binds bi⟩
theorem D2.mo {C : Addr} {m q : Str} (d : D2 K C m q st) (cl : Cls K C) (bi : ∀ (kV dc pm : Value) (an : Option Addr) (cd ct : Value) (us : List Value), us.length = ps.length → bindArgs (PySem.W.fnOf m q (defArgs st) (defBody st) (defScope st) .none kV dc pm an cd ct) ⟨us, []⟩ = pure (ps.zip us))
    (ok : ∀ {f : Addr} {fd : FuncData}, Fun K m q st f fd → FnOk P w K mg base CX k f fd ps (spOf K CR S)) : Mo P w K mg base CX CR C k m S := by
  obtain ⟨f, oc, kV, dc, pm, cd, ct, od, an, sl, a, i, l, c, kp⟩ := d
  have F := fun_mk (st := st) l c kp
  exact ⟨f, _, ps, ok F, cl, ⟨a, i, kp⟩, F.binds bi⟩
theorem D2.ko {C : Addr} {x q : Str} (d : D2 K C "__init__" q st) (hx : mg x = some (.ref C)) (mk : PySem.W.makesIn K C = true) (kc : PySem.W.keepIn K (.ref C) = true) (bi : ∀ (kV dc pm : Value) (an : Option Addr) (cd ct : Value) (us : List Value), us.length = ps.length → bindArgs (PySem.W.fnOf "__init__" q (defArgs st) (defBody st) (defScope st) .none kV dc pm an cd ct) ⟨us, []⟩ = pure (ps.zip us))
    (ok : ∀ {f : Addr} {fd : FuncData}, Fun K "__init__" q st f fd → FnOk P w K mg base CX k f fd ps (spOf K CR S)) : Ko P w K mg base CX CR C k x S := by
  obtain ⟨f, oc, kV, dc, pm, cd, ct, od, an, sl, a, i, l, c, kp⟩ := d
  have F := fun_mk (st := st) l c kp
  exact ⟨f, _, ps, ok F, hx, ⟨mk, a, i, kc⟩, F.binds bi⟩
end
theorem exm_self {K : PySem.W.Frag} {S : Addr} (h1 : PySem.W.subIn K (.ref S) (.type "BaseException") = some true) (h2 : PySem.W.isClsIn K S = true) (h3 : PySem.W.typeIn K (.ref S) = some (.type "type")) (h4 : PySem.W.subIn K (.ref S) (.ref S) = some true) : PySem.W.exmOne K (.ref S) (.ref S) = some true := by
  have e1 : (PySem.W.subIn K (.ref S) (.type "BaseException") == some true) = true := by rw [h1] <;> rfl
  have e2 : ((PySem.W.clsIn K S).isSome && PySem.W.typeIn K (.ref S) == some (.type "type")) = true := by
    have h2' : (PySem.W.clsIn K S).isSome = true := h2
    rw [h2', h3] <;> rfl
  show (if (PySem.W.subIn K (.ref S) (.type "BaseException") == some true) = true then (if ((PySem.W.clsIn K S).isSome && PySem.W.typeIn K (.ref S) == some (.type "type")) = true then PySem.W.subIn K (.ref S) (.ref S) else none) else none) = some true
  rw [if_pos e1, if_pos e2]
  exact h4
/-- what is told of a plain class -/
theorem cls_of {K : PySem.W.Frag} {C : Addr} (pg : PySem.W.plainGet K C Str.empty = true) (hd : PySem.W.hasDictIn K C = true) (po : PySem.W.plainOver K C = true) (sa : PySem.W.findIn K (.ref C) "__setattr__" = some (some (.builtin "object.__setattr__"))) : Cls K C := ⟨pg, hd, po, sa⟩
def spLaw (K : PySem.W.Frag) : Sp := fun vs H Q _ => ∃ (a : Addr) (ns : List Int), vs = [.ref a] ∧ SqL K H a (ns.map V.int) ∧ ∀ H', Q (.bl true) H'
theorem law_sp {K : PySem.W.Frag} {CR : Addr} (vs : List V) (H : Hp) (Q : VK) (E : XK) (h : spLaw K vs H Q E) : spOf K CR (pureS S_law) vs H Q E := by
  obtain ⟨a, ns, rfl, hs, q⟩ := h
  refine ⟨H, [.scr ns], [], fun d cs => d = .bl true, R0, ⟨Ex.refl _, Ex.refl _, fun b o q => .inl q, fun b o q _ => q, fun c hc => by simp at hc, by simp, fun b hb => by simp at hb⟩, ⟨_, _, rfl, ⟨a, rfl, hs⟩, rfl⟩, ⟨rfl, ns, rfl, rfl⟩, fun v H' ⟨F', d, cs', e1, h1, r1, hd⟩ => ?_, fun _ _ _ h => h.elim⟩
  subst hd
  obtain rfl := (show v = V.bl true from r1)
  exact q H'

set_option maxHeartbeats 8000000 in
theorem all_mk {w : World} {K : PySem.W.Frag} {h : Heap} {mg : Str → Option Value} {fa CR CL CO f0 cda cc rN : Addr} {tM tN ctf : Tok} {rnm rq cfile : Str} {rbs rbm rsub : List Value} {rsn : List Str} {rab : Bool} {rcol : Option Bool} {rdd od0 an0 cdd eld : Option Addr} {r0 r1 r2 r3 r5 : Option Value} {oc0 kV0 dc0 pm0 ct0 ccl ecl : Value} {sl0 ccs esl : Array (Option Value)} {cvs : Array Value} (X : K.In h) (G : h.Ns mainGlobals mg) (hfa : mg "law" = some (.ref fa))
    (aR : PySem.W.nsIn K mainGlobals "Refused" = some (some (.ref CR)))
    (aL : PySem.W.nsIn K mainGlobals "Lattice" = some (some (.ref CL)))
    (aO : PySem.W.nsIn K mainGlobals "Order" = some (some (.ref CO)))
    (z_len : PySem.W.nsIn K mainGlobals "len" = some none)
    (z_range : PySem.W.nsIn K mainGlobals "range" = some none)
    (z_tuple : PySem.W.nsIn K mainGlobals "tuple" = some none)
    (z_list : PySem.W.nsIn K mainGlobals "list" = some none)
    (z_int : PySem.W.nsIn K mainGlobals "int" = some none)
    (z_bool : PySem.W.nsIn K mainGlobals "bool" = some none)
    (z_abs : PySem.W.nsIn K mainGlobals "abs" = some none)
    (z_isinstance : PySem.W.nsIn K mainGlobals "isinstance" = some none)
    (z_sorted : PySem.W.nsIn K mainGlobals "sorted" = some none)
    (z_super : PySem.W.nsIn K mainGlobals "super" = some none)
    (gM : PySem.W.nsIn K mainGlobals "MOST" = some (some (.int 10 tM)))
    (gN : PySem.W.nsIn K mainGlobals "MOST_MEMBERS" = some (some (.int 64 tN)))
    (pgL : PySem.W.plainGet K CL Str.empty = true)
    (hdL : PySem.W.hasDictIn K CL = true)
    (poL : PySem.W.plainOver K CL = true)
    (saL : PySem.W.findIn K (.ref CL) "__setattr__" = some (some (.builtin "object.__setattr__")))
    (mkL : PySem.W.makesIn K CL = true)
    (kcL : PySem.W.keepIn K (.ref CL) = true)
    (nL_above : PySem.W.findIn K (.ref CL) "above" = some none)
    (nL_joins : PySem.W.findIn K (.ref CL) "joins" = some none)
    (nL_meets : PySem.W.findIn K (.ref CL) "meets" = some none)
    (pgO : PySem.W.plainGet K CO Str.empty = true)
    (hdO : PySem.W.hasDictIn K CO = true)
    (poO : PySem.W.plainOver K CO = true)
    (saO : PySem.W.findIn K (.ref CO) "__setattr__" = some (some (.builtin "object.__setattr__")))
    (mkO : PySem.W.makesIn K CO = true)
    (kcO : PySem.W.keepIn K (.ref CO) = true)
    (nO_n : PySem.W.findIn K (.ref CO) "n" = some none)
    (nO_above : PySem.W.findIn K (.ref CO) "above" = some none)
    (haO : PySem.W.findIn K (.ref CO) "__class__" = some (some (.builtin "object.__class__")))
    (hnO : PySem.W.specialIn K (.builtin "object.__class__") "__get__" = some (some (.builtin "getset_descriptor.__get__")))
    (htO : PySem.W.takesIn K (.builtin "object.__class__") = some true)
    (hmO : PySem.W.mroIn K CO (.type "object") = some true)
    (xR : K.lookup CR = some (excClassObj rnm rq CR rN rbs rbm true rsn rsub rab rcol rdd r0 r1 r2 r3 r5 "ValueError.__new__"))
    (rv : PySem.HandSPX.refsVE rbm = true)
    (saR : PySem.W.findIn K (.ref CR) "__setattr__" = some (some (.builtin "object.__setattr__")))
    (eR : PySem.W.subIn K (.ref CR) (.type "BaseException") = some true)
    (tR : PySem.W.typeIn K (.ref CR) = some (.type "type"))
    (kR : PySem.W.keepIn K (.ref CR) = true)
    (gaR : PySem.W.findIn K (.ref CR) "__getattribute__" = some (some (.builtin "BaseException.__getattribute__")))
    (ggR : PySem.W.findIn K (.ref CR) "__getattr__" = some none)
    (hR : PySem.W.hasDictIn K CR = true)
    (noR : PySem.W.findIn K (.ref CR) "reason" = some none)
    (icR : PySem.W.isClsIn K CR = true)
    (ssR : PySem.W.subIn K (.ref CR) (.ref CR) = some true)
    (spR : PySem.W.ks_superIn K CR CR "__init__" = some (some (.builtin "ValueError.__init__")))
    (anR : PySem.W.nsIn K cStatics "thirdparty.any" = some none)
    (svR : PySem.W.subIn K (.ref CR) (.type "ValueError") = some true)
    (msR : PySem.W.mroIn K CR (.ref CR) = some true)
    (a0 : PySem.W.findIn K (.ref CR) "__init__" = some (some (.ref f0)))
    (t0 : PySem.W.typeIn K (.ref f0) = some (.type "function"))
    (l0 : K.lookup f0 = some ⟨oc0, od0, .func (PySem.W.ksFn "__init__" "Refused.__init__" (defArgs sRef) (defBody sRef) (defScope sRef) .none kV0 dc0 pm0 an0 (.ref cda) ct0 cc), sl0⟩)
    (c0 : PySem.W.codeIn K (.ref cda) "Refused.__init__" = true)
    (ld : K.lookup cda = some ⟨ccl, cdd, .fields cvs, ccs⟩)
    (hv : cvs[2]? = some (.str cfile ctf))
    (hf : ((PySem.Challenge.pw_orderforms_k22_whole_lattices_and_their.main.file : Str) == cfile) = true)
    (lc : K.lookup cc = some ⟨ecl, eld, .cell (some (.ref CR)), esl⟩)
    (d_is_integer : D1 K "is_integer" (topS 6))
    (d_has : D1 K "has" (topS 10))
    (d_set_of : D1 K "set_of" (topS 9))
    (d_members : D1 K "members" (topS 8))
    (d__checked_pairs : D1 K "_checked_pairs" (topS 13))
    (d_checked_pairs : D1 K "checked_pairs" (topS 18))
    (d__closed : D1 K "_closed" (topS 14))
    (d_closed_above : D1 K "closed_above" (topS 19))
    (d_bounds_table : D1 K "bounds_table" (topS 20))
    (d_irreducible_order : D1 K "irreducible_order" (topS 22))
    (d_images : D1 K "images" (topS 23))
    (d__law_state : D1 K "_law_state" (topS 25))
    (d__law_take : D1 K "_law_take" (topS 26))
    (d__law_place : D1 K "_law_place" (topS 30))
    (d__law_bits : D1 K "_law_bits" (topS 29))
    (d__law_points : D1 K "_law_points" (topS 31))
    (d__law_drawn : D1 K "_law_drawn" (topS 27))
    (d__law_closed : D1 K "_law_closed" (topS 28))
    (d__law_is_lower : D1 K "_law_is_lower" (topS 32))
    (d__law_lower_sets : D1 K "_law_lower_sets" (topS 33))
    (d__law_bound : D1 K "_law_bound" (topS 34))
    (d__law_family : D1 K "_law_family" (topS 35))
    (d__law_pairs_of : D1 K "_law_pairs_of" (topS 36))
    (d__law_beside : D1 K "_law_beside" (topS 37))
    (d__law_chains : D1 K "_law_chains" (topS 38))
    (d__law_lattice : D1 K "_law_lattice" (topS 39))
    (d__law_renumbered : D1 K "_law_renumbered" (topS 40))
    (d__law_reason : D1 K "_law_reason" (topS 41))
    (d__law_is_distributive : D1 K "_law_is_distributive" (topS 42))
    (d__law_irreducible : D1 K "_law_irreducible" (topS 43))
    (d__law_large : D1 K "_law_large" (topS 44))
    (d__law_pictures : D1 K "_law_pictures" (topS 45))
    (d_law : D1 K "law" (topS 46))
    (d_Lattice_at_most : D2 K CL "at_most" "Lattice.at_most" (inClass (topS 21) 3))
    (d_Lattice_joined : D2 K CL "joined" "Lattice.joined" (inClass (topS 21) 4))
    (d_Lattice_met : D2 K CL "met" "Lattice.met" (inClass (topS 21) 5))
    (d_Lattice_covers : D2 K CL "covers" "Lattice.covers" (inClass (topS 21) 8))
    (d_Lattice_join_irreducibles : D2 K CL "join_irreducibles" "Lattice.join_irreducibles" (inClass (topS 21) 9))
    (d_Lattice_distributive_failure : D2 K CL "distributive_failure" "Lattice.distributive_failure" (inClass (topS 21) 12))
    (d_Lattice_is_distributive : D2 K CL "is_distributive" "Lattice.is_distributive" (inClass (topS 21) 14))
    (d_Order___eq__ : D2 K CO "__eq__" "Order.__eq__" (inClass (topS 15) 2))
    (d_Order_size : D2 K CO "size" "Order.size" (inClass (topS 15) 3))
    (d_Order_less : D2 K CO "less" "Order.less" (inClass (topS 15) 5))
    (d_Lattice_init : D2 K CL "__init__" "Lattice.__init__" (inClass (topS 21) 0))
    (d_Order_init : D2 K CO "__init__" "Order.__init__" (inClass (topS 15) 0))
    : ∃ fd : FuncData, (∀ (s : Shared) (v : Value), BindsTo s fd ⟨[v], []⟩ [("_law_script", v)]) ∧ ∀ base : Heap, K.In base → base.Ns mainGlobals mg → FnOk PySem.Challenge.pw_orderforms_k22_whole_lattices_and_their w K mg base CX0 9 fa fd ["_law_script"] (spLaw K) := by
  obtain ⟨fl, oc, kV, dc, pm, cd, ct, od, an, sl, al, ll, cl, kl⟩ := d_law
  have e := hfa.symm.trans (PySem.W.mg_of X G al)
  cases e
  refine ⟨PySem.W.fnOf "law" "law" (defArgs (topS 46)) (defBody (topS 46)) (defScope (topS 46)) .none kV dc pm an cd ct, fun s v => .of_eq rfl, fun base _ _ => ?_⟩
  have M : Mods mg := ⟨PySem.W.mg_none_of X G z_len, PySem.W.mg_none_of X G z_range, PySem.W.mg_none_of X G z_tuple, PySem.W.mg_none_of X G z_list, PySem.W.mg_none_of X G z_int, PySem.W.mg_none_of X G z_bool, PySem.W.mg_none_of X G z_abs, PySem.W.mg_none_of X G z_isinstance, PySem.W.mg_none_of X G z_sorted, ⟨_, PySem.W.mg_of X G gM⟩, ⟨_, PySem.W.mg_of X G gN⟩⟩
  have mL := PySem.W.mg_of X G aL
  have mO := PySem.W.mg_of X G aO
  have mR := PySem.W.mg_of X G aR
  have cCL : LatC K CL := ⟨⟨pgL, hdL, poL, saL⟩, nL_above, nL_joins, nL_meets⟩
  have cCO : OrdC K CO := ⟨⟨pgO, hdO, poO, saO⟩, nO_n, nO_above⟩
  have cIO : IsC K CO := ⟨cCO.cl, haO, hnO, htO, hmO, if_pos (by simp)⟩
  have cX : RefX K mg CR := ⟨⟨gaR, ggR, eR, hR⟩, noR, exm_self eR icR tR ssR, mR⟩
  have oex : OexC K CR := ⟨⟨_, _, _, _, _, _, _, _, _, _, _, _, _, _, _, xR, rv⟩, saR, eR, tR, kR⟩
  have cR : RefK PySem.Challenge.pw_orderforms_k22_whole_lattices_and_their K mg CR := ⟨⟨f0, _, ⟨oex, noR, spR, anR, svR, msR, PySem.W.mg_none_of X G z_super, by decide +kernel, ⟨_, _, _, _, _, _, _, _, _, _, _, _, _, _, _, _, _, _, _, _, rfl, l0, c0, ld, hv, hf, lc⟩⟩, a0, t0, .all fun us hl => match us, hl with | [_, _], _ => rfl⟩, mR⟩
  have v_is_integer : Fo PySem.Challenge.pw_orderforms_k22_whole_lattices_and_their w K mg base CX0 CR 1 "is_integer" (pureS S_isInt) := d_is_integer.fo X G (ps := ["value"]) (fun _ _ _ _ _ _ us hl => match us, hl with | [_], _ => rfl) fun F => ok_isInt F M
  have v_has : Fo PySem.Challenge.pw_orderforms_k22_whole_lattices_and_their w K mg base CX0 CR 1 "has" (pureS S_has) := d_has.fo X G (ps := ["bits", "x"]) (fun _ _ _ _ _ _ us hl => match us, hl with | [_, _], _ => rfl) fun F => ok_has F
  have v_set_of : Fo PySem.Challenge.pw_orderforms_k22_whole_lattices_and_their w K mg base CX0 CR 1 "set_of" (pureS S_setOf) := d_set_of.fo X G (ps := ["points"]) (fun _ _ _ _ _ _ us hl => match us, hl with | [_], _ => rfl) fun F => ok_setOf F
  have v_members : Fo PySem.Challenge.pw_orderforms_k22_whole_lattices_and_their w K mg base CX0 CR 1 "members" (pureS S_members) := d_members.fo X G (ps := ["bits"]) (fun _ _ _ _ _ _ us hl => match us, hl with | [_], _ => rfl) fun F => ok_members F M
  have v__checked_pairs : Fo PySem.Challenge.pw_orderforms_k22_whole_lattices_and_their w K mg base CX0 CR 2 "_checked_pairs" (pureS S_chkO) := d__checked_pairs.fo X G (ps := ["n", "pairs"]) (fun _ _ _ _ _ _ us hl => match us, hl with | [_, _], _ => rfl) fun F => ok_chkO F M v_is_integer
  have v_checked_pairs : Fo PySem.Challenge.pw_orderforms_k22_whole_lattices_and_their w K mg base CX0 CR 2 "checked_pairs" (pureS S_chkL) := d_checked_pairs.fo X G (ps := ["n", "pairs"]) (fun _ _ _ _ _ _ us hl => match us, hl with | [_, _], _ => rfl) fun F => ok_chkL F M v_is_integer
  have v__closed : Fo PySem.Challenge.pw_orderforms_k22_whole_lattices_and_their w K mg base CX0 CR 2 "_closed" (pureS S_closO) := d__closed.fo X G (ps := ["n", "pairs"]) (fun _ _ _ _ _ _ us hl => match us, hl with | [_, _], _ => rfl) fun F => ok_closO F M v_has
  have v_closed_above : Fo PySem.Challenge.pw_orderforms_k22_whole_lattices_and_their w K mg base CX0 CR 2 "closed_above" (pureS S_closA) := d_closed_above.fo X G (ps := ["n", "pairs"]) (fun _ _ _ _ _ _ us hl => match us, hl with | [_, _], _ => rfl) fun F => ok_closA F M v_has
  have v_bounds_table : Fo PySem.Challenge.pw_orderforms_k22_whole_lattices_and_their w K mg base CX0 CR 2 "bounds_table" (pureS S_bt) := d_bounds_table.fo X G (ps := ["sets"]) (fun _ _ _ _ _ _ us hl => match us, hl with | [_], _ => rfl) fun F => ok_bt F M
  have m_at_most : Mo PySem.Challenge.pw_orderforms_k22_whole_lattices_and_their w K mg base CX0 CR CL 2 "at_most" (pureS (S_lat CL)) := d_Lattice_at_most.mo cCL.cl (ps := ["self", "x", "y"]) (fun _ _ _ _ _ _ us hl => match us, hl with | [_, _, _], _ => rfl) fun F => ok_lat F cCL v_has
  have m_joined : Mo PySem.Challenge.pw_orderforms_k22_whole_lattices_and_their w K mg base CX0 CR CL 2 "joined" (pureS (S_ljn CL)) := d_Lattice_joined.mo cCL.cl (ps := ["self", "x", "y"]) (fun _ _ _ _ _ _ us hl => match us, hl with | [_, _, _], _ => rfl) fun F => ok_ljn F cCL
  have m_met : Mo PySem.Challenge.pw_orderforms_k22_whole_lattices_and_their w K mg base CX0 CR CL 2 "met" (pureS (S_lmt CL)) := d_Lattice_met.mo cCL.cl (ps := ["self", "x", "y"]) (fun _ _ _ _ _ _ us hl => match us, hl with | [_, _, _], _ => rfl) fun F => ok_lmt F cCL
  have m_covers : Mo PySem.Challenge.pw_orderforms_k22_whole_lattices_and_their w K mg base CX0 CR CL 2 "covers" (pureS (S_lcv CL)) := d_Lattice_covers.mo cCL.cl (ps := ["self"]) (fun _ _ _ _ _ _ us hl => match us, hl with | [_], _ => rfl) fun F => ok_lcv F M cCL v_has v_members
  have m_join_irreducibles : Mo PySem.Challenge.pw_orderforms_k22_whole_lattices_and_their w K mg base CX0 CR CL 3 "join_irreducibles" (pureS (S_lir CL)) := d_Lattice_join_irreducibles.mo cCL.cl (ps := ["self"]) (fun _ _ _ _ _ _ us hl => match us, hl with | [_], _ => rfl) fun F => ok_lir F M cCL m_covers
  have m_distributive_failure : Mo PySem.Challenge.pw_orderforms_k22_whole_lattices_and_their w K mg base CX0 CR CL 2 "distributive_failure" (pureS (S_ldf CL)) := d_Lattice_distributive_failure.mo cCL.cl (ps := ["self"]) (fun _ _ _ _ _ _ us hl => match us, hl with | [_], _ => rfl) fun F => ok_ldf F M cCL
  have m_is_distributive : Mo PySem.Challenge.pw_orderforms_k22_whole_lattices_and_their w K mg base CX0 CR CL 3 "is_distributive" (pureS (S_lds CL)) := d_Lattice_is_distributive.mo cCL.cl (ps := ["self"]) (fun _ _ _ _ _ _ us hl => match us, hl with | [_], _ => rfl) fun F => ok_lds F m_distributive_failure
  have m___eq__ : Mo PySem.Challenge.pw_orderforms_k22_whole_lattices_and_their w K mg base CX0 CR CO 2 "__eq__" (pureS (S_ordE CO)) := d_Order___eq__.mo cCO.cl (ps := ["self", "other"]) (fun _ _ _ _ _ _ us hl => match us, hl with | [_, _], _ => rfl) fun F => ok_ordE F M cCO cIO mO
  have m_size : Mo PySem.Challenge.pw_orderforms_k22_whole_lattices_and_their w K mg base CX0 CR CO 2 "size" (pureS (S_ordS CO)) := d_Order_size.mo cCO.cl (ps := ["self"]) (fun _ _ _ _ _ _ us hl => match us, hl with | [_], _ => rfl) fun F => ok_ordS F cCO
  have m_less : Mo PySem.Challenge.pw_orderforms_k22_whole_lattices_and_their w K mg base CX0 CR CO 2 "less" (pureS (S_ordL CO)) := d_Order_less.mo cCO.cl (ps := ["self", "x", "y"]) (fun _ _ _ _ _ _ us hl => match us, hl with | [_, _, _], _ => rfl) fun F => ok_ordL F cCO v_has
  have k_Lattice : Ko PySem.Challenge.pw_orderforms_k22_whole_lattices_and_their w K mg base CX0 CR CL 3 "Lattice" (S_latI CL) := d_Lattice_init.ko mL mkL kcL (ps := ["self", "n", "pairs"]) (fun _ _ _ _ _ _ us hl => match us, hl with | [_, _, _], _ => rfl) fun F => ok_latI F M cCL v_has v_is_integer v_set_of v_checked_pairs v_closed_above v_bounds_table
  have k_Order : Ko PySem.Challenge.pw_orderforms_k22_whole_lattices_and_their w K mg base (L2.CX PySem.Challenge.pw_orderforms_k22_whole_lattices_and_their w) CR CO 4 "Order" (S_ordI CO) := d_Order_init.ko mO mkO kcO (ps := ["self", "n", "pairs"]) (fun _ _ _ _ _ _ us hl => match us, hl with | [_, _, _], _ => rfl) fun F => ok_ordI F M cCO cR v_is_integer v__checked_pairs v__closed
  have v_irreducible_order : Fo PySem.Challenge.pw_orderforms_k22_whole_lattices_and_their w K mg base (L2.CX PySem.Challenge.pw_orderforms_k22_whole_lattices_and_their w) CR 6 "irreducible_order" (pureS (S_iro CL CO)) := d_irreducible_order.fo X G (ps := ["lattice"]) (fun _ _ _ _ _ _ us hl => match us, hl with | [_], _ => rfl) fun F => ok_iro F M m_at_most m_join_irreducibles k_Order
  have v_images : Fo PySem.Challenge.pw_orderforms_k22_whole_lattices_and_their w K mg base (L2.CX PySem.Challenge.pw_orderforms_k22_whole_lattices_and_their w) CR 6 "images" (pureS (S_img CL)) := d_images.fo X G (ps := ["lattice"]) (fun _ _ _ _ _ _ us hl => match us, hl with | [_], _ => rfl) fun F => ok_img F M cCL cR m_at_most m_join_irreducibles m_is_distributive v_set_of
  have v__law_state : Fo PySem.Challenge.pw_orderforms_k22_whole_lattices_and_their w K mg base CX0 CR 1 "_law_state" (S_state) := d__law_state.fo X G (ps := ["_law_script"]) (fun _ _ _ _ _ _ us hl => match us, hl with | [_], _ => rfl) fun F => ok_state F M
  have v__law_take : Fo PySem.Challenge.pw_orderforms_k22_whole_lattices_and_their w K mg base CX0 CR 1 "_law_take" (S_take) := d__law_take.fo X G (ps := ["_law_state_here", "_law_m"]) (fun _ _ _ _ _ _ us hl => match us, hl with | [_, _], _ => rfl) fun F => ok_take F M
  have v__law_place : Fo PySem.Challenge.pw_orderforms_k22_whole_lattices_and_their w K mg base CX0 CR 1 "_law_place" (pureS S_place) := d__law_place.fo X G (ps := ["_law_x"]) (fun _ _ _ _ _ _ us hl => match us, hl with | [_], _ => rfl) fun F => ok_place F M
  have v__law_bits : Fo PySem.Challenge.pw_orderforms_k22_whole_lattices_and_their w K mg base CX0 CR 2 "_law_bits" (pureS S_bits) := d__law_bits.fo X G (ps := ["_law_points_here"]) (fun _ _ _ _ _ _ us hl => match us, hl with | [_], _ => rfl) fun F => ok_bits F M v__law_place
  have v__law_points : Fo PySem.Challenge.pw_orderforms_k22_whole_lattices_and_their w K mg base CX0 CR 1 "_law_points" (pureS S_points) := d__law_points.fo X G (ps := ["_law_bits_here"]) (fun _ _ _ _ _ _ us hl => match us, hl with | [_], _ => rfl) fun F => ok_points F M
  have v__law_drawn : Fo PySem.Challenge.pw_orderforms_k22_whole_lattices_and_their w K mg base CX0 CR 2 "_law_drawn" (S_drawn) := d__law_drawn.fo X G (ps := ["_law_state_here", "_law_most"]) (fun _ _ _ _ _ _ us hl => match us, hl with | [_, _], _ => rfl) fun F => ok_drawn F M v__law_take
  have v__law_closed : Fo PySem.Challenge.pw_orderforms_k22_whole_lattices_and_their w K mg base CX0 CR 2 "_law_closed" (pureS S_lcl) := d__law_closed.fo X G (ps := ["_law_n", "_law_pairs"]) (fun _ _ _ _ _ _ us hl => match us, hl with | [_, _], _ => rfl) fun F => ok_lcl F M
  have v__law_is_lower : Fo PySem.Challenge.pw_orderforms_k22_whole_lattices_and_their w K mg base CX0 CR 2 "_law_is_lower" (pureS S_isl) := d__law_is_lower.fo X G (ps := ["_law_table", "_law_points_here"]) (fun _ _ _ _ _ _ us hl => match us, hl with | [_, _], _ => rfl) fun F => ok_isl F M
  have v__law_lower_sets : Fo PySem.Challenge.pw_orderforms_k22_whole_lattices_and_their w K mg base CX0 CR 3 "_law_lower_sets" (pureS S_lss) := d__law_lower_sets.fo X G (ps := ["_law_table"]) (fun _ _ _ _ _ _ us hl => match us, hl with | [_], _ => rfl) fun F => ok_lss F M v__law_place v__law_points v__law_is_lower
  have v__law_bound : Fo PySem.Challenge.pw_orderforms_k22_whole_lattices_and_their w K mg base CX0 CR 2 "_law_bound" (pureS S_bnd) := d__law_bound.fo X G (ps := ["_law_table", "_law_x", "_law_y", "_law_upper"]) (fun _ _ _ _ _ _ us hl => match us, hl with | [_, _, _, _], _ => rfl) fun F => ok_bnd F M
  have v__law_family : Fo PySem.Challenge.pw_orderforms_k22_whole_lattices_and_their w K mg base CX0 CR 3 "_law_family" (S_fam) := d__law_family.fo X G (ps := ["_law_state_here"]) (fun _ _ _ _ _ _ us hl => match us, hl with | [_], _ => rfl) fun F => ok_fam F M v__law_take v__law_bits v__law_points
  have v__law_pairs_of : Fo PySem.Challenge.pw_orderforms_k22_whole_lattices_and_their w K mg base CX0 CR 2 "_law_pairs_of" (pureS S_pro) := d__law_pairs_of.fo X G (ps := ["_law_sets"]) (fun _ _ _ _ _ _ us hl => match us, hl with | [_], _ => rfl) fun F => ok_pro F M v__law_points
  have v__law_beside : Fo PySem.Challenge.pw_orderforms_k22_whole_lattices_and_their w K mg base CX0 CR 2 "_law_beside" (S_bes) := d__law_beside.fo X G (ps := ["_law_state_here"]) (fun _ _ _ _ _ _ us hl => match us, hl with | [_], _ => rfl) fun F => ok_bes F M v__law_take
  have v__law_chains : Fo PySem.Challenge.pw_orderforms_k22_whole_lattices_and_their w K mg base CX0 CR 2 "_law_chains" (S_chs) := d__law_chains.fo X G (ps := ["_law_state_here"]) (fun _ _ _ _ _ _ us hl => match us, hl with | [_], _ => rfl) fun F => ok_chs F M v__law_take
  have v__law_lattice : Fo PySem.Challenge.pw_orderforms_k22_whole_lattices_and_their w K mg base CX0 CR 4 "_law_lattice" (S_latt) := d__law_lattice.fo X G (ps := ["_law_state_here"]) (fun _ _ _ _ _ _ us hl => match us, hl with | [_], _ => rfl) fun F => ok_latt F M v__law_take v__law_family v__law_pairs_of v__law_drawn v__law_lower_sets v__law_closed v__law_beside v__law_chains
  have v__law_renumbered : Fo PySem.Challenge.pw_orderforms_k22_whole_lattices_and_their w K mg base CX0 CR 2 "_law_renumbered" (S_ren) := d__law_renumbered.fo X G (ps := ["_law_state_here", "_law_n", "_law_pairs"]) (fun _ _ _ _ _ _ us hl => match us, hl with | [_, _, _], _ => rfl) fun F => ok_ren F M v__law_take
  have v__law_reason : Fo PySem.Challenge.pw_orderforms_k22_whole_lattices_and_their w K mg base CX0 CR 7 "_law_reason" (pureS (S_rea CL)) := d__law_reason.fo X G (ps := ["_law_value", "_law_which"]) (fun _ _ _ _ _ _ us hl => match us, hl with | [_, _], _ => rfl) fun F => ok_rea F M cX v_images v_irreducible_order
  have v__law_is_distributive : Fo PySem.Challenge.pw_orderforms_k22_whole_lattices_and_their w K mg base CX0 CR 2 "_law_is_distributive" (pureS S_ldi) := d__law_is_distributive.fo X G (ps := ["_law_joins", "_law_meets"]) (fun _ _ _ _ _ _ us hl => match us, hl with | [_, _], _ => rfl) fun F => ok_ldi F M
  have v__law_irreducible : Fo PySem.Challenge.pw_orderforms_k22_whole_lattices_and_their w K mg base CX0 CR 2 "_law_irreducible" (pureS S_lirr) := d__law_irreducible.fo X G (ps := ["_law_table"]) (fun _ _ _ _ _ _ us hl => match us, hl with | [_], _ => rfl) fun F => ok_lirr F M
  have v__law_large : Fo PySem.Challenge.pw_orderforms_k22_whole_lattices_and_their w K mg base CX0 CR 8 "_law_large" (pureS S_lrg) := d__law_large.fo X G (ps := ["_law_which"]) (fun _ _ _ _ _ _ us hl => match us, hl with | [_], _ => rfl) fun F => ok_lrg F M k_Lattice v__law_reason
  have v__law_pictures : Fo PySem.Challenge.pw_orderforms_k22_whole_lattices_and_their w K mg base CX0 CR 4 "_law_pictures" (pureS S_pic) := d__law_pictures.fo X G (ps := ["_law_found", "_law_table", "_law_chosen", "_law_joins", "_law_meets"]) (fun _ _ _ _ _ _ us hl => match us, hl with | [_, _, _, _, _], _ => rfl) fun F => ok_pic F M v__law_bits v__law_points v__law_lower_sets
  have C : Cs0 PySem.Challenge.pw_orderforms_k22_whole_lattices_and_their w K mg base CR CL CO := ⟨v__law_state, v__law_take, v__law_lattice, v__law_renumbered, v__law_closed, v__law_bound, v__law_irreducible, v_irreducible_order, v_images, v__law_reason, v__law_large, v__law_is_distributive, v__law_pictures, k_Lattice, k_Order, m_joined, m_met, m_join_irreducibles, m_is_distributive, m___eq__, m_size, m_less, cIO, mO⟩
  exact (ok_law (fun_mk (st := sLaw) ll cl kl) M C).imp law_sp

end G
open PySem PySem.W PyProof.Rows in
set_option maxRecDepth 100000 in
set_option maxHeartbeats 0 in
theorem PySem.Challenge.cw_orderforms_k22_whole_lattices_and_their_holds : PySem.Challenge.rw_orderforms_k22_whole_lattices_and_their.Holds := by
  w_on; o_law; k_head; (case hw => w_witness2)
  k_fill
  refine L2.walk_of (l := PySem.Challenge.rw_orderforms_k22_whole_lattices_and_their) (n := 63) (k := 9) (x := "_law_script") (CX := fun _ => L2.CX0) (sp := fun w => G.spLaw _) rfl (by decide) rfl ⟨rfl, by decide, by decide⟩ (fun w h Y => PySem.W.kIn_of Y) ?F (fun _ _ a ns hl _ hS => ⟨a, ns, rfl, hS, fun _ => rfl⟩) fun _ _ _ _ _ z => z
  case F =>
    intro w mg fa h KX Gh hmg
    refine' G.all_mk KX Gh hmg ?aR ?aL ?aO ?z_len ?z_range ?z_tuple ?z_list ?z_int ?z_bool ?z_abs ?z_isinstance ?z_sorted ?z_super ?gM ?gN ?pgL ?hdL ?poL ?saL ?mkL ?kcL ?nL_above ?nL_joins ?nL_meets ?pgO ?hdO ?poO ?saO ?mkO ?kcO ?nO_n ?nO_above ?haO ?hnO ?htO ?hmO ?xR ?rv ?saR ?eR ?tR ?kR ?gaR ?ggR ?hR ?noR ?icR ?ssR ?spR ?anR ?svR ?msR ?a0 ?t0 ?l0 ?c0 ?ld ?hv ?hf ?lc ?d_is_integer ?d_has ?d_set_of ?d_members ?d__checked_pairs ?d_checked_pairs ?d__closed ?d_closed_above ?d_bounds_table ?d_irreducible_order ?d_images ?d__law_state ?d__law_take ?d__law_place ?d__law_bits ?d__law_points ?d__law_drawn ?d__law_closed ?d__law_is_lower ?d__law_lower_sets ?d__law_bound ?d__law_family ?d__law_pairs_of ?d__law_beside ?d__law_chains ?d__law_lattice ?d__law_renumbered ?d__law_reason ?d__law_is_distributive ?d__law_irreducible ?d__law_large ?d__law_pictures ?d_law ?d_Lattice_at_most ?d_Lattice_joined ?d_Lattice_met ?d_Lattice_covers ?d_Lattice_join_irreducibles ?d_Lattice_distributive_failure ?d_Lattice_is_distributive ?d_Order___eq__ ?d_Order_size ?d_Order_less ?d_Lattice_init ?d_Order_init
    (case aR => k_is)
    (case aL => k_is)
    (case aO => k_is)
    (case z_len => k_is)
    (case z_range => k_is)
    (case z_tuple => k_is)
    (case z_list => k_is)
    (case z_int => k_is)
    (case z_bool => k_is)
    (case z_abs => k_is)
    (case z_isinstance => k_is)
    (case z_sorted => k_is)
    (case z_super => k_is)
    (case gM => k_is)
    (case gN => k_is)
    (case pgL => k_is)
    (case hdL => k_is)
    (case poL => k_is)
    (case saL => k_is)
    (case mkL => k_is)
    (case kcL => k_is)
    (case nL_above => k_is)
    (case nL_joins => k_is)
    (case nL_meets => k_is)
    (case pgO => k_is)
    (case hdO => k_is)
    (case poO => k_is)
    (case saO => k_is)
    (case mkO => k_is)
    (case kcO => k_is)
    (case nO_n => k_is)
    (case nO_above => k_is)
    (case haO => k_is)
    (case hnO => k_is)
    (case htO => k_is)
    (case hmO => k_is)
    (case xR => k_is)
    (case rv => first | rfl | decide +kernel)
    (case saR => k_is)
    (case eR => k_is)
    (case tR => k_is)
    (case kR => k_is)
    (case gaR => k_is)
    (case ggR => k_is)
    (case hR => k_is)
    (case noR => k_is)
    (case icR => k_is)
    (case ssR => k_is)
    (case spR => ks_is)
    (case anR => k_is)
    (case svR => k_is)
    (case msR => k_is)
    (case a0 => k_is)
    (case t0 => k_is)
    (case l0 => k_is)
    (case c0 => k_is)
    (case ld => k_is)
    (case hv => rfl)
    (case hf => first | rfl | decide +kernel)
    (case lc => k_is)
    (case d_is_integer => refine' G.D1.of ?a ?l ?c ?k; (case a => k_is); (case l => k_is); (case c => k_is); (case k => k_is))
    (case d_has => refine' G.D1.of ?a ?l ?c ?k; (case a => k_is); (case l => k_is); (case c => k_is); (case k => k_is))
    (case d_set_of => refine' G.D1.of ?a ?l ?c ?k; (case a => k_is); (case l => k_is); (case c => k_is); (case k => k_is))
    (case d_members => refine' G.D1.of ?a ?l ?c ?k; (case a => k_is); (case l => k_is); (case c => k_is); (case k => k_is))
    (case d__checked_pairs => refine' G.D1.of ?a ?l ?c ?k; (case a => k_is); (case l => k_is); (case c => k_is); (case k => k_is))
    (case d_checked_pairs => refine' G.D1.of ?a ?l ?c ?k; (case a => k_is); (case l => k_is); (case c => k_is); (case k => k_is))
    (case d__closed => refine' G.D1.of ?a ?l ?c ?k; (case a => k_is); (case l => k_is); (case c => k_is); (case k => k_is))
    (case d_closed_above => refine' G.D1.of ?a ?l ?c ?k; (case a => k_is); (case l => k_is); (case c => k_is); (case k => k_is))
    (case d_bounds_table => refine' G.D1.of ?a ?l ?c ?k; (case a => k_is); (case l => k_is); (case c => k_is); (case k => k_is))
    (case d_irreducible_order => refine' G.D1.of ?a ?l ?c ?k; (case a => k_is); (case l => k_is); (case c => k_is); (case k => k_is))
    (case d_images => refine' G.D1.of ?a ?l ?c ?k; (case a => k_is); (case l => k_is); (case c => k_is); (case k => k_is))
    (case d__law_state => refine' G.D1.of ?a ?l ?c ?k; (case a => k_is); (case l => k_is); (case c => k_is); (case k => k_is))
    (case d__law_take => refine' G.D1.of ?a ?l ?c ?k; (case a => k_is); (case l => k_is); (case c => k_is); (case k => k_is))
    (case d__law_place => refine' G.D1.of ?a ?l ?c ?k; (case a => k_is); (case l => k_is); (case c => k_is); (case k => k_is))
    (case d__law_bits => refine' G.D1.of ?a ?l ?c ?k; (case a => k_is); (case l => k_is); (case c => k_is); (case k => k_is))
    (case d__law_points => refine' G.D1.of ?a ?l ?c ?k; (case a => k_is); (case l => k_is); (case c => k_is); (case k => k_is))
    (case d__law_drawn => refine' G.D1.of ?a ?l ?c ?k; (case a => k_is); (case l => k_is); (case c => k_is); (case k => k_is))
    (case d__law_closed => refine' G.D1.of ?a ?l ?c ?k; (case a => k_is); (case l => k_is); (case c => k_is); (case k => k_is))
    (case d__law_is_lower => refine' G.D1.of ?a ?l ?c ?k; (case a => k_is); (case l => k_is); (case c => k_is); (case k => k_is))
    (case d__law_lower_sets => refine' G.D1.of ?a ?l ?c ?k; (case a => k_is); (case l => k_is); (case c => k_is); (case k => k_is))
    (case d__law_bound => refine' G.D1.of ?a ?l ?c ?k; (case a => k_is); (case l => k_is); (case c => k_is); (case k => k_is))
    (case d__law_family => refine' G.D1.of ?a ?l ?c ?k; (case a => k_is); (case l => k_is); (case c => k_is); (case k => k_is))
    (case d__law_pairs_of => refine' G.D1.of ?a ?l ?c ?k; (case a => k_is); (case l => k_is); (case c => k_is); (case k => k_is))
    (case d__law_beside => refine' G.D1.of ?a ?l ?c ?k; (case a => k_is); (case l => k_is); (case c => k_is); (case k => k_is))
    (case d__law_chains => refine' G.D1.of ?a ?l ?c ?k; (case a => k_is); (case l => k_is); (case c => k_is); (case k => k_is))
    (case d__law_lattice => refine' G.D1.of ?a ?l ?c ?k; (case a => k_is); (case l => k_is); (case c => k_is); (case k => k_is))
    (case d__law_renumbered => refine' G.D1.of ?a ?l ?c ?k; (case a => k_is); (case l => k_is); (case c => k_is); (case k => k_is))
    (case d__law_reason => refine' G.D1.of ?a ?l ?c ?k; (case a => k_is); (case l => k_is); (case c => k_is); (case k => k_is))
    (case d__law_is_distributive => refine' G.D1.of ?a ?l ?c ?k; (case a => k_is); (case l => k_is); (case c => k_is); (case k => k_is))
    (case d__law_irreducible => refine' G.D1.of ?a ?l ?c ?k; (case a => k_is); (case l => k_is); (case c => k_is); (case k => k_is))
    (case d__law_large => refine' G.D1.of ?a ?l ?c ?k; (case a => k_is); (case l => k_is); (case c => k_is); (case k => k_is))
    (case d__law_pictures => refine' G.D1.of ?a ?l ?c ?k; (case a => k_is); (case l => k_is); (case c => k_is); (case k => k_is))
    (case d_law => refine' G.D1.of ?a ?l ?c ?k; (case a => k_is); (case l => k_is); (case c => k_is); (case k => k_is))
    (case d_Lattice_at_most => refine' G.D2.of ?a ?i ?l ?c ?k; (case a => k_is); (case i => k_is); (case l => k_is); (case c => k_is); (case k => k_is))
    (case d_Lattice_joined => refine' G.D2.of ?a ?i ?l ?c ?k; (case a => k_is); (case i => k_is); (case l => k_is); (case c => k_is); (case k => k_is))
    (case d_Lattice_met => refine' G.D2.of ?a ?i ?l ?c ?k; (case a => k_is); (case i => k_is); (case l => k_is); (case c => k_is); (case k => k_is))
    (case d_Lattice_covers => refine' G.D2.of ?a ?i ?l ?c ?k; (case a => k_is); (case i => k_is); (case l => k_is); (case c => k_is); (case k => k_is))
    (case d_Lattice_join_irreducibles => refine' G.D2.of ?a ?i ?l ?c ?k; (case a => k_is); (case i => k_is); (case l => k_is); (case c => k_is); (case k => k_is))
    (case d_Lattice_distributive_failure => refine' G.D2.of ?a ?i ?l ?c ?k; (case a => k_is); (case i => k_is); (case l => k_is); (case c => k_is); (case k => k_is))
    (case d_Lattice_is_distributive => refine' G.D2.of ?a ?i ?l ?c ?k; (case a => k_is); (case i => k_is); (case l => k_is); (case c => k_is); (case k => k_is))
    (case d_Order___eq__ => refine' G.D2.of ?a ?i ?l ?c ?k; (case a => k_is); (case i => k_is); (case l => k_is); (case c => k_is); (case k => k_is))
    (case d_Order_size => refine' G.D2.of ?a ?i ?l ?c ?k; (case a => k_is); (case i => k_is); (case l => k_is); (case c => k_is); (case k => k_is))
    (case d_Order_less => refine' G.D2.of ?a ?i ?l ?c ?k; (case a => k_is); (case i => k_is); (case l => k_is); (case c => k_is); (case k => k_is))
    (case d_Lattice_init => refine' G.D2.of ?a ?i ?l ?c ?k; (case a => k_is); (case i => k_is); (case l => k_is); (case c => k_is); (case k => k_is))
    (case d_Order_init => refine' G.D2.of ?a ?i ?l ?c ?k; (case a => k_is); (case i => k_is); (case l => k_is); (case c => k_is); (case k => k_is))
