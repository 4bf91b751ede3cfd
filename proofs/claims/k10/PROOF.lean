import PyProof.Rows.All
import Wide.All
import OpenK.AllK
import Wide.FinOn
import HandS.ForMost
import HandS.Wide
import HandS.Flow
import HandS.Defaults
import HandS.MakeKwOnly
import HandS.Codes
import HandS.More
import HandS.NoneIn
import HandS.Style
import HandS.IsInst
import KE.Datum
import PySem.Challenge.RW_farasked_k10_takers
set_option Elab.async false
set_option linter.all false
set_option maxRecDepth 100000
/-! what stands in the heap, as one list of cells -/
namespace G
open PySem PySem.Spec PyProof.Rows L2

/-- a cell: 0 read alone, 1 of the caller's and to be changed, 2 new here -/
abbrev Cell := Nat × Addr × HO
structure Sep (H0 : Hp) (ft : List Addr) (H : Hp) (l : List Cell) : Prop where
  nd : (l.map (·.2.1)).Nodup
  rd : ∀ c ∈ l, H c.2.1 = some c.2.2
  fr : ∀ b o, H0 b = some o → b ∉ ft → H b = some o
  wr : ∀ c ∈ l, c.1 = 1 → c.2.1 ∈ ft
  nw : ∀ c ∈ l, c.1 = 2 → H0 c.2.1 = none
  ex : ∀ b ∈ ft, ∃ o, H b = some o
section
variable {H0 H H' : Hp} {ft : List Addr} {l : List Cell} {t : Nat} {a p q b : Addr} {o o' u : HO}
theorem Sep.nil (ex : ∀ b ∈ ft, ∃ o, H b = some o) : Sep H ft H [] := ⟨List.nodup_nil, fun _ h => (nomatch h), fun _ _ h _ => h, fun _ h => (nomatch h), fun _ h => (nomatch h), ex⟩
theorem Sep.mem (S : Sep H0 ft H l) (i : Nat) {c : Cell} (h : l[i]? = some c) : c ∈ l := List.mem_of_getElem? h
theorem Sep.get (S : Sep H0 ft H l) (i : Nat) (h : l[i]? = some (t, a, o)) : H a = some o := S.rd _ (List.mem_of_getElem? h)
theorem Sep.new_none (S : Sep H0 ft H l) (i : Nat) (h : l[i]? = some (2, a, o)) : H0 a = none := S.nw _ (List.mem_of_getElem? h) rfl
theorem Sep.ne {t t' : Nat} (S : Sep H0 ft H l) (i j : Nat) (h : l[i]? = some (t, a, o)) (h' : l[j]? = some (t', b, u)) (d : i ≠ j) : a ≠ b := by
  intro e
  have h1 : (l.map (·.2.1))[i]? = some a := by rw [List.getElem?_map, h]; rfl
  have h2 : (l.map (·.2.1))[j]? = some a := by rw [List.getElem?_map, h', e]; rfl
  obtain ⟨x1, e1⟩ := List.getElem?_eq_some_iff.mp h1
  obtain ⟨x2, e2⟩ := List.getElem?_eq_some_iff.mp h2
  exact d ((List.getElem_inj S.nd).mp (e1.trans e2.symm))
theorem Sep.add (S : Sep H0 ft H l) (t : Nat) (ha : H a = some o) (hn : ∀ c ∈ l, c.2.1 ≠ a) (h1 : t = 1 → a ∈ ft) (h2 : t = 2 → H0 a = none) : Sep H0 ft H ((t, a, o) :: l) :=
  ⟨List.nodup_cons.mpr ⟨fun m => by obtain ⟨c, hc, e⟩ := List.mem_map.mp m; exact hn c hc e, S.nd⟩,
   fun c hc => (List.mem_cons.mp hc).elim (fun e => by rw [e]; exact ha) (S.rd c), S.fr,
   fun c hc => (List.mem_cons.mp hc).elim (fun e => by rw [e]; exact h1) (S.wr c),
   fun c hc => (List.mem_cons.mp hc).elim (fun e => by rw [e]; exact h2) (S.nw c), S.ex⟩
/-- what is not there was not there at the entry, where all that may be changed is there -/
theorem Sep.none0 (S : Sep H0 ft H l) (hp : H p = none) : H0 p = none := by
  cases e : H0 p with
  | none => rfl
  | some o =>
    by_cases m : p ∈ ft
    · obtain ⟨u, hu⟩ := S.ex p m
      rw [hp] at hu; cases hu
    · have := S.fr p o e m
      rw [hp] at this; cases this
theorem Sep.new (S : Sep H0 ft H l) (hp : H p = none) (o : HO) : Sep H0 ft (upd H p o) ((2, p, o) :: l) := by
  have h0 := S.none0 hp
  have hne : ∀ c ∈ l, c.2.1 ≠ p := fun c hc e => by
    have := S.rd c hc
    rw [e, hp] at this; cases this
  have S' : Sep H0 ft (upd H p o) l := ⟨S.nd, fun c hc => by rw [upd_ne (hne c hc)]; exact S.rd c hc, fun b u e m => by rw [upd_ne (ne_of_none e h0)]; exact S.fr b u e m, S.wr, S.nw, fun b m => by obtain ⟨u, hu⟩ := S.ex b m; exact ⟨u, by rw [upd_ne (ne_of_none hu hp)]; exact hu⟩⟩
  exact S'.add 2 upd_same hne (fun e => by cases e) fun _ => h0
theorem Sep.put (S : Sep H0 ft H l) (i : Nat) (o' : HO) (h : l[i]? = some (t, a, o)) (ht : t = 1 ∨ t = 2 := by first | exact .inl rfl | exact .inr rfl) : Sep H0 ft (upd H a o') (l.set i (t, a, o')) := by
  have hw : H0 a = none ∨ a ∈ ft := by
    rcases ht with e | e
    · exact .inr (S.wr _ (List.mem_of_getElem? h) e)
    · exact .inl (S.nw _ (List.mem_of_getElem? h) e)
  have hi : i < l.length := (List.getElem?_eq_some_iff.mp h).1
  have em : (l.set i (t, a, o')).map (·.2.1) = l.map (·.2.1) := by
    rw [List.map_set]
    have : (l.map (·.2.1))[i]? = some a := by rw [List.getElem?_map, h]; rfl
    obtain ⟨x, e⟩ := List.getElem?_eq_some_iff.mp this
    rw [← e]
    exact List.set_getElem_self x
  refine ⟨by rw [em]; exact S.nd, fun c hc => ?_, fun b u e m => ?_, fun c hc => ?_, fun c hc => ?_, fun b m => ?_⟩
  · rcases List.getElem?_of_mem hc with ⟨j, hj⟩
    by_cases e : i = j
    · subst e
      rw [List.getElem?_set_self hi] at hj
      cases hj
      exact upd_same
    · rw [List.getElem?_set_ne e] at hj
      have hne : c.2.1 ≠ a := S.ne (t := c.1) (o := c.2.2) j i hj h (Ne.symm e)
      rw [upd_ne hne]
      exact S.rd c (List.mem_of_getElem? hj)
  · have nb : b ≠ a := fun z => by
      rw [z] at e m
      rcases hw with k | k
      · rw [k] at e; cases e
      · exact m k
    rw [upd_ne nb]
    exact S.fr b u e m
  · rcases List.mem_or_eq_of_mem_set hc with hc | rfl
    · exact S.wr c hc
    · exact fun e => S.wr (t, a, o) (List.mem_of_getElem? h) e
  · rcases List.mem_or_eq_of_mem_set hc with hc | rfl
    · exact S.nw c hc
    · exact fun e => S.nw (t, a, o) (List.mem_of_getElem? h) e
  · obtain ⟨u, hu⟩ := S.ex b m
    by_cases e : b = a
    · subst e; exact ⟨_, upd_same⟩
    · exact ⟨u, by rw [upd_ne e]; exact hu⟩
/-- behind a call that changes nothing that was -/
theorem Sep.stay (S : Sep H0 ft H l) (F : ∀ b o, H b = some o → H' b = some o) : Sep H0 ft H' l :=
  ⟨S.nd, fun c hc => F _ _ (S.rd c hc), fun b o e m => F b o (S.fr b o e m), S.wr, S.nw, fun b m => let ⟨u, hu⟩ := S.ex b m; ⟨u, F b u hu⟩⟩
/-- behind a call that changes the i-th cell alone -/
theorem Sep.chg1 (S : Sep H0 ft H l) (i : Nat) (h : l[i]? = some (t, a, o)) (F : ∀ b u, H b = some u → b ≠ a → H' b = some u) (e : H' a = some o') (ht : t = 1 ∨ t = 2 := by first | exact .inl rfl | exact .inr rfl) :
    Sep H0 ft H' (l.set i (t, a, o')) := by
  have S1 := S.put i o' h ht
  refine S1.stay fun b u hb => ?_
  by_cases z : b = a
  · subst z; rw [upd_same] at hb; cases hb; exact e
  · rw [upd_ne z] at hb; exact F b u hb z
theorem Sep.chg2 {t' : Nat} {o2 o2' : HO} (S : Sep H0 ft H l) (i j : Nat) (h : l[i]? = some (t, a, o)) (h' : l[j]? = some (t', b, o2)) (d : i ≠ j) (F : ∀ c u, H c = some u → c ≠ a → c ≠ b → H' c = some u) (e : H' a = some o') (e2 : H' b = some o2')
    (ht : t = 1 ∨ t = 2 := by first | exact .inl rfl | exact .inr rfl) (ht' : t' = 1 ∨ t' = 2 := by first | exact .inl rfl | exact .inr rfl) : Sep H0 ft H' ((l.set i (t, a, o')).set j (t', b, o2')) := by
  have S1 := S.put i o' h ht
  have nab : a ≠ b := S.ne i j h h' d
  refine S1.chg1 j (by rw [List.getElem?_set_ne d]; exact h') (fun c u hc z => ?_) e2 ht'
  by_cases w : c = a
  · subst w; rw [upd_same] at hc; cases hc; exact e
  · rw [upd_ne w] at hc; exact F c u hc w z
theorem nodup_of {α : Type} (l : List α) (is : List Nat) : is.Nodup → l.Nodup → (is.filterMap (l[·]?)).Nodup := by
  intro h1 h2
  induction is with
  | nil => exact List.nodup_nil
  | cons i r ih =>
    obtain ⟨n1, n2⟩ := List.nodup_cons.mp h1
    cases e : l[i]? with
    | none => rw [List.filterMap_cons_none e]; exact ih n2
    | some x =>
      rw [List.filterMap_cons_some e]
      refine List.nodup_cons.mpr ⟨fun m => ?_, ih n2⟩
      obtain ⟨j, hj, ej⟩ := List.mem_filterMap.mp m
      obtain ⟨x1, e1⟩ := List.getElem?_eq_some_iff.mp e
      obtain ⟨x2, e2⟩ := List.getElem?_eq_some_iff.mp ej
      have := (List.getElem_inj h2).mp (e1.trans e2.symm)
      subst this
      exact n1 hj
/-- some of the cells, in another order -/
theorem Sep.sub (S : Sep H0 ft H l) (is : List Nat) (hn : is.Nodup := by decide) : Sep H0 ft H (is.filterMap (l[·]?)) := by
  have hm : ∀ c ∈ is.filterMap (l[·]?), c ∈ l := fun c hc => by
    obtain ⟨j, _, ej⟩ := List.mem_filterMap.mp hc
    exact List.mem_of_getElem? ej
  refine ⟨?_, fun c hc => S.rd c (hm c hc), S.fr, fun c hc => S.wr c (hm c hc), fun c hc => S.nw c (hm c hc), S.ex⟩
  have : (is.filterMap (l[·]?)).map (·.2.1) = is.filterMap ((l.map (·.2.1))[·]?) := by
    rw [List.map_filterMap]
    congr 1
    funext i
    rw [List.getElem?_map]
  rw [this]
  exact nodup_of _ is hn S.nd
theorem Sep.sq {K : PySem.W.Frag} {xs : List V} (S : Sep H0 ft H l) (h : SqL K H0 a xs) (ha : a ∉ ft) : SqL K H a xs := by
  rcases h with (h | ⟨o, h⟩) | h
  · exact .inl (.inl (S.fr _ _ h ha))
  · exact .inl (.inr ⟨o, S.fr _ _ h ha⟩)
  · exact .inr h
theorem Sep.sl {K : PySem.W.Frag} {xs : List V} (S : Sep H0 ft H l) (i : Nat) (h : l[i]? = some (t, a, .lst xs)) : SqL K H a xs := .of (S.get i h)
theorem Sep.st {K : PySem.W.Frag} {xs : List V} (S : Sep H0 ft H l) (i : Nat) (h : l[i]? = some (t, a, .tup xs)) : SqT K H a xs := .of (S.get i h)
theorem Sep.of0 : Sep H [] H [] := Sep.nil fun _ h => (nomatch h)
theorem Sep.of1 (h : H a = some o) : Sep H [a] H [(1, a, o)] := (Sep.nil fun b m => by rw [List.mem_singleton.mp m]; exact ⟨o, h⟩).add 1 h (fun _ z => nomatch z) (fun _ => List.mem_singleton_self a) (fun z => by cases z)
theorem Sep.of2 (h : H a = some o) (h' : H b = some u) (n : a ≠ b) : Sep H [a, b] H [(1, a, o), (1, b, u)] :=
  ((Sep.nil fun c m => (List.mem_cons.mp m).elim (fun e => by rw [e]; exact ⟨_, h⟩) fun m => by rw [List.mem_singleton.mp m]; exact ⟨_, h'⟩).add 1 h' (fun _ z => nomatch z) (fun _ => by simp) (fun z => by cases z)).add 1 h (fun c hc => by rw [List.mem_singleton.mp hc]; exact n.symm) (fun _ => by simp) (fun z => by cases z)
theorem Sep.out (S : Sep H0 ft H l) : ∀ b o, H0 b = some o → b ∉ ft → H b = some o := S.fr
theorem Sep.out1 (S : Sep H0 [a] H l) : ∀ b o, H0 b = some o → b ≠ a → H b = some o := fun b o e n => S.fr b o e (by simp [n])
theorem Sep.out2 (S : Sep H0 [a, b] H l) : ∀ c o, H0 c = some o → c ≠ a → c ≠ b → H c = some o := fun c o e n m => S.fr c o e (by simp [n, m])
end
/-! ### steps: what a reading asks, answered over the cells -/
section
variable {H0 H : Hp} {ft : List Addr} {l : List Cell} {t : Nat} {a p : Addr} {o : HO} {K : PySem.W.Frag} {σ : L2.St} {Q : VK} {v x y : V} {i j : Int}
theorem x_var {n : Nat} (h : σ[n]? = some (some v)) (q : Q v H) : tVar n σ H Q := ⟨v, h, q⟩
theorem x_ixF {xs : List V} (S : Sep H0 ft H l) (n : Nat) (h : l[n]? = some (t, p, .lst xs)) (ha : atI xs i = some v) (q : Q v H) : rIxL K (.ref p) (.int i) H Q := ⟨p, xs, i, v, rfl, rfl, S.sl n h, ha, q⟩
theorem x_ixT {xs : List V} (S : Sep H0 ft H l) (n : Nat) (h : l[n]? = some (t, p, .tup xs)) (ha : atI xs i = some v) (q : Q v H) : rIxT K (.ref p) (.int i) H Q := ⟨p, xs, i, v, rfl, rfl, S.st n h, ha, q⟩
theorem at_map {α : Type} {f : α → V} {cs : List α} {i : Int} (h0 : 0 ≤ i) (h : i < cs.length) : ∃ c, cs[i.toNat]? = some c ∧ atI (cs.map f) i = some (f c) := by
  have hl : i.toNat < cs.length := by omega
  refine ⟨cs[i.toNat], List.getElem?_eq_getElem hl, ?_⟩
  have e : ((i.toNat : Nat) : Int) = i := by omega
  have := atI_nat (xs := cs.map f) (j := i.toNat) (v := f cs[i.toNat]) (by rw [List.getElem?_map, List.getElem?_eq_getElem hl]; rfl)
  rw [e] at this
  exact this
theorem x_ixI {cs : List Int} (S : Sep H0 ft H l) (n : Nat) (h : l[n]? = some (t, p, .lst (cs.map V.int))) (h0 : 0 ≤ i) (h1 : i < cs.length) (q : ∀ c, cs[i.toNat]? = some c → Q (.int c) H) : rIxL K (.ref p) (.int i) H Q := by
  obtain ⟨c, hc, ha⟩ := at_map (f := V.int) h0 h1
  exact ⟨p, _, i, _, rfl, rfl, S.sl n h, ha, q c hc⟩
theorem x_ixS {cs : List Int} (hs : SqL K H p (cs.map V.int)) (h0 : 0 ≤ i) (h1 : i < cs.length) (q : ∀ c, cs[i.toNat]? = some c → Q (.int c) H) : rIxL K (.ref p) (.int i) H Q := by
  obtain ⟨c, hc, ha⟩ := at_map (f := V.int) h0 h1
  exact ⟨p, _, i, _, rfl, rfl, hs, ha, q c hc⟩
theorem x_setL {xs : List V} {k : Nat} {Qd : Hp → Prop} (S : Sep H0 ft H l) (n : Nat) (h : l[n]? = some (t, p, .lst xs)) (hj : ixN xs.length i = some k) (q : ∀ H', Sep H0 ft H' (l.set n (t, p, .lst (xs.set k v))) → Qd H')
    (ht : t = 1 ∨ t = 2 := by first | exact .inl rfl | exact .inr rfl) : rSetL (.ref p) (.int i) v H Qd := ⟨p, xs, i, k, rfl, rfl, S.get n h, hj, q _ (S.put n _ h ht)⟩
theorem ixN_in {n : Nat} (h0 : 0 ≤ i) (h : i < n) : ixN n i = some i.toNat := by unfold ixN; rw [if_pos h0, if_pos h]
theorem x_setI {cs : List Int} {Qd : Hp → Prop} (S : Sep H0 ft H l) (n : Nat) (h : l[n]? = some (t, p, .lst (cs.map V.int))) (h0 : 0 ≤ i) (h1 : i < cs.length) (q : ∀ H', Sep H0 ft H' (l.set n (t, p, .lst ((cs.set i.toNat j).map V.int))) → Qd H')
    (ht : t = 1 ∨ t = 2 := by first | exact .inl rfl | exact .inr rfl) : rSetL (.ref p) (.int i) (.int j) H Qd := by
  refine ⟨p, _, i, i.toNat, rfl, rfl, S.get n h, ixN_in h0 (by rw [List.length_map]; exact h1), ?_⟩
  have := S.put n (.lst ((cs.map V.int).set i.toNat (.int j))) h ht
  rw [← List.map_set] at this ⊢
  exact q _ this
def rLen (K : PySem.W.Frag) : List V → Hp → VK → Prop := fun xs H Q => ∃ p ys, xs = [.ref p] ∧ (SqL K H p ys ∨ SqT K H p ys) ∧ Q (.int ys.length) H
theorem cl_len {X : Cx} : CallR X (.builtin "len") (rLen X.K) := call_len_seq
theorem x_len {xs : List V} (S : Sep H0 ft H l) (n : Nat) (h : l[n]? = some (t, p, .lst xs)) (q : Q (.int xs.length) H) : rLen K [.ref p] H Q := ⟨p, xs, rfl, .inl (S.sl n h), q⟩
theorem x_lenI {cs : List Int} (S : Sep H0 ft H l) (n : Nat) (h : l[n]? = some (t, p, .lst (cs.map V.int))) (q : Q (.int cs.length) H) : rLen K [.ref p] H Q := ⟨p, _, rfl, .inl (S.sl n h), by rw [List.length_map]; exact q⟩
theorem x_lenT {xs : List V} (S : Sep H0 ft H l) (n : Nat) (h : l[n]? = some (t, p, .tup xs)) (q : Q (.int xs.length) H) : rLen K [.ref p] H Q := ⟨p, xs, rfl, .inr (S.st n h), q⟩
theorem x_lenS {cs : List Int} (hs : SqL K H p (cs.map V.int)) (q : Q (.int cs.length) H) : rLen K [.ref p] H Q := ⟨p, _, rfl, .inl hs, by rw [List.length_map]; exact q⟩
theorem x_I {C : Int → Int → Prop} {g : Int → Int → V} (c : C i j) (q : Q (g i j) H) : rI C g (.int i) (.int j) H Q := ⟨i, j, rfl, rfl, c, q⟩
theorem x_I0 {g : Int → Int → V} (q : Q (g i j) H) : rI0 g (.int i) (.int j) H Q := ⟨i, j, rfl, rfl, q⟩
theorem x_ip {f : Int → Int → Int} (q : Q (.int (f i j)) H) : ipI f (.int i) (.int j) H Q := ⟨i, j, rfl, rfl, q⟩
theorem x_U {g : Int → V} (q : Q (g i) H) : rU g (.int i) H Q := ⟨i, rfl, q⟩
theorem x_eq (q : Q (.bl (decide (x = y))) H) (s : scal x y = true := by rfl) : rEq x y H Q := ⟨s, q⟩
theorem x_ne (q : Q (.bl (!decide (x = y))) H) (s : scal x y = true := by rfl) : rNe x y H Q := ⟨s, q⟩
theorem x_bl {b : Bool} {R : Bool → Hp → Prop} (q : R b H) : ∃ k, V.bl b = .bl k ∧ R k H := ⟨b, rfl, q⟩
/-- a new object -/
theorem x_new (S : Sep H0 ft H l) (o : HO) {R : Addr → Hp → Prop} (q : ∀ p H', Sep H0 ft H' ((2, p, o) :: l) → R p H') : ∀ p, H p = none → R p (upd H p o) := fun p hp => q p _ (S.new hp o)
end
/-! ### more steps -/
section
variable {H0 H : Hp} {ft : List Addr} {l : List Cell} {t : Nat} {a p : Addr} {o : HO} {K : PySem.W.Frag} {σ : L2.St} {Q : VK} {v x y : V} {i j : Int}
theorem div_ok (h : 0 < j) (h2 : j < 2 ^ 200) : CDivW i j := wide_div (b := 200) h (by omega) (by decide) (by decide)
theorem x_if {tc : TT} {t u : TS} {D : Ends} (h : tc σ H fun b H1 => if b = true then t D σ H1 else u D σ H1) : tIfS tc t u D σ H := h
def ForJ (J : It) (g : TG) (tb : TS) (D : Ends) (σ : L2.St) (H : Hp) : Prop := ∃ W : Nat → Nat → L2.St → Hp → Prop, (∃ m, W 0 m σ H) ∧ ∀ i m σ H, W i m σ H →
  (J.stop i H ∧ D.nx σ H) ∨ (J.go i H ∧ ∃ N : L2.St → Hp → Prop, (∀ σ' H', N σ' H' → ∃ m', m' < m ∧ W (i + 1) m' σ' H') ∧ ∀ x H', J.yld i H x H' → g x σ H' fun σ2 H2 => tb { D with nx := N, ct := N, bk := D.nx } σ2 H2)
theorem x_for {wi : TI} {g : TG} {tb : TS} {D : Ends} (h : wi σ H fun J H1 => ForJ J g tb D σ H1) : tFor wi g tb D σ H := h
theorem forR {lo : Int} {n : Nat} {g : TG} {tb : TS} {D : Ends} (Pv : Nat → L2.St → Hp → Prop) (h0 : Pv 0 σ H)
    (hs : ∀ i σ H, i < n → Pv i σ H → g (.int (lo + i)) σ H fun σ2 H2 => tb { D with nx := Pv (i + 1), ct := Pv (i + 1), bk := D.nx } σ2 H2) (hd : ∀ σ H, Pv n σ H → D.nx σ H) : ForJ (Itr lo n) g tb D σ H := for_range Pv h0 hs hd
theorem forL {xs : List V} {g : TG} {tb : TS} {D : Ends} (Pv : Nat → L2.St → Hp → Prop) (h0 : Pv 0 σ H) (hl : ∀ i σ H, i ≤ xs.length → Pv i σ H → SqL K H a xs)
    (hs : ∀ i x σ H, xs[i]? = some x → Pv i σ H → g x σ H fun σ2 H2 => tb { D with nx := Pv (i + 1), ct := Pv (i + 1), bk := D.nx } σ2 H2) (hd : ∀ σ H, Pv xs.length σ H → D.nx σ H) : ForJ (Itl K a) g tb D σ H := for_list Pv h0 hl hs hd
def LcJ (J : It) (g : TG) (tt : TT) (te : TE) (vs : List Nat) (σ : L2.St) (H1 : Hp) (Q : VK) : Prop := ∀ D, H1 D = none → ∃ W : Nat → Nat → Hp → Prop, (∃ m, W 0 m (upd H1 D (.lst []))) ∧ ∀ i m H, W i m H →
  (J.stop i H ∧ Q (.ref D) H) ∨ (J.go i H ∧ ∃ Nx : Hp → Prop, (∀ H', Nx H' → ∃ m', m' < m ∧ W (i + 1) m' H') ∧ ∀ x H', J.yld i H x H' → g x (wipe σ vs) H' fun σ2 H2 => wipe σ2 vs = wipe σ vs ∧ tt σ2 H2 fun b H3 =>
    if b = true then te σ2 H3 fun y H4 => ∃ acc, H4 D = some (.lst acc) ∧ acc.length < sizeLine ∧ Nx (upd H4 D (.lst (acc ++ [y]))) else Nx H3)
theorem x_lc {wi : TI} {g : TG} {tt : TT} {te : TE} {vs : List Nat} (h : wi σ H fun J H1 => LcJ J g tt te vs σ H1 Q) : tLc wi g tt te vs σ H Q := h
/-- what a turn hands on is put behind the new list -/
def rLcA (D : Addr) (y : V) (H : Hp) (R : Hp → Prop) : Prop := ∃ acc, H D = some (.lst acc) ∧ acc.length < sizeLine ∧ R (upd H D (.lst (acc ++ [y])))
theorem lcR {lo : Int} {n : Nat} {g : TG} {tt : TT} {te : TE} {vs : List Nat} (S : Sep H0 ft H l) (h : ∀ D H1, Sep H0 ft H1 ((2, D, .lst []) :: l) → ∃ Pv : Nat → Hp → Prop, Pv 0 H1 ∧
    (∀ i H, i < n → Pv i H → g (.int (lo + i)) (wipe σ vs) H fun σ2 H2 => wipe σ2 vs = wipe σ vs ∧ tt σ2 H2 fun b H3 => if b = true then te σ2 H3 fun y H4 => rLcA D y H4 (Pv (i + 1)) else Pv (i + 1) H3) ∧
    ∀ H, Pv n H → Q (.ref D) H) : LcJ (Itr lo n) g tt te vs σ H Q := fun D hD =>
  let ⟨Pv, h0, hs, hd⟩ := h D _ (S.new hD (.lst []))
  lc_range (H1 := H) Pv h0 hs hd
theorem lcL {xs : List V} {g : TG} {tt : TT} {te : TE} {vs : List Nat} (S : Sep H0 ft H l) (h : ∀ D H1, Sep H0 ft H1 ((2, D, .lst []) :: l) → ∃ Pv : Nat → Hp → Prop, Pv 0 H1 ∧ (∀ i H, i ≤ xs.length → Pv i H → SqL K H a xs) ∧
    (∀ i x H, xs[i]? = some x → Pv i H → g x (wipe σ vs) H fun σ2 H2 => wipe σ2 vs = wipe σ vs ∧ tt σ2 H2 fun b H3 => if b = true then te σ2 H3 fun y H4 => rLcA D y H4 (Pv (i + 1)) else Pv (i + 1) H3) ∧
    ∀ H, Pv xs.length H → Q (.ref D) H) : LcJ (Itl K a) g tt te vs σ H Q := fun D hD =>
  let ⟨Pv, h0, hl, hs, hd⟩ := h D _ (S.new hD (.lst []))
  lc_list (H1 := H) Pv h0 hl hs hd
theorem x_lcapp {xs : List V} {R : Hp → Prop} (S : Sep H0 ft H l) (n : Nat) (h : l[n]? = some (t, p, .lst xs)) (hl : xs.length < 100000) (q : ∀ H', Sep H0 ft H' (l.set n (t, p, .lst (xs ++ [v]))) → R H') (ht : t = 1 ∨ t = 2 := by first | exact .inl rfl | exact .inr rfl) :
    rLcA p v H R := ⟨xs, S.get n h, Nat.lt_of_lt_of_le hl (by decide), q _ (S.put n _ h ht)⟩
theorem x_lcappI {cs : List Int} {R : Hp → Prop} (S : Sep H0 ft H l) (n : Nat) (h : l[n]? = some (t, p, .lst (cs.map V.int))) (hl : cs.length < 100000) (q : ∀ H', Sep H0 ft H' (l.set n (t, p, .lst ((cs ++ [i]).map V.int))) → R H') (ht : t = 1 ∨ t = 2 := by first | exact .inl rfl | exact .inr rfl) :
    rLcA p (.int i) H R := x_lcapp S n h (by rw [List.length_map]; exact hl) (fun H' S' => q H' (by rw [List.map_append]; exact S')) ht
theorem elem_of {α : Type} {f : α → V} {xs : List α} {n : Nat} {y : V} (h : (xs.map f)[n]? = some y) : ∃ z, xs[n]? = some z ∧ y = f z := by
  rw [List.getElem?_map] at h
  cases e : xs[n]? with
  | none => rw [e] at h; cases h
  | some z => rw [e] at h; exact ⟨z, rfl, (Option.some.inj h).symm⟩
theorem filter_snoc_pos {α : Type} {p : α → Bool} {xs : List α} {z : α} (h : p z = true) : xs.filter p ++ [z] = (xs ++ [z]).filter p := by rw [List.filter_append, List.filter_cons_of_pos h, List.filter_nil]
theorem filter_snoc_neg {α : Type} {p : α → Bool} {xs : List α} {z : α} (h : p z = false) : xs.filter p = (xs ++ [z]).filter p := by rw [List.filter_append, List.filter_cons_of_neg (by rw [h]; exact Bool.false_ne_true), List.filter_nil, List.append_nil]
theorem take_snoc {α : Type} {xs : List α} {n : Nat} {z : α} (h : xs[n]? = some z) : xs.take (n + 1) = xs.take n ++ [z] := by rw [List.take_add_one, h]; rfl
theorem lt_of_get {α : Type} {xs : List α} {n : Nat} {z : α} (h : xs[n]? = some z) : n < xs.length := (List.getElem?_eq_some_iff.mp h).1
theorem x_ifE {tt : TT} {ta tb : TE} (h : tt σ H fun c H1 => if c = true then ta σ H1 Q else tb σ H1 Q) : tIf tt ta tb σ H Q := h
/-- what follows a value is shown once -/
theorem x_ifx {tt : TT} {ta tb : TE} (R : V → Hp → Prop) (k : ∀ v H', R v H' → Q v H') (h : (∀ v H', R v H' → Q v H') → tIf tt ta tb σ H Q) : tIf tt ta tb σ H Q := h k
/-- what follows an if is shown once -/
theorem x_ifS {tc : TT} {t u : TS} {D : Ends} (R : L2.St → Hp → Prop) (k : ∀ σ H', R σ H' → D.nx σ H') (h : (∀ σ H', R σ H' → D.nx σ H') → tIfS tc t u D σ H) : tIfS tc t u D σ H := h k
theorem x_andV {ta tb : TE} (h : ta σ H fun x H1 => ∃ c, x = .bl c ∧ if c = true then tb σ H1 Q else Q (.bl false) H1) : tAndV ta tb σ H Q := h
theorem x_orV {ta tb : TE} (h : ta σ H fun x H1 => ∃ c, x = .bl c ∧ if c = true then Q (.bl true) H1 else tb σ H1 Q) : tOrV ta tb σ H Q := h
theorem x_and {t u : TT} {R : Bool → Hp → Prop} (h : t σ H fun c H1 => if c = true then u σ H1 R else R false H1) : tAnd t u σ H R := h
theorem x_or {t u : TT} {R : Bool → Hp → Prop} (h : t σ H fun c H1 => if c = true then R true H1 else u σ H1 R) : tOr t u σ H R := h
theorem x_turn {G : L2.St → Hp → Prop} {R : (L2.St → Hp → Prop) → Prop} (h : R G) : ∃ N : L2.St → Hp → Prop, (∀ σ' H', N σ' H' → G σ' H') ∧ R N := ⟨_, fun _ _ z => z, h⟩
theorem x_while {tc : TT} {tb : TS} {D : Ends} (W : Nat → L2.St → Hp → Prop) (m : Nat) (w : W m σ H) (h : ∀ m σ H, W m σ H → tc σ H fun b H1 => if b = true then ∃ N : L2.St → Hp → Prop, (∀ σ' H', N σ' H' → ∃ m', m' < m ∧ W m' σ' H') ∧ tb { D with nx := N, ct := N, bk := D.nx } σ H1 else D.nx σ H1) :
    tWhile tc tb D σ H := ⟨W, ⟨m, w⟩, h⟩
theorem x_part {R : Option Int → Hp → Prop} (q : R (some i) H) : ∃ j, V.int i = .int j ∧ R (some j) H := ⟨i, rfl, q⟩
theorem x_slL {xs : List V} {lo hi : Option Int} (S : Sep H0 ft H l) (n : Nat) (h : l[n]? = some (t, p, .lst xs)) (q : ∀ r H', Sep H0 ft H' ((2, r, .lst (cutV xs lo hi)) :: l) → Q (.ref r) H') : rSlL K (.ref p) lo hi H Q := ⟨p, xs, rfl, S.sl n h, x_new S _ q⟩
/-- a slice of a list of ints -/
def cutI {α : Type} (xs : List α) (lo hi : Option Int) : List α := (xs.drop (HT.sIx xs.length 0 lo)).take (HT.sIx xs.length xs.length hi - HT.sIx xs.length 0 lo)
theorem cutV_map {α : Type} (f : α → V) (xs : List α) (lo hi : Option Int) : cutV (xs.map f) lo hi = (cutI xs lo hi).map f := by
  unfold cutV cutI
  rw [List.length_map, ← List.map_drop, ← List.map_take]
theorem x_slI {cs : List Int} {lo hi : Option Int} (S : Sep H0 ft H l) (n : Nat) (h : l[n]? = some (t, p, .lst (cs.map V.int))) (q : ∀ r H', Sep H0 ft H' ((2, r, .lst ((cutI cs lo hi).map V.int)) :: l) → Q (.ref r) H') : rSlL K (.ref p) lo hi H Q :=
  ⟨p, _, rfl, S.sl n h, by rw [cutV_map]; exact x_new S _ q⟩
theorem cutI_nat {α : Type} (xs : List α) {i j : Int} (h0 : 0 ≤ i) (h1 : i ≤ j) (h2 : j ≤ xs.length) : cutI xs (some i) (some j) = (xs.drop i.toNat).take (j.toNat - i.toNat) := by
  unfold cutI
  have e1 : i = (i.toNat : Int) := by omega
  have e2 : j = (j.toNat : Int) := by omega
  rw [e1, e2, HT.sIx_nat, HT.sIx_nat, Nat.min_eq_left (by omega), Nat.min_eq_left (by omega), Int.toNat_natCast, Int.toNat_natCast]
def rMax2 : List V → Hp → VK → Prop := fun xs H Q => ∃ i j, xs = [.int i, .int j] ∧ Q (.int (max i j)) H
def rMin2 : List V → Hp → VK → Prop := fun xs H Q => ∃ i j, xs = [.int i, .int j] ∧ Q (.int (min i j)) H
theorem cl_max {X : Cx} (hc : X.calm = true) : CallR X (.builtin "max") rMax2 := fun pins s σ H xs us Q I r ⟨i, j, e, q⟩ => call_max2 hc pins s σ H xs us Q I r ⟨i, j, e, by
  have : (if j > i then j else i) = max i j := by split <;> omega
  rw [this]; exact q⟩
theorem cl_min {X : Cx} (hc : X.calm = true) : CallR X (.builtin "min") rMin2 := fun pins s σ H xs us Q I r ⟨i, j, e, q⟩ => call_min2 hc pins s σ H xs us Q I r ⟨i, j, e, by
  have : (if j < i then j else i) = min i j := by split <;> omega
  rw [this]; exact q⟩
theorem x_max (q : Q (.int (max i j)) H) : rMax2 [.int i, .int j] H Q := ⟨i, j, rfl, q⟩
theorem x_min (q : Q (.int (min i j)) H) : rMin2 [.int i, .int j] H Q := ⟨i, j, rfl, q⟩
/-- what the rules ask, under names -/
def rIL (K : PySem.W.Frag) : V → Hp → (It → Hp → Prop) → Prop := fun x H R => ∃ a, x = .ref a ∧ (∃ xs, SqL K H a xs) ∧ R (Itl K a) H
def rIT (K : PySem.W.Frag) : V → Hp → (It → Hp → Prop) → Prop := fun x H R => ∃ a, x = .ref a ∧ (∃ xs, SqT K H a xs) ∧ R (Itt K a) H
def iList1 (K : PySem.W.Frag) (tl : TE) : TI := fun σ H R => tl σ H fun x H1 => rIL K x H1 R
def iTup1 (K : PySem.W.Frag) (tl : TE) : TI := fun σ H R => tl σ H fun x H1 => rIT K x H1 R
theorem pi_list1 {X : Cx} {tg e : Expr} {tl : TE} (h : PE X e tl) : PI X tg e (iList1 X.K tl) := pi_list h
theorem pi_tup1 {X : Cx} {tg e : Expr} {tl : TE} (h : PE X e tl) : PI X tg e (iTup1 X.K tl) := pi_tup h

def rLst : List V → Hp → VK → Prop := fun xs H Q => xs.length ≤ sizeLine ∧ ∀ p, H p = none → Q (.ref p) (upd H p (.lst xs))
def rTup : List V → Hp → VK → Prop := fun xs H Q => xs.length ≤ sizeLine ∧ ∀ p, H p = none → Q (.ref p) (upd H p (.tup xs))
theorem pe_lst1 {X : Cx} {es : List Expr} {t : TA} {pos : Pos} (h : PA X es t) : PE X (.List es pos) (tCB rLst t) := pe_lst h
theorem pe_tup1 {X : Cx} {es : List Expr} {t : TA} {pos : Pos} {x1} (h : PA X es t) : PE X (.Tuple es x1 pos) (tCB rTup t) := pe_tup h
def rFld (K : PySem.W.Frag) (f : Str) : V → Hp → VK → Prop := fun x H Q => ∃ a C dx fs v, x = .ref a ∧ H a = some (.ins C dx fs) ∧ Cls K C ∧ NoAttr K C f ∧ fs.lookup f = some v ∧ Q v H
def rFldA (K : PySem.W.Frag) (f : Str) : V → Hp → (Addr → Addr → V → Prop) → Prop := fun x H R => ∃ a C dx fs v, x = .ref a ∧ H a = some (.ins C dx fs) ∧ Cls K C ∧ NoAttr K C f ∧ fs.lookup f = some v ∧ R a C v
def rPutA (f : Str) (a C : Addr) : V → Hp → (Hp → Prop) → Prop := fun z H R => ∃ dx fs, H a = some (.ins C dx fs) ∧ fs.length < 1000 ∧ R (upd H a (.ins C dx (putF f z fs)))
def rSFld (K : PySem.W.Frag) (f : Str) : V → V → Hp → (Hp → Prop) → Prop := fun x y H R => ∃ a C dx fs, x = .ref a ∧ H a = some (.ins C dx fs) ∧ Cls K C ∧ NoAttr K C f ∧ fs.length < 1000 ∧ R (upd H a (.ins C dx (putF f y fs)))
def sFld1 (K : PySem.W.Frag) (ta tv : TE) (f : Str) : TS := fun D σ H => tv σ H fun y H1 => ta σ H1 fun x H2 => rSFld K f x y H2 fun H3 => D.nx σ H3
def sFldAug1 (K : PySem.W.Frag) (ta tv : TE) (rd : V → V → Hp → VK → Prop) (f : Str) : TS := fun D σ H => ta σ H fun x H1 => rFldA K f x H1 fun a C v => tv σ H1 fun y H2 => rd v y H2 fun z H3 => rPutA f a C z H3 fun H4 => D.nx σ H4
def rMe (C : Addr) (m : Str) : V → Hp → Prop → Prop := fun x H R => ∃ a dx fs, x = .ref a ∧ H a = some (.ins C dx fs) ∧ fs.lookup m = none ∧ R
def tMeth1 (C : Addr) (m : Str) (sp : Sp) (dvs : List V) (E : XK) (ta : TE) (t : TA) : TE := fun σ H Q => ta σ H fun x H1 => rMe C m x H1 (t σ H1 fun vs H2 => sp (x :: (vs ++ dvs)) H2 Q E)
def rDIn : V → V → Hp → VK → Prop := fun y x H Q => ∃ a o, x = .ref a ∧ DGet H a y o ∧ Q (.bl o.isSome) H
def rDNi : V → V → Hp → VK → Prop := fun y x H Q => ∃ a o, x = .ref a ∧ DGet H a y o ∧ Q (.bl (!o.isSome)) H
def rDGet : V → V → Hp → VK → Prop := fun x y H Q => ∃ a v, x = .ref a ∧ DGet H a y (some v) ∧ Q v H
def rDPut : V → V → V → Hp → (Hp → Prop) → Prop := fun x y v H R => ∃ a H4, x = .ref a ∧ DPut H a y v H4 ∧ R H4
def sDPut1 (td ty tv : TE) : TS := fun D σ H => tv σ H fun v H1 => td σ H1 fun x H2 => ty σ H2 fun y H3 => rDPut x y v H3 fun H4 => D.nx σ H4
def rDPop (a : Addr) : V → Hp → VK → Prop := fun y H Q => ∃ kvs k v, H a = some (.dK kvs) ∧ y = kV k ∧ valV kvs k = some v ∧ Q v (upd H a (.dK (dropK kvs k)))
def rIsD : V → Hp → (Addr → Prop) → Prop := fun x H R => ∃ a, x = .ref a ∧ IsD H a ∧ R a
def tDPop (td ty : TE) : TE := fun σ H Q => td σ H fun x H1 => rIsD x H1 fun a => ty σ H1 fun y H2 => rDPop a y H2 Q
section
variable {X : Cx} {CX : CXT} {k j : Nat} {C : Addr} {f m : Str} {sp : Sp} {E : XK} {p pos pos' apos tpos cpos : Pos} {e i value : Expr} {es : List Expr} {td ty tv : TE} {ta : TE} {t : TA}
theorem pe_fld1 (he : PE X e ta) (hb : attributeBase e f X.env (eval e X.env) = eval e X.env) : PE X (.Attribute e f pos) (tUn (rFld X.K f) ta) := pe_fld he hb
theorem ps_fld1 (ha : PE X e ta) (hv : PE X value tv) (hs : swapsWith value (some (.Attribute e f pos')) pos.line X.env = pure false) : PS X (.Assign [.Attribute e f pos'] value pos) (sFld1 X.K ta tv f) := ps_fld ha hv hs
theorem ps_fldaug1 {op : Operator} {rd : V → V → Hp → VK → Prop} (ha : PE X e ta) (hv : PE X value tv) (hop : InOp X op rd) : PS X (.AugAssign (.Attribute e f tpos) op value pos) (sFldAug1 X.K ta tv rd f) := ps_fldaug ha hv hop
theorem pc_din1 (hu : X.A.units + 1 < cLine) (hi : PE X i ty) (ho : PE X e td) : PC X .In i e (tOp rDIn ty td) := pc_din hu hi ho
theorem pc_dni1 (hu : X.A.units + 1 < cLine) (hi : PE X i ty) (ho : PE X e td) : PC X .NotIn i e (tOp rDNi ty td) := pc_dnotin hu hi ho
theorem pe_dget1v (hu : X.A.units + 1 < cLine) (ho : PE X e td) (hi : PE X i ty) (hs : NoSl i) : PE X (.Subscript e i pos) (tOp rDGet td ty) := pe_dget hu ho hi hs
theorem ps_dput1 (hu : X.A.units + 1 < cLine) (ho : PE X e td) (hi : PE X i ty) (hv : PE X value tv) (hs : swapsWith value (some (.Subscript e i pos')) pos.line X.env = pure false) : PS X (.Assign [.Subscript e i pos'] value pos) (sDPut1 td ty tv) := ps_dput hu ho hi hv hs
theorem pe_dpop (ho : PE X e td) (he : PE X i ty) (m : M1 X e "pop" apos i cpos) : PE X (.Call (.Attribute e "pop" apos) [i] [] cpos) (tDPop td ty) := pe_dpop1 ho he m
end
theorem x_lst {xs : List V} (S : Sep H0 ft H l) (hl : xs.length ≤ 100000) (q : ∀ p H', Sep H0 ft H' ((2, p, .lst xs) :: l) → Q (.ref p) H') : rLst xs H Q := ⟨Nat.le_trans hl (by decide), x_new S _ q⟩
theorem x_tup {xs : List V} (S : Sep H0 ft H l) (hl : xs.length ≤ 100000) (q : ∀ p H', Sep H0 ft H' ((2, p, .tup xs) :: l) → Q (.ref p) H') : rTup xs H Q := ⟨Nat.le_trans hl (by decide), x_new S _ q⟩
theorem x_dnew (S : Sep H0 ft H l) (q : ∀ p H', Sep H0 ft H' ((2, p, .dK []) :: l) → Q (.ref p) H') : tDNewK σ H Q := x_new S _ q
def rListOf (K : PySem.W.Frag) : List V → Hp → VK → Prop := fun xs H Q => ∃ p ys, xs = [.ref p] ∧ (SqL K H p ys ∨ SqT K H p ys) ∧ ∀ l, H l = none → Q (.ref l) (upd H l (.lst ys))
theorem cl_list {X : Cx} : CallR X (.type "list") (rListOf X.K) := call_list_of
theorem x_listS {xs : List V} (S : Sep H0 ft H l) (hs : SqL K H p xs) (q : ∀ r H', Sep H0 ft H' ((2, r, .lst xs) :: l) → Q (.ref r) H') : rListOf K [.ref p] H Q := ⟨p, xs, rfl, .inl hs, x_new S _ q⟩
/-- isinstance -/
theorem x_isi {A B : String} {b : Bool} (ty : TyX K H x (.type A)) (h : kitB A B = some b) (q : Q (.bl b) H) : rIsi K [x, .ty B] H Q := ⟨x, .ty B, .type A, .type B, b, rfl, .ty B, ty, kit_ty h, q⟩
theorem cl_isiK {X : Cx} (K : PySem.W.Frag) (h : X.K = K := by rfl) : CallR X (.builtin "isinstance") (rIsi K) := by subst h; exact call_isi
theorem ty_int : TyX K H (.int i) (.type "int") := .base (.int i)
theorem ty_bl {b : Bool} : TyX K H (.bl b) (.type "bool") := .base (.bl b)
theorem ty_str {z : Str} : TyX K H (.str z) (.type "str") := .base (.str z)
theorem ty_non : TyX K H .non (.type "NoneType") := .base .non
theorem ty_tup {xs : List V} (S : Sep H0 ft H l) (n : Nat) (h : l[n]? = some (t, p, .tup xs)) : TyX K H (.ref p) (.type "tuple") := .base (.tup (S.get n h))
theorem ty_lst {xs : List V} (S : Sep H0 ft H l) (n : Nat) (h : l[n]? = some (t, p, .lst xs)) : TyX K H (.ref p) (.type "list") := .base (.lst (S.get n h))
theorem ty_dK {kvs : List (Key × V)} (S : Sep H0 ft H l) (n : Nat) (h : l[n]? = some (t, p, .dK kvs)) : TyX K H (.ref p) (.type "dict") := .base (.dK (S.get n h))
theorem ki_int_int : kitB "int" "int" = some true := by decide +kernel
theorem ki_int_bool : kitB "int" "bool" = some false := by decide +kernel
theorem ki_int_str : kitB "int" "str" = some false := by decide +kernel
theorem ki_int_tuple : kitB "int" "tuple" = some false := by decide +kernel
theorem ki_bool_bool : kitB "bool" "bool" = some true := by decide +kernel
theorem ki_bool_int : kitB "bool" "int" = some true := by decide +kernel
theorem ki_tuple_tuple : kitB "tuple" "tuple" = some true := by decide +kernel
theorem ki_list_list : kitB "list" "list" = some true := by decide +kernel
theorem ki_dict_dict : kitB "dict" "dict" = some true := by decide +kernel
theorem ki_str_str : kitB "str" "str" = some true := by decide +kernel
theorem ki_str_int : kitB "str" "int" = some false := by decide +kernel
theorem ki_NoneType_int : kitB "NoneType" "int" = some false := by decide +kernel
/-! the rules over the written part K, said -/
section
variable {X : Cx} {e : Expr} {tl : TE} {tg : Expr} {f : Str} {pos : Pos}
theorem cl_lenK (K : PySem.W.Frag) (h : X.K = K := by rfl) : CallR X (.builtin "len") (rLen K) := by subst h; exact cl_len
theorem cl_listK (K : PySem.W.Frag) (h : X.K = K := by rfl) : CallR X (.type "list") (rListOf K) := by subst h; exact cl_list
theorem ix_listK (K : PySem.W.Frag) (h : X.K = K := by rfl) : IxR X (rIxL K) := by subst h; exact ix_list
theorem ix_tupK (K : PySem.W.Frag) (h : X.K = K := by rfl) : IxR X (rIxT K) := by subst h; exact ix_tup
theorem sl_listK (K : PySem.W.Frag) (h : X.K = K := by rfl) : SlR X (rSlL K) := by subst h; exact sl_list
theorem sl_tupK (K : PySem.W.Frag) (h : X.K = K := by rfl) : SlR X (rSlT K) := by subst h; exact sl_tup
theorem op_eqDK (K : PySem.W.Frag) (hu : X.A.units + 64 < cLine) (h : X.K = K := by rfl) : OpR X (compareOp .Eq) (rEqD K) := by subst h; exact op_eqD hu
theorem op_neDK (K : PySem.W.Frag) (hu : X.A.units + 64 < cLine) (h : X.K = K := by rfl) : OpR X (compareOp .NotEq) (rNeD K) := by subst h; exact op_neD hu
theorem pe_fldK (K : PySem.W.Frag) (he : PE X e tl) (hb : attributeBase e f X.env (eval e X.env) = eval e X.env := by rfl) (h : X.K = K := by rfl) : PE X (.Attribute e f pos) (tUn (rFld K f) tl) := by subst h; exact pe_fld1 he hb
theorem pi_listK (K : PySem.W.Frag) (he : PE X e tl) (h : X.K = K := by rfl) : PI X tg e (iList1 K tl) := by subst h; exact pi_list1 he
theorem pi_tupK (K : PySem.W.Frag) (he : PE X e tl) (h : X.K = K := by rfl) : PI X tg e (iTup1 K tl) := by subst h; exact pi_tup1 he
end
theorem x_ilist {xs : List V} {R : It → Hp → Prop} (S : Sep H0 ft H l) (n : Nat) (h : l[n]? = some (t, p, .lst xs)) (q : R (Itl K p) H) : rIL K (.ref p) H R := ⟨p, rfl, ⟨xs, S.sl n h⟩, q⟩
theorem x_itup {xs : List V} {R : It → Hp → Prop} (S : Sep H0 ft H l) (n : Nat) (h : l[n]? = some (t, p, .tup xs)) (q : R (Itt K p) H) : rIT K (.ref p) H R := ⟨p, rfl, ⟨xs, S.st n h⟩, q⟩
/-- dicts -/
theorem x_din {kvs : List (Key × V)} {k : Key} (S : Sep H0 ft H l) (n : Nat) (h : l[n]? = some (t, p, .dK kvs)) (q : Q (.bl (valV kvs k).isSome) H) : rDIn (kV k) (.ref p) H Q := ⟨p, _, rfl, DGet.k (S.get n h), q⟩
theorem x_dni {kvs : List (Key × V)} {k : Key} (S : Sep H0 ft H l) (n : Nat) (h : l[n]? = some (t, p, .dK kvs)) (q : Q (.bl (!(valV kvs k).isSome)) H) : rDNi (kV k) (.ref p) H Q := ⟨p, _, rfl, DGet.k (S.get n h), q⟩
theorem x_dget {kvs : List (Key × V)} {k : Key} (S : Sep H0 ft H l) (n : Nat) (h : l[n]? = some (t, p, .dK kvs)) (hv : valV kvs k = some v) (q : Q v H) : rDGet (.ref p) (kV k) H Q := ⟨p, v, rfl, by rw [← hv]; exact DGet.k (S.get n h), q⟩
theorem x_dput {kvs : List (Key × V)} {k : Key} {R : Hp → Prop} (S : Sep H0 ft H l) (n : Nat) (h : l[n]? = some (t, p, .dK kvs)) (hl : kvs.length < 100000) (q : ∀ H', Sep H0 ft H' (l.set n (t, p, .dK (putK kvs k v))) → R H')
    (ht : t = 1 ∨ t = 2 := by first | exact .inl rfl | exact .inr rfl) : rDPut (.ref p) (kV k) v H R := ⟨p, _, rfl, DPut.k (S.get n h) (Nat.lt_of_lt_of_le hl (by decide)), q _ (S.put n _ h ht)⟩
theorem x_isD {kvs : List (Key × V)} {R : Addr → Prop} (S : Sep H0 ft H l) (n : Nat) (h : l[n]? = some (t, p, .dK kvs)) (q : R p) : rIsD (.ref p) H R := ⟨p, rfl, .inl ⟨_, .inl (S.get n h)⟩, q⟩
theorem x_dpop {kvs : List (Key × V)} {k : Key} (S : Sep H0 ft H l) (n : Nat) (h : l[n]? = some (t, p, .dK kvs)) (hv : valV kvs k = some v) (q : ∀ H', Sep H0 ft H' (l.set n (t, p, .dK (dropK kvs k))) → Q v H')
    (ht : t = 1 ∨ t = 2 := by first | exact .inl rfl | exact .inr rfl) : rDPop p (kV k) H Q := ⟨kvs, k, v, S.get n h, rfl, hv, q _ (S.put n _ h ht)⟩
/-- fields -/
theorem x_fld {C dx : Addr} {fs : List (Str × V)} {f : Str} (S : Sep H0 ft H l) (n : Nat) (h : l[n]? = some (t, p, .ins C dx fs)) (c : Cls K C) (na : NoAttr K C f) (hf : fs.lookup f = some v) (q : Q v H) : rFld K f (.ref p) H Q := ⟨p, C, dx, fs, v, rfl, S.get n h, c, na, hf, q⟩
theorem x_fldA {C dx : Addr} {fs : List (Str × V)} {f : Str} {R : Addr → Addr → V → Prop} (S : Sep H0 ft H l) (n : Nat) (h : l[n]? = some (t, p, .ins C dx fs)) (c : Cls K C) (na : NoAttr K C f) (hf : fs.lookup f = some v) (q : R p C v) : rFldA K f (.ref p) H R := ⟨p, C, dx, fs, v, rfl, S.get n h, c, na, hf, q⟩
theorem x_sfld {C dx : Addr} {fs fs' : List (Str × V)} {f : Str} {R : Hp → Prop} (S : Sep H0 ft H l) (n : Nat) (h : l[n]? = some (t, p, .ins C dx fs)) (c : Cls K C) (na : NoAttr K C f) (e : putF f v fs = fs') (hl : fs.length < 1000) (q : ∀ H', Sep H0 ft H' (l.set n (t, p, .ins C dx fs')) → R H')
    (ht : t = 1 ∨ t = 2 := by first | exact .inl rfl | exact .inr rfl) : rSFld K f (.ref p) v H R :=
  ⟨p, C, dx, fs, rfl, S.get n h, c, na, hl, by rw [e]; exact q _ (S.put n _ h ht)⟩
theorem x_augf {C dx : Addr} {fs fs' : List (Str × V)} {f : Str} {R : Hp → Prop} (S : Sep H0 ft H l) (n : Nat) (h : l[n]? = some (t, p, .ins C dx fs)) (e : putF f v fs = fs') (hl : fs.length < 1000) (q : ∀ H', Sep H0 ft H' (l.set n (t, p, .ins C dx fs')) → R H')
    (ht : t = 1 ∨ t = 2 := by first | exact .inl rfl | exact .inr rfl) : rPutA f p C v H R :=
  ⟨dx, fs, S.get n h, hl, by rw [e]; exact q _ (S.put n _ h ht)⟩
theorem x_meth {C dx : Addr} {fs : List (Str × V)} {m : Str} {R : Prop} (S : Sep H0 ft H l) (n : Nat) (h : l[n]? = some (t, p, .ins C dx fs)) (hl : fs.lookup m = none) (q : R) : rMe C m (.ref p) H R := ⟨p, dx, fs, rfl, S.get n h, hl, q⟩
theorem x_add (q : Q (.int (i + j)) H) : rAdd (.int i) (.int j) H Q := ⟨i, j, rfl, rfl, q⟩
theorem x_sub (q : Q (.int (i - j)) H) : rSub (.int i) (.int j) H Q := ⟨i, j, rfl, rfl, q⟩
/-- lists' methods -/
theorem x_app {xs : List V} (S : Sep H0 ft H l) (n : Nat) (h : l[n]? = some (t, p, .lst xs)) (hl : xs.length < 100000) (q : ∀ H', Sep H0 ft H' (l.set n (t, p, .lst (xs ++ [v]))) → Q .non H') (ht : t = 1 ∨ t = 2 := by first | exact .inl rfl | exact .inr rfl) :
    rAppend (.ref p) [v] H Q := ⟨p, xs, v, rfl, rfl, S.get n h, Nat.lt_of_lt_of_le hl (by decide), q _ (S.put n _ h ht)⟩
theorem x_ty {xs : List V} (S : Sep H0 ft H l) (n : Nat) (h : l[n]? = some (t, p, .lst xs)) : tyV K "list" (.ref p) H := .inl ⟨rfl, xs, S.sl n h⟩
def rInsert : V → List V → Hp → VK → Prop := fun x vs H Q => ∃ (l : Addr) (xs : List V) (i : Int) (y : V), x = .ref l ∧ vs = [.int i, y] ∧ H l = some (.lst xs) ∧ xs.length < sizeLine ∧ 0 ≤ i ∧ i < 2 ^ 63 ∧ Q .non (upd H l (.lst (xs.take i.toNat ++ [y] ++ xs.drop i.toNat)))
theorem mt_ins {X : Cx} : MtR X "list.insert" rInsert := mt_insert
theorem x_ins {xs : List V} (S : Sep H0 ft H l) (n : Nat) (h : l[n]? = some (t, p, .lst xs)) (hl : xs.length < 100000) (h0 : 0 ≤ i) (h1 : i < 2 ^ 63) (q : ∀ H', Sep H0 ft H' (l.set n (t, p, .lst (xs.take i.toNat ++ [v] ++ xs.drop i.toNat))) → Q .non H')
    (ht : t = 1 ∨ t = 2 := by first | exact .inl rfl | exact .inr rfl) : rInsert (.ref p) [.int i, v] H Q := ⟨p, xs, i, v, rfl, rfl, S.get n h, Nat.lt_of_lt_of_le hl (by decide), h0, h1, q _ (S.put n _ h ht)⟩
/-- a list of ints with one put in -/
def insAt {α : Type} (ys : List α) (i : Int) (v : α) : List α := ys.take i.toNat ++ [v] ++ ys.drop i.toNat
theorem mem_insAt {α : Type} {ys : List α} {i : Int} {v x : α} : x ∈ insAt ys i v ↔ x = v ∨ x ∈ ys := by
  unfold insAt
  rw [List.append_assoc, List.mem_append, List.mem_append, List.mem_singleton]
  constructor
  · rintro (h | h | h)
    · exact .inr (List.mem_of_mem_take h)
    · exact .inl h
    · exact .inr (List.mem_of_mem_drop h)
  · rintro (h | h)
    · exact .inr (.inl h)
    · rw [← List.take_append_drop i.toNat ys] at h
      rcases List.mem_append.mp h with h | h
      · exact .inl h
      · exact .inr (.inr h)
theorem len_insAt {α : Type} {ys : List α} {i : Int} {v : α} : (insAt ys i v).length = ys.length + 1 := by
  unfold insAt
  rw [List.length_append, List.length_append, List.length_take, List.length_drop, List.length_singleton]
  omega
theorem insAt_map {α : Type} (f : α → V) (ys : List α) (i : Int) (v : α) : (ys.map f).take i.toNat ++ [f v] ++ (ys.map f).drop i.toNat = (insAt ys i v).map f := by
  unfold insAt
  rw [List.map_append, List.map_append, List.map_take, List.map_drop, List.map_singleton]
theorem x_insI {cs : List Int} (S : Sep H0 ft H l) (n : Nat) (h : l[n]? = some (t, p, .lst (cs.map V.int))) (hl : cs.length < 100000) (h0 : 0 ≤ i) (h1 : i < 2 ^ 63) (q : ∀ H', Sep H0 ft H' (l.set n (t, p, .lst ((insAt cs i j).map V.int))) → Q .non H')
    (ht : t = 1 ∨ t = 2 := by first | exact .inl rfl | exact .inr rfl) : rInsert (.ref p) [.int i, .int j] H Q := by
  refine x_ins S n h (by rw [List.length_map]; exact hl) h0 h1 (fun H' S' => q H' ?_) ht
  rw [insAt_map] at S'
  exact S'
/-- data compared -/
theorem dp_ints {ns : List Int} : DpAll K H (ns.map V.int) (ns.map PyData.int) := by
  induction ns with
  | nil => exact .nil
  | cons n r ih => exact .cons (.int n) ih
theorem lay_ints : ∀ ns : List Int, PyData.canLayAll0 (ns.map PyData.int) = true
  | [] => rfl
  | n :: r => lay_ints r
theorem dep_ints : ∀ ns : List Int, PyData.depthAll (ns.map PyData.int) = 0
  | [] => rfl
  | n :: r => by rw [List.map_cons, PyData.depthAll, dep_ints r]; rfl
theorem sh_list (ns : List Int) : SeqAt.shaped (.list (ns.map PyData.int)) = true := by
  unfold SeqAt.shaped
  rw [show PyData.canLay0 (.list (ns.map PyData.int)) = true from lay_ints ns, PyData.depth, dep_ints]
  rfl
theorem sh_tup (ns : List Int) : SeqAt.shaped (.tuple (ns.map PyData.int)) = true := by
  unfold SeqAt.shaped
  rw [show PyData.canLay0 (.tuple (ns.map PyData.int)) = true from lay_ints ns, PyData.depth, dep_ints]
  rfl
theorem eqv_list (ns ms : List Int) : PyData.eqv (.list (ns.map PyData.int)) (.list (ms.map PyData.int)) = decide (ns = ms) := PySem.W.Datum.eqv (α := List Int) ns ms
theorem eqv_tup (ns ms : List Int) : PyData.eqv (.tuple (ns.map PyData.int)) (.tuple (ms.map PyData.int)) = decide (ns = ms) := by
  have := PySem.W.Datum.eqv (α := PySem.W.Tup Int) ⟨ns⟩ ⟨ms⟩
  rw [show PyData.eqv (.tuple (ns.map PyData.int)) (.tuple (ms.map PyData.int)) = decide ((⟨ns⟩ : PySem.W.Tup Int) = ⟨ms⟩) from this]
  exact decide_eq_decide.mpr ⟨fun e => congrArg PySem.W.Tup.items e, fun e => by rw [e]⟩
theorem x_neSq {q : Addr} {xs ys : List Int} (hx : SqL K H p (xs.map V.int)) (hy : SqL K H q (ys.map V.int)) (k : Q (.bl (!decide (xs = ys))) H) : rNeD K (.ref p) (.ref q) H Q :=
  ⟨_, _, .lst hx dp_ints, .lst hy dp_ints, sh_list xs, sh_list ys, by rw [eqv_list]; exact k⟩
theorem x_neL {q : Addr} {xs ys : List Int} {t' : Nat} (S : Sep H0 ft H l) (n m : Nat) (h : l[n]? = some (t, p, .lst (xs.map V.int))) (h' : l[m]? = some (t', q, .lst (ys.map V.int))) (k : Q (.bl (!decide (xs = ys))) H) : rNeD K (.ref p) (.ref q) H Q :=
  x_neSq (S.sl n h) (S.sl m h') k
theorem x_eqP {q : Addr} {a b c d : Int} {t' : Nat} (S : Sep H0 ft H l) (n m : Nat) (h : l[n]? = some (t, p, .tup [.int a, .int b])) (h' : l[m]? = some (t', q, .tup [.int c, .int d])) (k : Q (.bl (decide (([a, b] : List Int) = [c, d]))) H) : rEqD K (.ref p) (.ref q) H Q :=
  ⟨_, _, .tup (S.st n h) (dp_ints (ns := [a, b])), .tup (S.st m h') (dp_ints (ns := [c, d])), sh_tup _, sh_tup _, by rw [eqv_tup]; exact k⟩
theorem x_neP {q : Addr} {a b c d : Int} {t' : Nat} (S : Sep H0 ft H l) (n m : Nat) (h : l[n]? = some (t, p, .tup [.int a, .int b])) (h' : l[m]? = some (t', q, .tup [.int c, .int d])) (k : Q (.bl (!decide (([a, b] : List Int) = [c, d]))) H) : rNeD K (.ref p) (.ref q) H Q :=
  ⟨_, _, .tup (S.st n h) (dp_ints (ns := [a, b])), .tup (S.st m h') (dp_ints (ns := [c, d])), sh_tup _, sh_tup _, by rw [eqv_tup]; exact k⟩
end
/-! ### defs as facts -/
structure Cal (P : Program) (w : World) (K : PySem.W.Frag) (mg : Str → Option Value) (base : Heap) (CX : CXT) (k : Nat) (x : Str) (sp : Sp) : Prop where
  ex : ∃ (f : Addr) (fd : FuncData) (ps : List Str), FnOk P w K mg base CX k f fd ps sp ∧ mg x = some (.ref f) ∧ PySem.W.keepIn K (.ref f) = true ∧ Binds K fd ps []
structure Met (P : Program) (w : World) (K : PySem.W.Frag) (mg : Str → Option Value) (base : Heap) (CX : CXT) (k : Nat) (C : Addr) (m : Str) (sp : Sp) : Prop where
  ex : ∃ (f : Addr) (fd : FuncData) (ps : List Str), Cls K C ∧ L2.Meth K C m f ∧ FnOk P w K mg base CX k f fd ps sp ∧ Binds K fd ps []
/-- C(k = v, ..): all keyword-only, no other parameters -/
structure MakK (P : Program) (w : World) (K : PySem.W.Frag) (mg : Str → Option Value) (base : Heap) (CX : CXT) (k : Nat) (x : Str) (C : Addr) (ks : List Str) (sp : Sp) : Prop where
  ex : ∃ (f : Addr) (fd : FuncData) (ps : List Str) (g : List Value → List Value → List Value), Mk K C f ∧ FnOk P w K mg base CX k f fd ps sp ∧ mg x = some (.ref C) ∧ KBn K fd ps 1 ks g (fun vs zs => vs ++ zs)
section
variable {X : Cx} {CX : CXT} {k j : Nat} {C : Addr} {x m : Str} {sp : Sp} {E : XK} {p pos apos : Pos} {e o : Expr} {es : List Expr} {kws : List Keyword} {ks : List Str} {ta : TE} {t tk : TA}
theorem pe_c (c : Cal X.prog X.w X.K X.mg X.base CX k x sp) (hr : Room j X.A) (hk : k ≤ j) (hg : Gl X x) (hx : Passes CX X E) (ha : PA X (e :: es) t)
    (hdb : (x == ("__debug__" : Str)) = false := by decide) (he : starEach (e :: es) X.env = (false, eval e X.env) :: starEach es X.env := by rfl) (hpl : (backTo pos (starEach es X.env)).any (·.1) = false := by rfl) :
    PE X (.Call (.Name x p) (e :: es) [] pos) (tCall sp [] E t) := by
  obtain ⟨f, fd, ps, F, hm, kp, b⟩ := c.ex
  exact pe_call F (hr.mono hk) hg hm kp b .nil hx ha hdb he hpl
theorem pe_mt {pl : Sem Bool} (c : Met X.prog X.w X.K X.mg X.base CX k C m sp) (hr : Room j X.A) (hk : k ≤ j) (hx : Passes CX X E) (he : PE X o ta) (ha : PA X (e :: es) t)
    (hst : starEach (e :: es) X.env = (false, eval e X.env) :: starEach es X.env := by rfl) (hpl : (backTo pos (starEach es X.env)).any (·.1) = false := by rfl)
    (ht : eval (.Call (.Attribute o m apos) (e :: es) [] pos) X.env = (do
      let ov ← eval o X.env
      standAt apos.atName
      let (f, first) ← holding [ov] (getMethod ov m pl)
      callWith pos f first (backTo pos (starEach (e :: es) X.env)) (backToKw pos (keywordEach [] X.env))) := by rfl) :
    PE X (.Call (.Attribute o m apos) (e :: es) [] pos) (tMeth1 C m sp [] E ta t) := by
  obtain ⟨f, fd, ps, hc, hm, F, b⟩ := c.ex
  exact pe_meth (pl := pl) he hc hm F (hr.mono hk) b .nil hx ha hst hpl ht
theorem pe_mt0 {pl : Sem Bool} (c : Met X.prog X.w X.K X.mg X.base CX k C m sp) (hr : Room j X.A) (hk : k ≤ j) (hx : Passes CX X E) (he : PE X o ta)
    (ht : eval (.Call (.Attribute o m apos) [] [] pos) X.env = (do
      let ov ← eval o X.env
      standAt apos.atName
      let (f, first) ← holding [ov] (getMethod ov m pl)
      callWith pos f first (backTo pos (starEach [] X.env)) (backToKw pos (keywordEach [] X.env))) := by rfl) :
    PE X (.Call (.Attribute o m apos) [] [] pos) (tMeth1 C m sp [] E ta tNil) := by
  obtain ⟨f, fd, ps, hc, hm, F, b⟩ := c.ex
  exact pe_meth0 (pl := pl) he hc hm F (hr.mono hk) b .nil hx ht
def rMkK (C : Addr) (n m : Nat) (sp : Sp) (gV : List V → List V → List V) (E : XK) : List V → List V → Hp → VK → Prop := fun vs zs H Q => vs.length = n ∧ zs.length = m ∧ ∀ x dx, H x = none → H dx = none → dx ≠ x →
  sp (gV (.ref x :: vs) zs) (upd (upd H dx (.own x)) x (.ins C dx [])) (fun v H3 => v = .non ∧ Q (.ref x) H3) E
def tMakeK1 (C : Addr) (n m : Nat) (sp : Sp) (gV : List V → List V → List V) (E : XK) (t tk : TA) : TE := fun σ H Q => t σ H fun vs H1 => tk σ H1 fun zs H2 => rMkK C n m sp gV E vs zs H2 Q
theorem pe_mkK (c : MakK X.prog X.w X.K X.mg X.base CX k x C ks sp) (hr : Room j X.A) (hk : k + 1 ≤ j) (hg : Gl X x) (hx : Passes CX X E) (hkw : PK X kws tk)
    (hall : (backToKw pos (keywordEach kws X.env)).all (·.1.isSome) = true := by rfl) (hks : (backToKw pos (keywordEach kws X.env)).filterMap (·.1) = ks := by rfl) (hdb : (x == ("__debug__" : Str)) = false := by decide)
    (hpl : ((backTo pos (starEach [] X.env)).any (·.1) || (backToKw pos (keywordEach kws X.env)).any (·.1.isNone)) = false := by rfl) :
    PE X (.Call (.Name x p) [] kws pos) (tMakeK1 C 0 ks.length sp (fun vs zs => vs ++ zs) E tNil tk) := by
  obtain ⟨f, fd, ps, g, M, F, hm, b⟩ := c.ex
  exact pe_makeK0 M F (hr.mono hk) hg hm b hx hkw hall hks hdb hpl
end
/-! ### calls by keywords -/
/-- the keywords' values in the parameters' order -/
def kwp (is : List Nat) {α : Type} (ws : List α) : List α := is.filterMap (ws[·]?)
theorem kwp_vals : ∀ (is : List Nat) {zs : List V} {ws : List Value}, L2.Vals zs ws → L2.Vals (kwp is zs) (kwp is ws)
  | [], _, _, _ => .nil
  | i :: r, zs, ws, h => by
    unfold kwp
    cases e : zs[i]? with
    | none =>
      rw [List.filterMap_cons_none e, List.filterMap_cons_none (h.none_of e)]
      exact kwp_vals r h
    | some v =>
      obtain ⟨u, e2, rv⟩ := h.get e
      rw [List.filterMap_cons_some e, List.filterMap_cons_some e2]
      exact .cons rv (kwp_vals r h)
/-- o.m(k = v, ..) -/
structure MetK (P : Program) (w : World) (K : PySem.W.Frag) (mg : Str → Option Value) (base : Heap) (CX : CXT) (k : Nat) (C : Addr) (m : Str) (ks : List Str) (is : List Nat) (sp : Sp) : Prop where
  ex : ∃ (f : Addr) (fd : FuncData) (ps : List Str), Cls K C ∧ L2.Meth K C m f ∧ FnOk P w K mg base CX k f fd ps sp ∧ KBn K fd ps 1 ks (fun us ws => us ++ kwp is ws) (fun vs zs => vs ++ kwp is zs)
/-- f(k = v, ..) -/
structure CalK (P : Program) (w : World) (K : PySem.W.Frag) (mg : Str → Option Value) (base : Heap) (CX : CXT) (k : Nat) (x : Str) (ks : List Str) (is : List Nat) (sp : Sp) : Prop where
  ex : ∃ (f : Addr) (fd : FuncData) (ps : List Str), FnOk P w K mg base CX k f fd ps sp ∧ mg x = some (.ref f) ∧ PySem.W.keepIn K (.ref f) = true ∧ KBn K fd ps 0 ks (fun us ws => us ++ kwp is ws) (fun vs zs => vs ++ kwp is zs)
def tMethK1 (C : Addr) (m : Str) (n : Nat) (is : List Nat) (sp : Sp) (E : XK) (ta : TE) (tk : TA) : TE := fun σ H Q => ta σ H fun x H1 => rMe C m x H1 (tk σ H1 fun zs H2 => zs.length = n ∧ sp ([x] ++ kwp is zs) H2 Q E)
def tCallK1 (n : Nat) (is : List Nat) (sp : Sp) (E : XK) (tk : TA) : TE := fun σ H Q => tk σ H fun zs H2 => zs.length = n ∧ sp ([] ++ kwp is zs) H2 Q E
section
variable {X : Cx} {CX : CXT} {k j : Nat} {C : Addr} {x m : Str} {sp : Sp} {E : XK} {p pos apos : Pos} {e o : Expr} {kws : List Keyword} {ks : List Str} {is : List Nat} {ta : TE} {t tk : TA}
theorem pe_mtK {pl : Sem Bool} (c : MetK X.prog X.w X.K X.mg X.base CX k C m ks is sp) (hr : Room j X.A) (hk : k ≤ j) (hx : Passes CX X E) (he : PE X o ta) (hkw : PK X kws tk)
    (hall : (backToKw pos (keywordEach kws X.env)).all (·.1.isSome) = true := by rfl) (hks : (backToKw pos (keywordEach kws X.env)).filterMap (·.1) = ks := by rfl)
    (hpl : ((backTo pos (starEach [] X.env)).any (·.1) || (backToKw pos (keywordEach kws X.env)).any (·.1.isNone)) = false := by rfl)
    (ht : eval (.Call (.Attribute o m apos) [] kws pos) X.env = (do
      let ov ← eval o X.env
      standAt apos.atName
      let (f, first) ← holding [ov] (getMethod ov m pl)
      callWith pos f first (backTo pos (starEach [] X.env)) (backToKw pos (keywordEach kws X.env))) := by rfl) :
    PE X (.Call (.Attribute o m apos) [] kws pos) (tMethK1 C m ks.length is sp E ta tk) := by
  obtain ⟨f, fd, ps, c1, hm, F, b⟩ := c.ex
  refine ⟨fun pins s σ H Q I h => ?_⟩
  refine PySem.W.methodCall_KW (pl := pl) (thn (he.run pins s σ H _ I h) fun u s1 ⟨x, H1, I1, rx, a, dx, fs, ex, ea, l, q⟩ => ?_) ht
  subst ex
  obtain rfl : u = Value.ref a := rx
  refine getmeth_ok I1 ea c1 hm l ?_
  refine PySem.W.callWith_KW0 (first := [.ref a]) (h₀ := X.base) I.ok.mod.kin hm.kp hall (thn (hkw.run pos pins s1 σ H1 _ I1 q) fun ws s2 ⟨zs, H2, I2, rz, l2, q2⟩ => ⟨I2.kIn, ?_⟩) hpl
  rw [hks]
  exact run_fnN (us := [.ref a]) (vs := [.ref a]) F (hr.mono hk) b hx I2 (.cons rfl .nil) rz rfl l2 q2
theorem pe_ck (c : CalK X.prog X.w X.K X.mg X.base CX k x ks is sp) (hr : Room j X.A) (hk : k ≤ j) (hg : Gl X x) (hx : Passes CX X E) (hkw : PK X kws tk)
    (hall : (backToKw pos (keywordEach kws X.env)).all (·.1.isSome) = true := by rfl) (hks : (backToKw pos (keywordEach kws X.env)).filterMap (·.1) = ks := by rfl) (hdb : (x == ("__debug__" : Str)) = false := by decide)
    (hpl : ((backTo pos (starEach [] X.env)).any (·.1) || (backToKw pos (keywordEach kws X.env)).any (·.1.isNone)) = false := by rfl) :
    PE X (.Call (.Name x p) [] kws pos) (tCallK1 ks.length is sp E tk) := by
  obtain ⟨f, fd, ps, F, hm, kp, b⟩ := c.ex
  refine ⟨fun pins s σ H Q I h => ?_⟩
  refine wpAny_Call_Name_kw (ld_glob I hg hm ?_ hdb)
  refine PySem.W.callWith_KW0 (h₀ := X.base) I.ok.mod.kin kp hall (thn (hkw.run pos pins s σ H _ I h) fun ws s2 ⟨zs, H2, I2, rz, l2, q2⟩ => ⟨I2.kIn, ?_⟩) hpl
  rw [hks]
  exact run_fnN (us := []) (vs := []) F (hr.mono hk) b hx I2 .nil rz rfl l2 q2
end
/-- C(): every keyword-only parameter by its default -/
structure MakD (P : Program) (w : World) (K : PySem.W.Frag) (mg : Str → Option Value) (base : Heap) (CX : CXT) (k : Nat) (x : Str) (C : Addr) (dvs : List V) (sp : Sp) : Prop where
  ex : ∃ (f : Addr) (fd : FuncData) (ps : List Str) (ds : List Value), Mk K C f ∧ FnOk P w K mg base CX k f fd ps sp ∧ mg x = some (.ref C) ∧ Binds K fd ps ds ∧ L2.Vals dvs ds
def rMk0 (C : Addr) (sp : Sp) (dvs : List V) (E : XK) : Hp → VK → Prop := fun H Q => ∀ x dx, H x = none → H dx = none → dx ≠ x → sp (.ref x :: ([] ++ dvs)) (upd (upd H dx (.own x)) x (.ins C dx [])) (fun v H2 => v = .non ∧ Q (.ref x) H2) E
def tMk0 (C : Addr) (sp : Sp) (dvs : List V) (E : XK) : TE := fun _ H Q => rMk0 C sp dvs E H Q
theorem pe_mkD {X : Cx} {CX : CXT} {k j : Nat} {C : Addr} {x : Str} {sp : Sp} {E : XK} {p pos : Pos} {dvs : List V} (c : MakD X.prog X.w X.K X.mg X.base CX k x C dvs sp) (hr : Room j X.A) (hk : k + 1 ≤ j) (hg : Gl X x) (hx : Passes CX X E) (hdb : (x == ("__debug__" : Str)) = false := by decide) :
    PE X (.Call (.Name x p) [] [] pos) (tMk0 C sp dvs E) := by
  obtain ⟨f, fd, ps, ds, M, F, hm, b, d⟩ := c.ex
  exact pe_make0 M F (hr.mono hk) hg hm b d hx hdb
section
variable {H0 H : Hp} {ft : List Addr} {l : List Cell} {t : Nat} {a p C : Addr} {o : HO} {c : Cell}
theorem Sep.drop1 (S : Sep H0 ft H (c :: l)) : Sep H0 ft H l :=
  ⟨(List.nodup_cons.mp S.nd).2, fun d h => S.rd d (List.mem_cons_of_mem _ h), S.fr, fun d h => S.wr d (List.mem_cons_of_mem _ h), fun d h => S.nw d (List.mem_cons_of_mem _ h), S.ex⟩
theorem Sep.drop2 {d : Cell} (S : Sep H0 ft H (d :: c :: l)) : Sep H0 ft H (d :: l) := by
  obtain ⟨n1, n2⟩ := List.nodup_cons.mp S.nd
  exact ⟨List.nodup_cons.mpr ⟨fun h => n1 (List.mem_cons_of_mem _ h), (List.nodup_cons.mp n2).2⟩, fun e h => S.rd e ((List.mem_cons.mp h).elim (fun z => z ▸ List.mem_cons_self) fun h => List.mem_cons_of_mem _ (List.mem_cons_of_mem _ h)), S.fr,
    fun e h => S.wr e ((List.mem_cons.mp h).elim (fun z => z ▸ List.mem_cons_self) fun h => List.mem_cons_of_mem _ (List.mem_cons_of_mem _ h)),
    fun e h => S.nw e ((List.mem_cons.mp h).elim (fun z => z ▸ List.mem_cons_self) fun h => List.mem_cons_of_mem _ (List.mem_cons_of_mem _ h)), S.ex⟩
/-- a new instance, ahead of its __init__ -/
theorem Sep.made {x dx : Addr} (S : Sep H0 ft H l) (hx : H x = none) (hd : H dx = none) (n : dx ≠ x) : Sep H0 ft (upd (upd H dx (.own x)) x (.ins C dx [])) ((2, x, .ins C dx []) :: l) :=
  ((S.new hd (.own x)).new (by rw [upd_ne n.symm]; exact hx) (.ins C dx [])).drop2
/-- a new cell that a call has laid -/
theorem Sep.got {H' : Hp} {l' : List Cell} (S : Sep H0 ft H l) (S' : Sep H0 ft H' l') (e : l'.map (·.2.1) = l.map (·.2.1)) (hn : H p = none) (hp : H' p = some o) : Sep H0 ft H' ((2, p, o) :: l') := by
  refine S'.add 2 hp (fun c hc z => ?_) (fun e => by cases e) fun _ => S.none0 hn
  have : c.2.1 ∈ l.map (·.2.1) := by rw [← e]; exact List.mem_map.mpr ⟨c, hc, rfl⟩
  obtain ⟨d, hd, ed⟩ := List.mem_map.mp this
  have := S.rd d hd
  rw [ed, z, hn] at this; cases this
theorem map_set {i : Nat} {o' : HO} (h : l[i]? = some (t, a, o)) : (l.set i (t, a, o')).map (·.2.1) = l.map (·.2.1) := by
  rw [List.map_set]
  have : (l.map (·.2.1))[i]? = some a := by rw [List.getElem?_map, h]; rfl
  obtain ⟨x, e⟩ := List.getElem?_eq_some_iff.mp this
  rw [← e]
  exact List.set_getElem_self x
end
/-- tests -/
theorem ited {p A B : Prop} [Decidable p] (h1 : p → A) (h2 : ¬ p → B) : if decide p = true then A else B := by
  by_cases h : p
  · rw [decide_eq_true h, if_pos rfl]; exact h1 h
  · rw [decide_eq_false h, if_neg Bool.false_ne_true]; exact h2 h
theorem itend {p A B : Prop} [Decidable p] (h1 : ¬ p → A) (h2 : p → B) : if (!decide p) = true then A else B := by
  by_cases h : p
  · rw [decide_eq_true h]; exact h2 h
  · rw [decide_eq_false h]; exact h1 h
theorem iteq {i j : Int} {A B : Prop} (h1 : i = j → A) (h2 : i ≠ j → B) : if decide (V.int i = V.int j) = true then A else B := ited (fun h => h1 (V.int.inj h)) fun h => h2 fun e => h (by rw [e])
theorem itne {i j : Int} {A B : Prop} (h1 : i ≠ j → A) (h2 : i = j → B) : if (!decide (V.int i = V.int j)) = true then A else B := itend (fun h => h1 fun e => h (by rw [e])) fun h => h2 (V.int.inj h)
theorem iteb {b : Bool} {A B : Prop} (h1 : b = true → A) (h2 : b = false → B) : if b = true then A else B := by
  cases b with
  | true => rw [if_pos rfl]; exact h1 rfl
  | false => rw [if_neg Bool.false_ne_true]; exact h2 rfl
theorem itnb {b : Bool} {A B : Prop} (h1 : b = false → A) (h2 : b = true → B) : if (!b) = true then A else B := by
  cases b with
  | true => exact ite2 (fun h => nomatch h) fun _ => h2 rfl
  | false => exact ite2 (fun _ => h1 rfl) fun h => absurd rfl h
theorem itnn {b : Bool} {A B : Prop} (h : if b = true then A else B) : if (!(!b)) = true then A else B := by rw [Bool.not_not]; exact h
theorem iteSome {v : Option V} {A B : Prop} (h1 : ∀ w, v = some w → A) (h2 : v = none → B) : if v.isSome = true then A else B := by
  cases v with
  | none => exact ite2 (fun h => nomatch h) fun _ => h2 rfl
  | some w => exact ite2 (fun _ => h1 w rfl) fun h => absurd rfl h
theorem iteNone {v : Option V} {A B : Prop} (h1 : v = none → A) (h2 : ∀ w, v = some w → B) : if (!v.isSome) = true then A else B := by
  cases v with
  | none => exact ite2 (fun _ => h1 rfl) fun h => absurd rfl h
  | some w => exact ite2 (fun h => nomatch h) fun _ => h2 w rfl
theorem mul_bd {a b A B : Int} (h0 : 0 ≤ a) (h1 : a < A) (h2 : 0 ≤ b) (h3 : b < B) : 0 ≤ a * b ∧ a * b < A * B :=
  ⟨Int.mul_nonneg h0 h2, Int.lt_of_le_of_lt (Int.mul_le_mul_of_nonneg_left (Int.le_of_lt h3) h0) (Int.mul_lt_mul_of_pos_right h1 (by omega))⟩
theorem pos_lt {x y : Int} (h : 0 < x) : y % x < x := Int.emod_lt_of_pos y h
theorem mod_nn {x y : Int} (h : 0 < x) : 0 ≤ y % x := Int.emod_nonneg y (by omega)
/-! ### calls that change several cells -/
section
variable {H0 H H' : Hp} {ft ft' : List Addr} {l l' : List Cell}
/-- the cells ahead of a call, tagged anew -/
theorem Sep.retag (S : Sep H0 ft H l) (e : l'.map (·.2) = l.map (·.2)) (h1 : ∀ c ∈ l', c.1 = 1 → c.2.1 ∈ ft') (h2 : ∀ c ∈ l', c.1 ≠ 2) (h3 : ∀ b ∈ ft', b ∈ l'.map (·.2.1)) : Sep H ft' H l' := by
  have em : l'.map (·.2.1) = l.map (·.2.1) := by
    have := congrArg (List.map Prod.fst) e
    rw [List.map_map, List.map_map] at this
    exact this
  have rd : ∀ c ∈ l', H c.2.1 = some c.2.2 := fun c hc => by
    have : c.2 ∈ l.map (·.2) := by rw [← e]; exact List.mem_map.mpr ⟨c, hc, rfl⟩
    obtain ⟨d, hd, ed⟩ := List.mem_map.mp this
    have := S.rd d hd
    rw [ed] at this
    exact this
  refine ⟨by rw [em]; exact S.nd, rd, fun _ _ h _ => h, h1, fun c hc z => absurd z (h2 c hc), fun b hb => ?_⟩
  obtain ⟨c, hc, rfl⟩ := List.mem_map.mp (h3 b hb)
  exact ⟨_, rd c hc⟩
/-- the cells that a call is given: (tag, index) -/
def preL (l : List Cell) (is : List (Nat × Nat)) : List Cell := is.filterMap fun u => l[u.2]?.map fun c => (u.1, c.2)
theorem Sep.pre (S : Sep H0 ft H l) (is : List (Nat × Nat)) (hn : (is.map (·.2)).Nodup := by decide) (ht : (is.all fun u => decide (u.1 ≤ 1)) = true := by decide) : Sep H (((preL l is).filter (·.1 = 1)).map (·.2.1)) H (preL l is) := by
  refine (S.sub (is.map (·.2)) hn).retag ?_ ?_ ?_ ?_
  · unfold preL
    rw [List.map_filterMap, List.map_filterMap, List.filterMap_map]
    congr 1
    funext u
    show Option.map _ (Option.map _ l[u.2]?) = Option.map _ l[u.2]?
    cases l[u.2]? <;> rfl
  · intro c hc e
    exact List.mem_map.mpr ⟨c, List.mem_filter.mpr ⟨hc, decide_eq_true e⟩, rfl⟩
  · intro c hc e
    obtain ⟨u, hu, eu⟩ := List.mem_filterMap.mp hc
    obtain ⟨d, _, rfl⟩ := Option.map_eq_some_iff.mp eu
    have := of_decide_eq_true (List.all_eq_true.mp ht u hu)
    have e : u.1 = 2 := e
    omega
  · intro b hb
    obtain ⟨c, hc, rfl⟩ := List.mem_map.mp hb
    exact List.mem_map.mpr ⟨c, (List.mem_filter.mp hc).1, rfl⟩
/-- the cells behind it: (index, cell) -/
theorem Sep.chgs : ∀ (us : List (Nat × Cell)) {H : Hp} {l : List Cell}, Sep H0 ft H l → (∀ u ∈ us, ∃ o, l[u.1]? = some (u.2.1, u.2.2.1, o)) → (∀ u ∈ us, u.2.1 = 1 ∨ u.2.1 = 2) → (us.map (·.1)).Nodup →
    (∀ b o, H b = some o → b ∉ us.map (·.2.2.1) → H' b = some o) → (∀ u ∈ us, H' u.2.2.1 = some u.2.2.2) → Sep H0 ft H' (us.foldl (fun l u => l.set u.1 u.2) l)
  | [], _, _, S, _, _, _, F, _ => S.stay fun b o e => F b o e (fun z => nomatch z)
  | (i, t, a, o') :: r, H, l, S, hi, ht, hn, F, he => by
    obtain ⟨o, ho⟩ := hi _ List.mem_cons_self
    obtain ⟨n1, n2⟩ := List.nodup_cons.mp hn
    refine Sep.chgs r (S.put i o' ho (ht _ List.mem_cons_self)) (fun u hu => ?_) (fun u hu => ht u (List.mem_cons_of_mem _ hu)) n2 (fun b u hb hm => ?_) (fun u hu => he u (List.mem_cons_of_mem _ hu))
    · obtain ⟨v, hv⟩ := hi u (List.mem_cons_of_mem _ hu)
      exact ⟨v, by rw [List.getElem?_set_ne (fun z => n1 (List.mem_map.mpr ⟨u, hu, z.symm⟩))]; exact hv⟩
    · by_cases z : b = a
      · subst z
        rw [upd_same] at hb
        cases hb
        exact he _ List.mem_cons_self
      · rw [upd_ne z] at hb
        exact F b u hb (fun m => (List.mem_cons.mp m).elim z hm)
end
theorem fun_kbn {K : PySem.W.Frag} {x qual : Str} {st : Stmt} {f : Addr} {fd : FuncData} (F : L2.Fun K x qual st f fd) (n : Nat) (ks : List Str) (is : List Nat) {ps : List Str}
    (h : ∀ (kV doc pm : Value) (an : Option Addr) (cdv ct : Value) (us ws : List Value), us.length = n → ws.length = ks.length → bindArgs (PySem.W.fnOf x qual (defArgs st) (defBody st) (defScope st) .none kV doc pm an cdv ct) ⟨us, ks.zip ws⟩ = pure (ps.zip (us ++ kwp is ws))) :
    KBn K fd ps n ks (fun us ws => us ++ kwp is ws) (fun vs zs => vs ++ kwp is zs) := by
  obtain ⟨oc, od, kV, doc, pm, an, cdv, ct, osl, rfl, lk, hcd⟩ := F.ex
  exact ⟨fun s us ws _ l1 l2 => .of_eq (h kV doc pm an cdv ct us ws l1 l2), fun r1 r2 => r1.append (kwp_vals is r2)⟩
/-! ### rules that the layer lacks -/
section
variable {X : Cx}
theorem get_list : PGet X (rIxL X.K) := by
  intro pins s σ H x y v u Q I rx ry h
  obtain ⟨p, xs, i, z, rfl, rfl, hq, he, q⟩ := h
  cases rx
  obtain ⟨t, rfl⟩ := ry
  obtain ⟨its, r, pl, hz⟩ := I.list hq
  obtain ⟨j, h1, h2, h3, h4, h5⟩ := atI_get he
  obtain ⟨w, ew, rw'⟩ := r.get h2
  have hl := r.length
  have hn := line63
  have fin : EP X pins σ Q w s := ⟨z, H, I, rw', q⟩
  by_cases h0 : 0 ≤ i
  · have hj : i.toNat = j := by
      rw [seqIndex_of h0 h5] at h1
      exact Option.some.inj h1
    exact wpAny_getItem_list pl.isList h0 (by omega) (by rw [hj]; simpa using ew) fin
  · have hj : (i + (its.toArray.size : Int)).toNat = j := by
      rw [seqIndex_neg (by omega) h4] at h1
      rw [List.size_toArray, ← hl]
      exact Option.some.inj h1
    exact wpAny_getItem_list_neg pl.isList (by omega) (by rw [List.size_toArray] <;> omega) (by omega) (by rw [hj]; simpa using ew) fin
end
end G

set_option linter.all false
set_option maxRecDepth 100000
set_option maxHeartbeats 4000000
namespace G
open PySem PySem.Spec PyProof.Rows L2
def topS (i : Nat) : Stmt := PySem.Challenge.pw_farasked_k10_takers.main.body.getD i (.Pass ⟨0, 0, 0, 0⟩)
abbrev s_law_draw : Stmt := (topS 5)
theorem sc_law_draw : FnScope ["_law_hold", "_law_size", "_law_spot", "_law_cell", "_law_mark"] ["_law_hold", "_law_size"] (defScope s_law_draw) := ⟨rfl, rfl, rfl, by decide +kernel, rfl, by decide +kernel, by decide +kernel⟩

/-- hold: how many draws, the cells -/
structure Hold (n : Int) (cs : List Int) : Prop where
  ne : cs ≠ []
  len : cs.length ≤ 63
  nn : 0 ≤ n
def spDraw : Sp := fun vs H Q _ => ∃ (p q : Addr) (n m : Int) (cs : List Int), vs = [.ref p, .int m] ∧ H p = some (.lst [.int n, .ref q]) ∧ H q = some (.lst (cs.map V.int)) ∧ p ≠ q ∧ Hold n cs ∧ n < 2 ^ 40 ∧ 0 < m ∧ m < 2 ^ 200 ∧
  ∀ (r : Int) (cs' : List Int) (H' : Hp), 0 ≤ r → r < m → Hold (n + 1) cs' → H' p = some (.lst [.int (n + 1), .ref q]) → H' q = some (.lst (cs'.map V.int)) → (∀ b o, H b = some o → b ≠ p → b ≠ q → H' b = some o) → Q (.int r) H'
theorem c_draw {H0 H : Hp} {ft : List Addr} {l : List Cell} {t t' : Nat} {p q : Addr} {n m : Int} {cs : List Int} {Q : VK} {E : XK} (S : Sep H0 ft H l) (i j : Nat) (hi : l[i]? = some (t, p, .lst [.int n, .ref q])) (hj : l[j]? = some (t', q, .lst (cs.map V.int)))
    (h : Hold n cs) (hn : n < 2 ^ 40) (hm : 0 < m) (hm2 : m < 2 ^ 200)
    (k : ∀ (r : Int) (cs' : List Int) (H' : Hp), 0 ≤ r → r < m → Hold (n + 1) cs' → Sep H0 ft H' ((l.set i (t, p, .lst [.int (n + 1), .ref q])).set j (t', q, .lst (cs'.map V.int))) → Q (.int r) H')
    (d : i ≠ j := by decide) (ht : t = 1 ∨ t = 2 := by first | exact .inl rfl | exact .inr rfl) (ht' : t' = 1 ∨ t' = 2 := by first | exact .inl rfl | exact .inr rfl) : spDraw [.ref p, .int m] H Q E :=
  ⟨p, q, n, m, cs, rfl, S.get i hi, S.get j hj, S.ne i j hi hj d, h, hn, hm, hm2, fun r cs' H' h0 h1 hh e1 e2 F => k r cs' H' h0 h1 hh (S.chg2 i j hi hj d F e1 e2 ht ht')⟩
section
variable {P : Program} {w : World} {K : PySem.W.Frag} {mg : Str → Option Value} {base : Heap}
theorem ok_draw {f : Addr} {fd : FuncData} (F : Fun K "_law_draw" "_law_draw" s_law_draw f fd) (z_len : mg "len" = none) : FnOk P w K mg base CX0 1 f fd ["_law_hold", "_law_size"] spDraw := by
  refine F.ok sc_law_draw (fun vs H Q E h => ?_) (fun cdv A outer s H vs Q E hr h => ?_)
  · obtain ⟨p, q, n, m, cs, rfl, _⟩ := h
    rfl
  · obtain ⟨p, q, n, m, cs, rfl, hp, hq, npq, ⟨hcs, hl, hn0⟩, hn, hm0, hm, k⟩ := h
    have S := Sep.of2 hp hq npq
    have hc0 : 0 < cs.length := List.length_pos_iff.mpr hcs
    refine ⟨_, pss_cons (ps_set (i := 2) sc_law_draw.nd rfl (.inl rfl) (pe_op op_mod (pe_ix (ix_listK K) (pv 0) (pe_int) (fun _ _ => rfl)) (pe_callB (cl_lenK K) (by rfl) z_len PySem.boot_len (pa_cons (pe_ix (ix_listK K) (pv 0) (pe_int) (fun _ _ => rfl)) pa_nil))))
      (pss_cons (ps_set (i := 3) sc_law_draw.nd rfl (.inl rfl) (pe_ix (ix_listK K) (pe_ix (ix_listK K) (pv 0) (pe_int) (fun _ _ => rfl)) (pv 2) (fun _ _ => rfl)))
      (pss_cons (ps_augS (pv 0) (pe_int) get_list (pe_int) ip_add set_list)
      (pss_cons (ps_if (pt_cmpR op_ge (pv 3) (pe_int) (nomark _)) (pss_cons (ps_asg (pe_op op_fdivW (pv 3) (pv 1)) (pg_sub (pe_ix (ix_listK K) (pv 0) (pe_int) (fun _ _ => rfl)) (pv 2) set_list))
      (pss_one (ps_ret (pe_op op_mod (pv 3) (pv 1))))) (pss_nil))
      (pss_cons (ps_set (i := 4) sc_law_draw.nd rfl (.inl rfl) (pe_op op_mod (pe_op op_add (pe_op op_mod (pv 3) (pe_int)) (pe_op op_mul (pe_int) (pe_ix (ix_listK K) (pv 0) (pe_int) (fun _ _ => rfl)))) (pe_int)))
      (pss_cons (ps_set (i := 4) sc_law_draw.nd rfl (.inl rfl) (pe_op op_mod (pe_op op_mul (pe_op op_mod (pe_op op_pow (pv 4) (pe_int)) (pe_int)) (pe_int)) (pe_int)))
      (pss_one (ps_ret (pe_op op_mod (pe_op op_fdivW (pe_op op_mod (pe_op op_pow (pe_op op_add (pv 4) (pe_op op_mul (pe_op op_mod (pv 3) (pe_int)) (pe_ix (ix_listK K) (pv 0) (pe_int) (fun _ _ => rfl)))) (pe_int)) (pe_int)) (pe_int)) (pv 1))))))))), ?_⟩
    rw [show start ["_law_hold", "_law_size", "_law_spot", "_law_cell", "_law_mark"] [V.ref p, V.int m] = [some (V.ref p), some (V.int m), none, none, none] from rfl]
    try dsimp only [tSeq, tAsg, gName, tOp, tUn, tCB, tCons, tNil, tCall, tMethK1, tCallK1, tPar3, tRet, tRetN, tDrop, tTest, tB, tC, tNext, tAugS, tAug, sFld1, sFldAug1, tMeth1, tMake, tMakeK1, tSl, tPart, tNoPart, sDPut1, tDPop, tBM, tBM0, tPar, gSub, tChain, tNot, tNotV, iList1, iTup1, iRng1, iRng2, List.set_cons_zero, List.set_cons_succ]
    refine x_var (by exact rfl) ?_
    refine x_ixF S 0 (by exact rfl) (by exact rfl) ?_
    refine x_var (by exact rfl) ?_
    refine x_ixF S 0 (by exact rfl) (by exact rfl) ?_
    refine x_lenI S 1 (by exact rfl) ?_
    refine x_I (by first | decide | (show (0 : Int) < _; omega)) ?_
    try dsimp only [tSeq, tAsg, gName, tOp, tUn, tCB, tCons, tNil, tCall, tMethK1, tCallK1, tPar3, tRet, tRetN, tDrop, tTest, tB, tC, tNext, tAugS, tAug, sFld1, sFldAug1, tMeth1, tMake, tMakeK1, tSl, tPart, tNoPart, sDPut1, tDPop, tBM, tBM0, tPar, gSub, tChain, tNot, tNotV, iList1, iTup1, iRng1, iRng2, List.set_cons_zero, List.set_cons_succ]
    refine x_var (by exact rfl) ?_
    refine x_ixF S 0 (by exact rfl) (by exact rfl) ?_
    refine x_var (by exact rfl) ?_
    refine x_ixI S 1 (by exact rfl) (by first | omega | exact Int.emod_nonneg _ (by omega)) (by first | omega | exact Int.emod_lt_of_pos _ (by omega)) (fun v1 hv1 => ?_)
    try dsimp only [tSeq, tAsg, gName, tOp, tUn, tCB, tCons, tNil, tCall, tMethK1, tCallK1, tPar3, tRet, tRetN, tDrop, tTest, tB, tC, tNext, tAugS, tAug, sFld1, sFldAug1, tMeth1, tMake, tMakeK1, tSl, tPart, tNoPart, sDPut1, tDPop, tBM, tBM0, tPar, gSub, tChain, tNot, tNotV, iList1, iTup1, iRng1, iRng2, List.set_cons_zero, List.set_cons_succ]
    refine x_var (by exact rfl) ?_
    refine x_ixF S 0 (by exact rfl) (by exact rfl) ?_
    refine x_ip ?_
    refine x_setL S 0 (by exact rfl) (by exact rfl) (fun H S => ?_)
    simp only [List.set_cons_zero, List.set_cons_succ] at S
    try dsimp only [tSeq, tAsg, gName, tOp, tUn, tCB, tCons, tNil, tCall, tMethK1, tCallK1, tPar3, tRet, tRetN, tDrop, tTest, tB, tC, tNext, tAugS, tAug, sFld1, sFldAug1, tMeth1, tMake, tMakeK1, tSl, tPart, tNoPart, sDPut1, tDPop, tBM, tBM0, tPar, gSub, tChain, tNot, tNotV, iList1, iTup1, iRng1, iRng2, List.set_cons_zero, List.set_cons_succ]
    refine x_if ?_
    try dsimp only [tSeq, tAsg, gName, tOp, tUn, tCB, tCons, tNil, tCall, tMethK1, tCallK1, tPar3, tRet, tRetN, tDrop, tTest, tB, tC, tNext, tAugS, tAug, sFld1, sFldAug1, tMeth1, tMake, tMakeK1, tSl, tPart, tNoPart, sDPut1, tDPop, tBM, tBM0, tPar, gSub, tChain, tNot, tNotV, iList1, iTup1, iRng1, iRng2, List.set_cons_zero, List.set_cons_succ]
    refine x_var (by exact rfl) ?_
    refine x_I0 ?_
    refine ⟨_, rfl, ?_⟩
    refine ited (fun c1 => ?_) (fun c1 => ?_)
    · try dsimp only [tSeq, tAsg, gName, tOp, tUn, tCB, tCons, tNil, tCall, tMethK1, tCallK1, tPar3, tRet, tRetN, tDrop, tTest, tB, tC, tNext, tAugS, tAug, sFld1, sFldAug1, tMeth1, tMake, tMakeK1, tSl, tPart, tNoPart, sDPut1, tDPop, tBM, tBM0, tPar, gSub, tChain, tNot, tNotV, iList1, iTup1, iRng1, iRng2, List.set_cons_zero, List.set_cons_succ]
      refine x_var (by exact rfl) ?_
      refine x_var (by exact rfl) ?_
      refine x_I (by first | exact ⟨by decide, by decide⟩ | exact div_ok (by omega) (by omega)) ?_
      refine x_var (by exact rfl) ?_
      refine x_ixF S 0 (by exact rfl) (by exact rfl) ?_
      refine x_var (by exact rfl) ?_
      refine x_setI S 1 (by exact rfl) (by first | omega | exact Int.emod_nonneg _ (by omega)) (by first | omega | exact Int.emod_lt_of_pos _ (by omega)) (fun H S => ?_)
      simp only [List.set_cons_zero, List.set_cons_succ] at S
      try dsimp only [tSeq, tAsg, gName, tOp, tUn, tCB, tCons, tNil, tCall, tMethK1, tCallK1, tPar3, tRet, tRetN, tDrop, tTest, tB, tC, tNext, tAugS, tAug, sFld1, sFldAug1, tMeth1, tMake, tMakeK1, tSl, tPart, tNoPart, sDPut1, tDPop, tBM, tBM0, tPar, gSub, tChain, tNot, tNotV, iList1, iTup1, iRng1, iRng2, List.set_cons_zero, List.set_cons_succ]
      refine x_var (by exact rfl) ?_
      refine x_var (by exact rfl) ?_
      refine x_I (by first | decide | (show (0 : Int) < _; omega)) ?_
      refine k _ _ _ ?_ ?_ ⟨?_, ?_, ?_⟩ (S.get 0 rfl) (S.get 1 rfl) S.out2
      · exact Int.emod_nonneg _ (by omega)
      · exact Int.emod_lt_of_pos _ (by omega)
      · first | exact hcs | (intro e; have := congrArg List.length e; rw [List.length_set] at this; exact hcs (List.length_eq_zero_iff.mp this))
      · first | exact hl | (rw [List.length_set]; exact hl)
      · omega
    · try dsimp only [tSeq, tAsg, gName, tOp, tUn, tCB, tCons, tNil, tCall, tMethK1, tCallK1, tPar3, tRet, tRetN, tDrop, tTest, tB, tC, tNext, tAugS, tAug, sFld1, sFldAug1, tMeth1, tMake, tMakeK1, tSl, tPart, tNoPart, sDPut1, tDPop, tBM, tBM0, tPar, gSub, tChain, tNot, tNotV, iList1, iTup1, iRng1, iRng2, List.set_cons_zero, List.set_cons_succ]
      refine x_var (by exact rfl) ?_
      refine x_I (by first | decide | (show (0 : Int) < _; omega)) ?_
      refine x_var (by exact rfl) ?_
      refine x_ixF S 0 (by exact rfl) (by exact rfl) ?_
      refine x_I (by first | exact .inr ⟨by decide, by decide⟩ | exact .inl ⟨by decide, by decide⟩ | exact .inr ⟨by omega, by omega⟩ | exact .inl ⟨by omega, by omega⟩) ?_
      refine x_I0 ?_
      refine x_I (by first | decide | (show (0 : Int) < _; omega)) ?_
      try dsimp only [tSeq, tAsg, gName, tOp, tUn, tCB, tCons, tNil, tCall, tMethK1, tCallK1, tPar3, tRet, tRetN, tDrop, tTest, tB, tC, tNext, tAugS, tAug, sFld1, sFldAug1, tMeth1, tMake, tMakeK1, tSl, tPart, tNoPart, sDPut1, tDPop, tBM, tBM0, tPar, gSub, tChain, tNot, tNotV, iList1, iTup1, iRng1, iRng2, List.set_cons_zero, List.set_cons_succ]
      refine x_var (by exact rfl) ?_
      refine x_I ⟨by decide, by decide, by first | assumption | omega⟩ ?_
      refine x_I (by first | decide | (show (0 : Int) < _; omega)) ?_
      refine x_I (by first | exact .inr ⟨by decide, by decide⟩ | exact .inl ⟨by decide, by decide⟩ | exact .inr ⟨by omega, by omega⟩ | exact .inl ⟨by omega, by omega⟩) ?_
      refine x_I (by first | decide | (show (0 : Int) < _; omega)) ?_
      try dsimp only [tSeq, tAsg, gName, tOp, tUn, tCB, tCons, tNil, tCall, tMethK1, tCallK1, tPar3, tRet, tRetN, tDrop, tTest, tB, tC, tNext, tAugS, tAug, sFld1, sFldAug1, tMeth1, tMake, tMakeK1, tSl, tPart, tNoPart, sDPut1, tDPop, tBM, tBM0, tPar, gSub, tChain, tNot, tNotV, iList1, iTup1, iRng1, iRng2, List.set_cons_zero, List.set_cons_succ]
      have hb := mul_bd (a := v1 % 1000003) (b := n + 1) (A := 1000003) (B := 2 ^ 41) (Int.emod_nonneg _ (by decide)) (Int.emod_lt_of_pos _ (by decide)) (by omega) (by omega)
      refine x_var (by exact rfl) ?_
      refine x_var (by exact rfl) ?_
      refine x_I (by first | decide | (show (0 : Int) < _; omega)) ?_
      refine x_var (by exact rfl) ?_
      refine x_ixF S 0 (by exact rfl) (by exact rfl) ?_
      refine x_I (by first | exact .inr ⟨by decide, by decide⟩ | exact .inl ⟨by decide, by decide⟩ | exact .inr ⟨by omega, by omega⟩ | exact .inl ⟨by omega, by omega⟩) ?_
      refine x_I0 ?_
      refine x_I ⟨by decide, by decide, by first | assumption | omega⟩ ?_
      refine x_I (by first | decide | (show (0 : Int) < _; omega)) ?_
      refine x_I (by first | exact ⟨by decide, by decide⟩ | exact div_ok (by omega) (by omega)) ?_
      refine x_var (by exact rfl) ?_
      refine x_I (by first | decide | (show (0 : Int) < _; omega)) ?_
      refine k _ _ _ ?_ ?_ ⟨?_, ?_, ?_⟩ (S.get 0 rfl) (S.get 1 rfl) S.out2
      · exact Int.emod_nonneg _ (by omega)
      · exact Int.emod_lt_of_pos _ (by omega)
      · first | exact hcs | (intro e; have := congrArg List.length e; rw [List.length_set] at this; exact hcs (List.length_eq_zero_iff.mp this))
      · first | exact hl | (rw [List.length_set]; exact hl)
      · omega
end

def spValue : Sp := fun vs H Q _ => ∃ (p q : Addr) (n : Int) (cs : List Int), vs = [.ref p] ∧ H p = some (.lst [.int n, .ref q]) ∧ H q = some (.lst (cs.map V.int)) ∧ p ≠ q ∧ Hold n cs ∧ n < 2 ^ 39 ∧
  ∀ (r n' : Int) (cs' : List Int) (H' : Hp), n' ≤ n + 6 → Hold n' cs' → H' p = some (.lst [.int n', .ref q]) → H' q = some (.lst (cs'.map V.int)) → (∀ b o, H b = some o → b ≠ p → b ≠ q → H' b = some o) → Q (.int r) H'
theorem c_value {H0 H : Hp} {ft : List Addr} {l : List Cell} {t t' : Nat} {p q : Addr} {n : Int} {cs : List Int} {Q : VK} {E : XK} (S : Sep H0 ft H l) (i j : Nat) (hi : l[i]? = some (t, p, .lst [.int n, .ref q])) (hj : l[j]? = some (t', q, .lst (cs.map V.int)))
    (h : Hold n cs) (hn : n < 2 ^ 39) (k : ∀ (r n' : Int) (cs' : List Int) (H' : Hp), n' ≤ n + 6 → Hold n' cs' → Sep H0 ft H' ((l.set i (t, p, .lst [.int n', .ref q])).set j (t', q, .lst (cs'.map V.int))) → Q (.int r) H')
    (d : i ≠ j := by decide) (ht : t = 1 ∨ t = 2 := by first | exact .inl rfl | exact .inr rfl) (ht' : t' = 1 ∨ t' = 2 := by first | exact .inl rfl | exact .inr rfl) : spValue [.ref p] H Q E :=
  ⟨p, q, n, cs, rfl, S.get i hi, S.get j hj, S.ne i j hi hj d, h, hn, fun r n' cs' H' h1 hh e1 e2 F => k r n' cs' H' h1 hh (S.chg2 i j hi hj d F e1 e2 ht ht')⟩
def spWide : Sp := fun vs H Q _ => ∃ (p q : Addr) (n : Int) (cs : List Int), vs = [.ref p] ∧ H p = some (.lst [.int n, .ref q]) ∧ H q = some (.lst (cs.map V.int)) ∧ p ≠ q ∧ Hold n cs ∧ n < 2 ^ 39 ∧
  ∀ (r n' : Int) (cs' : List Int) (H' : Hp), 1 ≤ r → r ≤ 64 → n' ≤ n + 6 → Hold n' cs' → H' p = some (.lst [.int n', .ref q]) → H' q = some (.lst (cs'.map V.int)) → (∀ b o, H b = some o → b ≠ p → b ≠ q → H' b = some o) → Q (.int r) H'
theorem c_wide {H0 H : Hp} {ft : List Addr} {l : List Cell} {t t' : Nat} {p q : Addr} {n : Int} {cs : List Int} {Q : VK} {E : XK} (S : Sep H0 ft H l) (i j : Nat) (hi : l[i]? = some (t, p, .lst [.int n, .ref q])) (hj : l[j]? = some (t', q, .lst (cs.map V.int)))
    (h : Hold n cs) (hn : n < 2 ^ 39) (k : ∀ (r n' : Int) (cs' : List Int) (H' : Hp), 1 ≤ r → r ≤ 64 → n' ≤ n + 6 → Hold n' cs' → Sep H0 ft H' ((l.set i (t, p, .lst [.int n', .ref q])).set j (t', q, .lst (cs'.map V.int))) → Q (.int r) H')
    (d : i ≠ j := by decide) (ht : t = 1 ∨ t = 2 := by first | exact .inl rfl | exact .inr rfl) (ht' : t' = 1 ∨ t' = 2 := by first | exact .inl rfl | exact .inr rfl) : spWide [.ref p] H Q E :=
  ⟨p, q, n, cs, rfl, S.get i hi, S.get j hj, S.ne i j hi hj d, h, hn, fun r n' cs' H' h0 h9 h1 hh e1 e2 F => k r n' cs' H' h0 h9 h1 hh (S.chg2 i j hi hj d F e1 e2 ht ht')⟩
section
variable {P : Program} {w : World} {K : PySem.W.Frag} {mg : Str → Option Value} {base : Heap}
abbrev s_law_value : Stmt := (topS 8)
theorem sc_law_value : FnScope ["_law_hold", "_law_way", "_law_number", "_law_k"] ["_law_hold"] (defScope s_law_value) := ⟨rfl, rfl, rfl, by decide +kernel, rfl, by decide +kernel, by decide +kernel⟩
theorem ok_law_value {f : Addr} {fd : FuncData} (F : L2.Fun K "_law_value" "_law_value" s_law_value f fd) (cd : Cal P w K mg base CX0 1 "_law_draw" spDraw) (z_range : mg "range" = none) : FnOk P w K mg base CX0 2 f fd ["_law_hold"] spValue := by
  refine F.ok sc_law_value (fun vs H Q E h => ?_) (fun cdv A outer s H0 vs Q E hr h => ?_)
  · obtain ⟨p, q, n, cs, rfl, hp, hq, npq, hh, hn, k⟩ := h
    rfl
  · obtain ⟨p, q, n, cs, rfl, hp, hq, npq, hh, hn, k⟩ := h
    have hu := hu_of hr
    have S := Sep.of2 hp hq npq
    refine ⟨_, pss_cons (ps_set (i := 1) sc_law_value.nd rfl (.inl rfl) (pe_c cd hr (by decide) (by rfl) pass0 (pa_cons (pv 0) (pa_cons (pe_int) pa_nil))))
      (pss_cons (ps_if (pt_cmpR op_lt (pv 1) (pe_int) (nomark _)) (pss_one (ps_ret (pe_op op_mul (pe_c cd hr (by decide) (by rfl) pass0 (pa_cons (pv 0) (pa_cons (pe_int) pa_nil))) (pe_ix (ix_listK K) (pe_lst1 (pa_cons (pe_int) (pa_cons (pe_un un_neg (pe_int)) pa_nil))) (pv 1) (fun _ _ => rfl))))) (pss_nil))
      (pss_cons (ps_set (i := 2) sc_law_value.nd rfl (.inl rfl) (pe_int))
      (pss_cons (ps_for PassesOwn.never rfl (pi_range1 (by rfl) z_range (pa_cons (pe_int) pa_nil)) (pg_name (i := 3) sc_law_value.nd rfl (.inl rfl)) (pss_one (ps_set (i := 2) sc_law_value.nd rfl (.inl rfl) (pe_op op_add (pe_op op_mul (pv 2) (pe_int)) (pe_c cd hr (by decide) (by rfl) pass0 (pa_cons (pv 0) (pa_cons (pe_int) pa_nil)))))))
      (pss_one (ps_ret (pe_op op_mul (pv 2) (pe_ix (ix_listK K) (pe_lst1 (pa_cons (pe_int) (pa_cons (pe_un un_neg (pe_int)) pa_nil))) (pe_op op_sub (pv 1) (pe_int)) (fun _ _ => rfl)))))))), ?_⟩
    rw [show start ["_law_hold", "_law_way", "_law_number", "_law_k"] [V.ref p] = [some (V.ref p), none, none, none] from rfl]
    try dsimp only [tSeq, tAsg, gName, tOp, tUn, tCB, tCons, tNil, tCall, tMethK1, tCallK1, tPar3, tRet, tRetN, tDrop, tTest, tB, tC, tNext, tAugS, tAug, sFld1, sFldAug1, tMeth1, tMake, tMakeK1, tSl, tPart, tNoPart, sDPut1, tDPop, tBM, tBM0, tPar, gSub, tChain, tNot, tNotV, iList1, iTup1, iRng1, iRng2, List.set_cons_zero, List.set_cons_succ]
    refine x_var (by exact rfl) ?_
    refine c_draw S 0 1 (by exact rfl) (by exact rfl) hh (by first | omega | decide | (simp only [len_insAt, List.length_map, List.length_append, List.length_cons, List.length_nil, List.length_take, List.length_drop] at *; omega)) (by first | omega | decide | (simp only [len_insAt, List.length_map, List.length_append, List.length_cons, List.length_nil, List.length_take, List.length_drop] at *; omega)) (by first | omega | decide | (simp only [len_insAt, List.length_map, List.length_append, List.length_cons, List.length_nil, List.length_take, List.length_drop] at *; omega)) (fun r1 cs1 H r1a r1b hh S => ?_)
    simp only [List.set_cons_zero, List.set_cons_succ] at S
    try dsimp only [tSeq, tAsg, gName, tOp, tUn, tCB, tCons, tNil, tCall, tMethK1, tCallK1, tPar3, tRet, tRetN, tDrop, tTest, tB, tC, tNext, tAugS, tAug, sFld1, sFldAug1, tMeth1, tMake, tMakeK1, tSl, tPart, tNoPart, sDPut1, tDPop, tBM, tBM0, tPar, gSub, tChain, tNot, tNotV, iList1, iTup1, iRng1, iRng2, List.set_cons_zero, List.set_cons_succ]
    refine x_if ?_
    try dsimp only [tSeq, tAsg, gName, tOp, tUn, tCB, tCons, tNil, tCall, tMethK1, tCallK1, tPar3, tRet, tRetN, tDrop, tTest, tB, tC, tNext, tAugS, tAug, sFld1, sFldAug1, tMeth1, tMake, tMakeK1, tSl, tPart, tNoPart, sDPut1, tDPop, tBM, tBM0, tPar, gSub, tChain, tNot, tNotV, iList1, iTup1, iRng1, iRng2, List.set_cons_zero, List.set_cons_succ]
    refine x_var (by exact rfl) ?_
    refine x_I0 ?_
    refine ⟨_, rfl, ?_⟩
    refine ited (fun c1 => ?_) (fun c1 => ?_)
    · try dsimp only [tSeq, tAsg, gName, tOp, tUn, tCB, tCons, tNil, tCall, tMethK1, tCallK1, tPar3, tRet, tRetN, tDrop, tTest, tB, tC, tNext, tAugS, tAug, sFld1, sFldAug1, tMeth1, tMake, tMakeK1, tSl, tPart, tNoPart, sDPut1, tDPop, tBM, tBM0, tPar, gSub, tChain, tNot, tNotV, iList1, iTup1, iRng1, iRng2, List.set_cons_zero, List.set_cons_succ]
      refine x_var (by exact rfl) ?_
      refine c_draw S 0 1 (by exact rfl) (by exact rfl) hh (by first | omega | decide | (simp only [len_insAt, List.length_map, List.length_append, List.length_cons, List.length_nil, List.length_take, List.length_drop] at *; omega)) (by first | omega | decide | (simp only [len_insAt, List.length_map, List.length_append, List.length_cons, List.length_nil, List.length_take, List.length_drop] at *; omega)) (by first | omega | decide | (simp only [len_insAt, List.length_map, List.length_append, List.length_cons, List.length_nil, List.length_take, List.length_drop] at *; omega)) (fun r2 cs2 H r2a r2b hh S => ?_)
      simp only [List.set_cons_zero, List.set_cons_succ] at S
      refine x_U ?_
      refine x_lst S (by exact Nat.le_of_ble_eq_true rfl) (fun L1 H S => ?_)
      refine x_var (by exact rfl) ?_
      refine x_ixI (cs := [1, -1]) S 0 (by exact rfl) (by omega) (by first | (show (_ : Int) < 2; omega) | omega) (fun v1 hv1 => ?_)
      have hv1 := List.mem_of_getElem? hv1
      simp only [List.mem_cons, List.not_mem_nil, or_false] at hv1
      refine x_I (by first | exact .inr ⟨by decide, by decide⟩ | exact .inl ⟨by decide, by decide⟩ | exact .inr ⟨by omega, by omega⟩ | exact .inl ⟨by omega, by omega⟩) ?_
      exact k _ _ _ _ (by omega) hh (S.get 1 rfl) (S.get 2 rfl) S.out2
    · try dsimp only [tSeq, tAsg, gName, tOp, tUn, tCB, tCons, tNil, tCall, tMethK1, tCallK1, tPar3, tRet, tRetN, tDrop, tTest, tB, tC, tNext, tAugS, tAug, sFld1, sFldAug1, tMeth1, tMake, tMakeK1, tSl, tPart, tNoPart, sDPut1, tDPop, tBM, tBM0, tPar, gSub, tChain, tNot, tNotV, iList1, iTup1, iRng1, iRng2, List.set_cons_zero, List.set_cons_succ]
      try dsimp only [tSeq, tAsg, gName, tOp, tUn, tCB, tCons, tNil, tCall, tMethK1, tCallK1, tPar3, tRet, tRetN, tDrop, tTest, tB, tC, tNext, tAugS, tAug, sFld1, sFldAug1, tMeth1, tMake, tMakeK1, tSl, tPart, tNoPart, sDPut1, tDPop, tBM, tBM0, tPar, gSub, tChain, tNot, tNotV, iList1, iTup1, iRng1, iRng2, List.set_cons_zero, List.set_cons_succ]
      refine x_for ?_
      try dsimp only [tOp, tUn, tCB, tCons, tNil, tCall, tMethK1, tCallK1, tC, tMeth1, tMake, tMakeK1, tSl, tPart, tNoPart, tDPop, tChain, tNotV, iList1, iTup1, iRng1, iRng2]
      refine ⟨_, rfl, by omega, by omega, ?_⟩
      refine forR (fun i σ H1 => ∃ (num n1 : Int) (cs1 : List Int) (o : Option V), σ = [some (.ref p), some (.int r1), some (.int num), o] ∧ n1 ≤ n + 1 + i ∧ Hold n1 cs1 ∧ Sep H0 [p, q] H1 [(1, p, .lst [.int n1, .ref q]), (1, q, .lst (cs1.map V.int))]) ?_ ?_ ?_
      · exact ⟨0, _, _, _, rfl, by omega, hh, S⟩
      · rintro i σ H hi ⟨num, n1, cs1, o, rfl, hn1, hh, S⟩
        try dsimp only [tSeq, tAsg, gName, tOp, tUn, tCB, tCons, tNil, tCall, tMethK1, tCallK1, tPar3, tRet, tRetN, tDrop, tTest, tB, tC, tNext, tAugS, tAug, sFld1, sFldAug1, tMeth1, tMake, tMakeK1, tSl, tPart, tNoPart, sDPut1, tDPop, tBM, tBM0, tPar, gSub, tChain, tNot, tNotV, iList1, iTup1, iRng1, iRng2, List.set_cons_zero, List.set_cons_succ]
        try dsimp only [tSeq, tAsg, gName, tOp, tUn, tCB, tCons, tNil, tCall, tMethK1, tCallK1, tPar3, tRet, tRetN, tDrop, tTest, tB, tC, tNext, tAugS, tAug, sFld1, sFldAug1, tMeth1, tMake, tMakeK1, tSl, tPart, tNoPart, sDPut1, tDPop, tBM, tBM0, tPar, gSub, tChain, tNot, tNotV, iList1, iTup1, iRng1, iRng2, List.set_cons_zero, List.set_cons_succ]
        refine x_var (by exact rfl) ?_
        refine x_I (by first | exact .inr ⟨by decide, by decide⟩ | exact .inl ⟨by decide, by decide⟩ | exact .inr ⟨by omega, by omega⟩ | exact .inl ⟨by omega, by omega⟩) ?_
        refine x_var (by exact rfl) ?_
        refine c_draw S 0 1 (by exact rfl) (by exact rfl) hh (by first | omega | decide | (simp only [len_insAt, List.length_map, List.length_append, List.length_cons, List.length_nil, List.length_take, List.length_drop] at *; omega)) (by first | omega | decide | (simp only [len_insAt, List.length_map, List.length_append, List.length_cons, List.length_nil, List.length_take, List.length_drop] at *; omega)) (by first | omega | decide | (simp only [len_insAt, List.length_map, List.length_append, List.length_cons, List.length_nil, List.length_take, List.length_drop] at *; omega)) (fun r3 cs3 H r3a r3b hh S => ?_)
        simp only [List.set_cons_zero, List.set_cons_succ] at S
        refine x_I0 ?_
        exact ⟨_, _, _, _, rfl, by omega, hh, S⟩
      · rintro σ H ⟨num, n1, cs1, o, rfl, hn1, hh, S⟩
        try dsimp only [tSeq, tAsg, gName, tOp, tUn, tCB, tCons, tNil, tCall, tMethK1, tCallK1, tPar3, tRet, tRetN, tDrop, tTest, tB, tC, tNext, tAugS, tAug, sFld1, sFldAug1, tMeth1, tMake, tMakeK1, tSl, tPart, tNoPart, sDPut1, tDPop, tBM, tBM0, tPar, gSub, tChain, tNot, tNotV, iList1, iTup1, iRng1, iRng2, List.set_cons_zero, List.set_cons_succ]
        try dsimp only [tSeq, tAsg, gName, tOp, tUn, tCB, tCons, tNil, tCall, tMethK1, tCallK1, tPar3, tRet, tRetN, tDrop, tTest, tB, tC, tNext, tAugS, tAug, sFld1, sFldAug1, tMeth1, tMake, tMakeK1, tSl, tPart, tNoPart, sDPut1, tDPop, tBM, tBM0, tPar, gSub, tChain, tNot, tNotV, iList1, iTup1, iRng1, iRng2, List.set_cons_zero, List.set_cons_succ]
        refine x_var (by exact rfl) ?_
        refine x_U ?_
        refine x_lst S (by exact Nat.le_of_ble_eq_true rfl) (fun L2 H S => ?_)
        refine x_var (by exact rfl) ?_
        refine x_I0 ?_
        refine x_ixI (cs := [1, -1]) S 0 (by exact rfl) (by omega) (by first | (show (_ : Int) < 2; omega) | omega) (fun v2 hv2 => ?_)
        have hv2 := List.mem_of_getElem? hv2
        simp only [List.mem_cons, List.not_mem_nil, or_false] at hv2
        refine x_I (by first | exact .inr ⟨by decide, by decide⟩ | exact .inl ⟨by decide, by decide⟩ | exact .inr ⟨by omega, by omega⟩ | exact .inl ⟨by omega, by omega⟩) ?_
        exact k _ _ _ _ (by omega) hh (S.get 1 rfl) (S.get 2 rfl) S.out2
abbrev s_law_wide : Stmt := (topS 9)
theorem sc_law_wide : FnScope ["_law_hold"] ["_law_hold"] (defScope s_law_wide) := ⟨rfl, rfl, rfl, by decide +kernel, rfl, by decide +kernel, by decide +kernel⟩
theorem ok_law_wide {f : Addr} {fd : FuncData} (F : L2.Fun K "_law_wide" "_law_wide" s_law_wide f fd) (cd : Cal P w K mg base CX0 1 "_law_draw" spDraw) : FnOk P w K mg base CX0 2 f fd ["_law_hold"] spWide := by
  refine F.ok sc_law_wide (fun vs H Q E h => ?_) (fun cdv A outer s H0 vs Q E hr h => ?_)
  · obtain ⟨p, q, n, cs, rfl, hp, hq, npq, hh, hn, k⟩ := h
    rfl
  · obtain ⟨p, q, n, cs, rfl, hp, hq, npq, hh, hn, k⟩ := h
    have hu := hu_of hr
    have S := Sep.of2 hp hq npq
    refine ⟨_, pss_one (ps_ret (pe_ix (ix_listK K) (pe_lst1 (pa_cons (pe_int) (pa_cons (pe_int) (pa_cons (pe_int) (pa_cons (pe_int) (pa_cons (pe_op op_add (pe_int) (pe_c cd hr (by decide) (by rfl) pass0 (pa_cons (pv 0) (pa_cons (pe_int) pa_nil)))) (pa_cons (pe_op op_add (pe_int) (pe_c cd hr (by decide) (by rfl) pass0 (pa_cons (pv 0) (pa_cons (pe_int) pa_nil)))) pa_nil))))))) (pe_c cd hr (by decide) (by rfl) pass0 (pa_cons (pv 0) (pa_cons (pe_int) pa_nil))) (fun _ _ => rfl))), ?_⟩
    rw [show start ["_law_hold"] [V.ref p] = [some (V.ref p)] from rfl]
    try dsimp only [tSeq, tAsg, gName, tOp, tUn, tCB, tCons, tNil, tCall, tMethK1, tCallK1, tPar3, tRet, tRetN, tDrop, tTest, tB, tC, tNext, tAugS, tAug, sFld1, sFldAug1, tMeth1, tMake, tMakeK1, tSl, tPart, tNoPart, sDPut1, tDPop, tBM, tBM0, tPar, gSub, tChain, tNot, tNotV, iList1, iTup1, iRng1, iRng2, List.set_cons_zero, List.set_cons_succ]
    refine x_var (by exact rfl) ?_
    refine c_draw S 0 1 (by exact rfl) (by exact rfl) hh (by first | omega | decide | (simp only [len_insAt, List.length_map, List.length_append, List.length_cons, List.length_nil, List.length_take, List.length_drop] at *; omega)) (by first | omega | decide | (simp only [len_insAt, List.length_map, List.length_append, List.length_cons, List.length_nil, List.length_take, List.length_drop] at *; omega)) (by first | omega | decide | (simp only [len_insAt, List.length_map, List.length_append, List.length_cons, List.length_nil, List.length_take, List.length_drop] at *; omega)) (fun r1 cs1 H r1a r1b hh S => ?_)
    simp only [List.set_cons_zero, List.set_cons_succ] at S
    refine x_I0 ?_
    refine x_var (by exact rfl) ?_
    refine c_draw S 0 1 (by exact rfl) (by exact rfl) hh (by first | omega | decide | (simp only [len_insAt, List.length_map, List.length_append, List.length_cons, List.length_nil, List.length_take, List.length_drop] at *; omega)) (by first | omega | decide | (simp only [len_insAt, List.length_map, List.length_append, List.length_cons, List.length_nil, List.length_take, List.length_drop] at *; omega)) (by first | omega | decide | (simp only [len_insAt, List.length_map, List.length_append, List.length_cons, List.length_nil, List.length_take, List.length_drop] at *; omega)) (fun r2 cs2 H r2a r2b hh S => ?_)
    simp only [List.set_cons_zero, List.set_cons_succ] at S
    refine x_I0 ?_
    refine x_lst S (by exact Nat.le_of_ble_eq_true rfl) (fun L1 H S => ?_)
    refine x_var (by exact rfl) ?_
    refine c_draw S 1 2 (by exact rfl) (by exact rfl) hh (by first | omega | decide | (simp only [len_insAt, List.length_map, List.length_append, List.length_cons, List.length_nil, List.length_take, List.length_drop] at *; omega)) (by first | omega | decide | (simp only [len_insAt, List.length_map, List.length_append, List.length_cons, List.length_nil, List.length_take, List.length_drop] at *; omega)) (by first | omega | decide | (simp only [len_insAt, List.length_map, List.length_append, List.length_cons, List.length_nil, List.length_take, List.length_drop] at *; omega)) (fun r3 cs3 H r3a r3b hh S => ?_)
    simp only [List.set_cons_zero, List.set_cons_succ] at S
    refine x_ixI (cs := [4, 1, 2, 64, 1 + r1, 1 + r2]) S 0 (by exact rfl) (by omega) (by first | (show (_ : Int) < 6; omega) | omega) (fun v1 hv1 => ?_)
    have hv1 := List.mem_of_getElem? hv1
    simp only [List.mem_cons, List.not_mem_nil, or_false] at hv1
    exact k _ _ _ _ (by omega) (by omega) (by omega) hh (S.get 1 rfl) (S.get 2 rfl) S.out2
end

def spIs : Sp := fun vs H Q _ => ∃ a b : Int, vs = [.int a, .int b] ∧ Q (.bl (decide (V.int a = V.int b))) H
theorem c_is {H : Hp} {a b : Int} {Q : VK} {E : XK} (q : Q (.bl (decide (V.int a = V.int b))) H) : spIs [.int a, .int b] H Q E := ⟨a, b, rfl, q⟩
section
variable {P : Program} {w : World} {K : PySem.W.Frag} {mg : Str → Option Value} {base : Heap}
abbrev s_law_is : Stmt := (topS 6)
theorem sc_law_is : FnScope ["_law_found", "_law_due"] ["_law_found", "_law_due"] (defScope s_law_is) := ⟨rfl, rfl, rfl, by decide +kernel, rfl, by decide +kernel, by decide +kernel⟩
theorem ok_law_is {f : Addr} {fd : FuncData} (F : L2.Fun K "_law_is" "_law_is" s_law_is f fd) (z_isinstance : mg "isinstance" = none) (z_int : mg "int" = none) (z_bool : mg "bool" = none) : FnOk P w K mg base CX0 1 f fd ["_law_found", "_law_due"] spIs := by
  refine F.ok sc_law_is (fun vs H Q E h => ?_) (fun cdv A outer s H0 vs Q E hr h => ?_)
  · obtain ⟨a, b, rfl, k⟩ := h
    rfl
  · obtain ⟨a, b, rfl, k⟩ := h
    have hu := hu_of hr

    refine ⟨_, pss_one (ps_ret (pe_and (pe_callB (cl_isiK K) (by rfl) z_isinstance (by decide +kernel) (pa_cons (pv 0) (pa_cons (pe_bltn (v := .ty "int") (by rfl) z_int (by decide +kernel) rfl) pa_nil))) (pe_and (pe_not (pe_callB (cl_isiK K) (by rfl) z_isinstance (by decide +kernel) (pa_cons (pv 0) (pa_cons (pe_bltn (v := .ty "bool") (by rfl) z_bool (by decide +kernel) rfl) pa_nil)))) (pe_one (pe_cmpR op_eq (pv 0) (pv 1) (nomark _)))))), ?_⟩
    rw [show start ["_law_found", "_law_due"] [V.int a, V.int b] = [some (V.int a), some (V.int b)] from rfl]
    try dsimp only [tSeq, tAsg, gName, tOp, tUn, tCB, tCons, tNil, tCall, tMethK1, tCallK1, tPar3, tRet, tRetN, tDrop, tTest, tB, tC, tNext, tAugS, tAug, sFld1, sFldAug1, tMeth1, tMake, tMakeK1, tSl, tPart, tNoPart, sDPut1, tDPop, tBM, tBM0, tPar, gSub, tChain, tNot, tNotV, iList1, iTup1, iRng1, iRng2, List.set_cons_zero, List.set_cons_succ]
    refine x_andV ?_
    try dsimp only [tSeq, tAsg, gName, tOp, tUn, tCB, tCons, tNil, tCall, tMethK1, tCallK1, tPar3, tRet, tRetN, tDrop, tTest, tB, tC, tNext, tAugS, tAug, sFld1, sFldAug1, tMeth1, tMake, tMakeK1, tSl, tPart, tNoPart, sDPut1, tDPop, tBM, tBM0, tPar, gSub, tChain, tNot, tNotV, iList1, iTup1, iRng1, iRng2, List.set_cons_zero, List.set_cons_succ]
    refine x_var (by exact rfl) ?_
    refine x_isi ty_int (by decide +kernel : kitB "int" "int" = some true) ?_
    refine ⟨_, rfl, ?_⟩
    refine iteT ?_
    refine x_andV ?_
    try dsimp only [tSeq, tAsg, gName, tOp, tUn, tCB, tCons, tNil, tCall, tMethK1, tCallK1, tPar3, tRet, tRetN, tDrop, tTest, tB, tC, tNext, tAugS, tAug, sFld1, sFldAug1, tMeth1, tMake, tMakeK1, tSl, tPart, tNoPart, sDPut1, tDPop, tBM, tBM0, tPar, gSub, tChain, tNot, tNotV, iList1, iTup1, iRng1, iRng2, List.set_cons_zero, List.set_cons_succ]
    refine x_var (by exact rfl) ?_
    refine x_isi ty_int (by decide +kernel : kitB "int" "bool" = some false) ?_
    refine ⟨_, rfl, ?_⟩
    refine ⟨_, rfl, ?_⟩
    refine iteT ?_
    refine x_var (by exact rfl) ?_
    refine x_var (by exact rfl) ?_
    refine x_eq ?_
    exact k
end

def spTruth : Sp := fun vs H Q _ => ∃ a b : Bool, vs = [.bl a, .bl b] ∧ Q (.bl (decide (V.bl a = V.bl b))) H
theorem c_truth {H : Hp} {a b : Bool} {Q : VK} {E : XK} (q : Q (.bl (decide (V.bl a = V.bl b))) H) : spTruth [.bl a, .bl b] H Q E := ⟨a, b, rfl, q⟩
section
variable {P : Program} {w : World} {K : PySem.W.Frag} {mg : Str → Option Value} {base : Heap}
abbrev s_law_truth : Stmt := (topS 7)
theorem sc_law_truth : FnScope ["_law_found", "_law_due"] ["_law_found", "_law_due"] (defScope s_law_truth) := ⟨rfl, rfl, rfl, by decide +kernel, rfl, by decide +kernel, by decide +kernel⟩
theorem ok_law_truth {f : Addr} {fd : FuncData} (F : L2.Fun K "_law_truth" "_law_truth" s_law_truth f fd) (z_isinstance : mg "isinstance" = none) (z_bool : mg "bool" = none) : FnOk P w K mg base CX0 1 f fd ["_law_found", "_law_due"] spTruth := by
  refine F.ok sc_law_truth (fun vs H Q E h => ?_) (fun cdv A outer s H0 vs Q E hr h => ?_)
  · obtain ⟨a, b, rfl, k⟩ := h
    rfl
  · obtain ⟨a, b, rfl, k⟩ := h
    have hu := hu_of hr

    refine ⟨_, pss_one (ps_ret (pe_and (pe_callB (cl_isiK K) (by rfl) z_isinstance (by decide +kernel) (pa_cons (pv 0) (pa_cons (pe_bltn (v := .ty "bool") (by rfl) z_bool (by decide +kernel) rfl) pa_nil))) (pe_one (pe_cmpR op_eq (pv 0) (pv 1) (nomark _))))), ?_⟩
    rw [show start ["_law_found", "_law_due"] [V.bl a, V.bl b] = [some (V.bl a), some (V.bl b)] from rfl]
    try dsimp only [tSeq, tAsg, gName, tOp, tUn, tCB, tCons, tNil, tCall, tMethK1, tCallK1, tPar3, tRet, tRetN, tDrop, tTest, tB, tC, tNext, tAugS, tAug, sFld1, sFldAug1, tMeth1, tMake, tMakeK1, tSl, tPart, tNoPart, sDPut1, tDPop, tBM, tBM0, tPar, gSub, tChain, tNot, tNotV, iList1, iTup1, iRng1, iRng2, List.set_cons_zero, List.set_cons_succ]
    refine x_andV ?_
    try dsimp only [tSeq, tAsg, gName, tOp, tUn, tCB, tCons, tNil, tCall, tMethK1, tCallK1, tPar3, tRet, tRetN, tDrop, tTest, tB, tC, tNext, tAugS, tAug, sFld1, sFldAug1, tMeth1, tMake, tMakeK1, tSl, tPart, tNoPart, sDPut1, tDPop, tBM, tBM0, tPar, gSub, tChain, tNot, tNotV, iList1, iTup1, iRng1, iRng2, List.set_cons_zero, List.set_cons_succ]
    refine x_var (by exact rfl) ?_
    refine x_isi ty_bl (by decide +kernel : kitB "bool" "bool" = some true) ?_
    refine ⟨_, rfl, ?_⟩
    refine iteT ?_
    refine x_var (by exact rfl) ?_
    refine x_var (by exact rfl) ?_
    refine x_eq ?_
    exact k
end
end G

set_option linter.all false
set_option maxRecDepth 100000
set_option maxHeartbeats 4000000
namespace G
open PySem PySem.Spec PyProof.Rows L2
/-! ### takers -/
def F_Taker (w t : Int) (d : Addr) (e : V) : List (Str × V) := [(("wide" : Str), V.int w), (("taken" : Str), V.int t), (("kept" : Str), V.ref d), (("end" : Str), e)]
theorem lk_Taker_wide {w t : Int} {d : Addr} {e : V} : (F_Taker w t d e).lookup ("wide" : Str) = some (V.int w) := by kernel_rfl
theorem lk_Taker_taken {w t : Int} {d : Addr} {e : V} : (F_Taker w t d e).lookup ("taken" : Str) = some (V.int t) := by kernel_rfl
theorem lk_Taker_kept {w t : Int} {d : Addr} {e : V} : (F_Taker w t d e).lookup ("kept" : Str) = some (V.ref d) := by kernel_rfl
theorem lk_Taker_end {w t : Int} {d : Addr} {e : V} : (F_Taker w t d e).lookup ("end" : Str) = some (e) := by kernel_rfl
theorem nk_Taker_came {w t : Int} {d : Addr} {e : V} : (F_Taker w t d e).lookup ("came" : Str) = none := by kernel_rfl
theorem nk_Taker_ends {w t : Int} {d : Addr} {e : V} : (F_Taker w t d e).lookup ("ends" : Str) = none := by kernel_rfl
theorem nk_Taker_has_next {w t : Int} {d : Addr} {e : V} : (F_Taker w t d e).lookup ("has_next" : Str) = none := by kernel_rfl
theorem nk_Taker_take {w t : Int} {d : Addr} {e : V} : (F_Taker w t d e).lookup ("take" : Str) = none := by kernel_rfl
theorem nk_Taker_told {w t : Int} {d : Addr} {e : V} : (F_Taker w t d e).lookup ("told" : Str) = none := by kernel_rfl
theorem nk_Taker_has_all {w t : Int} {d : Addr} {e : V} : (F_Taker w t d e).lookup ("has_all" : Str) = none := by kernel_rfl
theorem nk_Taker_is_ended {w t : Int} {d : Addr} {e : V} : (F_Taker w t d e).lookup ("is_ended" : Str) = none := by kernel_rfl
theorem pt_Taker_taken {w t : Int} {d : Addr} {e : V} {z : Int} : putF ("taken" : Str) (.int z) (F_Taker w t d e) = F_Taker w z d e := by kernel_rfl
theorem pt_Taker_end {w t : Int} {d : Addr} {e : V} {z : V} : putF ("end" : Str) z (F_Taker w t d e) = F_Taker w t d z := by kernel_rfl
theorem pi_Taker_1 {z : V} : putF ("wide" : Str) z [] = [(("wide" : Str), z)] := by kernel_rfl
theorem pi_Taker_2 {a z : V} : putF ("taken" : Str) z [(("wide" : Str), a)] = [(("wide" : Str), a), (("taken" : Str), z)] := by kernel_rfl
theorem pi_Taker_3 {a b z : V} : putF ("kept" : Str) z [(("wide" : Str), a), (("taken" : Str), b)] = [(("wide" : Str), a), (("taken" : Str), b), (("kept" : Str), z)] := by kernel_rfl
theorem pi_Taker_4 {w t : Int} {d : Addr} {z : V} : putF ("end" : Str) z [(("wide" : Str), .int w), (("taken" : Str), .int t), (("kept" : Str), .ref d)] = F_Taker w t d z := by kernel_rfl
structure TkCls (K : PySem.W.Frag) (C : Addr) : Prop where
  c_Taker : Cls K C
  na_Taker_wide : NoAttr K C "wide"
  na_Taker_taken : NoAttr K C "taken"
  na_Taker_kept : NoAttr K C "kept"
  na_Taker_end : NoAttr K C "end"
def spTkInit (C : Addr) : Sp := fun vs H Q _ => ∃ (p dx : Addr) (w : Int), vs = [.ref p, .int w] ∧ H p = some (.ins C dx []) ∧ ∀ (d : Addr) (H' : Hp), H d = none → H' p = some (.ins C dx (F_Taker w 0 d .non)) → H' d = some (.dK []) → (∀ b o, H b = some o → b ≠ p → H' b = some o) → Q .non H'
theorem c_mkTaker {C : Addr} {w : Int} {H0 H : Hp} {ft : List Addr} {l : List Cell} {Q : VK} {E : XK} (S : Sep H0 ft H l) (k : ∀ x dx d H', Sep H0 ft H' ((2, d, .dK []) :: (2, x, .ins C dx (F_Taker w 0 d .non)) :: l) → Q (.ref x) H') :
    rMkK C 0 1 (spTkInit C) (fun vs zs => vs ++ zs) E [] [V.int w] H Q := by
  refine ⟨rfl, rfl, fun x dx hx hd n => ⟨x, dx, w, rfl, upd_same, fun d H' nd e1 e2 F => ⟨rfl, ?_⟩⟩⟩
  have S1 := S.made (C := C) hx hd n
  have S2 := S1.chg1 0 rfl F e1
  exact k x dx d H' (S1.got S2 rfl nd e2)
/-- what comes: kept where there is room for it and nothing is there -/
def camK (t w : Int) (kvs : List (Key × V)) (i : Int) (v : V) : List (Key × V) := if (t ≤ i ∧ i < t + w) ∧ valV kvs (.inl i : Key) = none then putK kvs (.inl i) v else kvs
def spCame (C : Addr) : Sp := fun vs H Q _ => ∃ (p dx d : Addr) (w t i : Int) (e v : V) (kvs : List (Key × V)), vs = [.ref p, .int i, v] ∧ H p = some (.ins C dx (F_Taker w t d e)) ∧ H d = some (.dK kvs) ∧ kvs.length < 100000 ∧
  ∀ H' : Hp, H' d = some (.dK (camK t w kvs i v)) → (∀ b o, H b = some o → b ≠ d → H' b = some o) → Q .non H'
theorem c_came {C : Addr} {H0 H : Hp} {ft : List Addr} {l : List Cell} {t1 t2 : Nat} {p dx d : Addr} {w t i : Int} {e v : V} {kvs : List (Key × V)} {Q : VK} {E : XK} (S : Sep H0 ft H l) (n m : Nat) (h : l[n]? = some (t1, p, .ins C dx (F_Taker w t d e))) (h' : l[m]? = some (t2, d, .dK kvs)) (hl : kvs.length < 100000)
    (k : ∀ H', Sep H0 ft H' (l.set m (t2, d, .dK (camK t w kvs i v))) → Q .non H') (ht : t2 = 1 ∨ t2 = 2 := by first | exact .inl rfl | exact .inr rfl) : spCame C [.ref p, .int i, v] H Q E :=
  ⟨p, dx, d, w, t, i, e, v, kvs, rfl, S.get n h, S.get m h', hl, fun H' e1 F => k H' (S.chg1 m h' F e1 ht)⟩
def spTake (C : Addr) : Sp := fun vs H Q _ => ∃ (p dx d : Addr) (w t : Int) (e : V) (kvs : List (Key × V)), vs = [.ref p] ∧ H p = some (.ins C dx (F_Taker w t d e)) ∧ H d = some (.dK kvs) ∧
  (valV kvs (.inl t : Key) = none → ∀ H' : Hp, (∀ b o, H b = some o → H' b = some o) → Q .non H') ∧
  ∀ v, valV kvs (.inl t : Key) = some v → ∀ H' : Hp, H' p = some (.ins C dx (F_Taker w (t + 1) d e)) → H' d = some (.dK (dropK kvs (.inl t))) → (∀ b o, H b = some o → b ≠ p → b ≠ d → H' b = some o) → Q v H'
theorem c_take {C : Addr} {H0 H : Hp} {ft : List Addr} {l : List Cell} {t1 t2 : Nat} {p dx d : Addr} {w t : Int} {e : V} {kvs : List (Key × V)} {Q : VK} {E : XK} (S : Sep H0 ft H l) (n m : Nat) (h : l[n]? = some (t1, p, .ins C dx (F_Taker w t d e))) (h' : l[m]? = some (t2, d, .dK kvs))
    (k0 : valV kvs (.inl t : Key) = none → ∀ H', Sep H0 ft H' l → Q .non H') (k1 : ∀ v, valV kvs (.inl t : Key) = some v → ∀ H', Sep H0 ft H' ((l.set n (t1, p, .ins C dx (F_Taker w (t + 1) d e))).set m (t2, d, .dK (dropK kvs (.inl t)))) → Q v H') (nm : n ≠ m := by decide)
    (ht1 : t1 = 1 ∨ t1 = 2 := by first | exact .inl rfl | exact .inr rfl) (ht : t2 = 1 ∨ t2 = 2 := by first | exact .inl rfl | exact .inr rfl) : spTake C [.ref p] H Q E :=
  ⟨p, dx, d, w, t, e, kvs, rfl, S.get n h, S.get m h', fun hn H' F => k0 hn H' (S.stay F), fun v hv H' e1 e2 F => k1 v hv H' (S.chg2 n m h h' nm F e1 e2 ht1 ht)⟩
/-- how far the keys go from t on without a gap -/
structure Reach (kvs : List (Key × V)) (t g : Int) : Prop where
  le : t ≤ g
  all : ∀ i, t ≤ i → i < g → valV kvs (.inl i : Key) ≠ none
  no : valV kvs (.inl g : Key) = none
def above (kvs : List (Key × V)) (g : Int) : Nat := kvs.countP fun kv => match kv.1 with | .inl i => decide (g ≤ i) | .inr _ => false
theorem above_lt {g : Int} {v : V} : ∀ {kvs : List (Key × V)}, valV kvs (.inl g : Key) = some v → above kvs (g + 1) < above kvs g
  | [], h => by cases h
  | (k, x) :: r, h => by
    have mono : above r (g + 1) ≤ above r g := List.countP_mono_left fun kv _ hk => by
      revert hk
      cases kv.1 with
      | inl i => intro hk; exact decide_eq_true (by have := of_decide_eq_true hk; omega)
      | inr _ => intro hk; exact hk
    by_cases e : k = .inl g
    · subst e
      unfold above at mono ⊢
      rw [List.countP_cons, List.countP_cons, if_neg (by simp; omega), if_pos (by simp)]
      omega
    · rw [valV_neg (p := (k, x)) e] at h
      have ih := above_lt h
      unfold above at ih mono ⊢
      rw [List.countP_cons, List.countP_cons]
      have : (if (match (k, x).1 with | .inl i => decide (g + 1 ≤ i) | .inr _ => false) = true then 1 else 0) ≤ (if (match (k, x).1 with | .inl i => decide (g ≤ i) | .inr _ => false) = true then 1 else 0) := by
        cases k with
        | inl i =>
          show (if decide (g + 1 ≤ i) = true then 1 else 0) ≤ (if decide (g ≤ i) = true then 1 else 0)
          by_cases a : g + 1 ≤ i
          · rw [decide_eq_true a, decide_eq_true (show g ≤ i by omega)] <;> exact Nat.le_refl _
          · rw [decide_eq_false a]; exact Nat.zero_le _
        | inr _ => exact Nat.le_refl _
      omega
def spTold (C : Addr) : Sp := fun vs H Q _ => ∃ (p dx d : Addr) (w t : Int) (e : V) (kvs : List (Key × V)), vs = [.ref p] ∧ H p = some (.ins C dx (F_Taker w t d e)) ∧ H d = some (.dK kvs) ∧
  ∀ (g : Int) (q : Addr) (H' : Hp), Reach kvs t g → H q = none → H' q = some (.tup [.int g, .int (t + w)]) → (∀ b o, H b = some o → H' b = some o) → Q (.ref q) H'
theorem c_told {C : Addr} {H0 H : Hp} {ft : List Addr} {l : List Cell} {t1 t2 : Nat} {p dx d : Addr} {w t : Int} {e : V} {kvs : List (Key × V)} {Q : VK} {E : XK} (S : Sep H0 ft H l) (n m : Nat) (h : l[n]? = some (t1, p, .ins C dx (F_Taker w t d e))) (h' : l[m]? = some (t2, d, .dK kvs))
    (k : ∀ g q H', Reach kvs t g → Sep H0 ft H' ((2, q, .tup [.int g, .int (t + w)]) :: l) → Q (.ref q) H') : spTold C [.ref p] H Q E :=
  ⟨p, dx, d, w, t, e, kvs, rfl, S.get n h, S.get m h', fun g q H' r nq eq F => k g q H' r (S.got (S.stay F) rfl nq eq)⟩
def EndV (e : V) : Prop := e = .non ∨ ∃ m : Int, e = .int m
/-- has it come so far: what is told of the end -/
def endN (e : V) (g : Int) : Bool := match e with | .int m => decide (g ≥ m) | _ => false
theorem Reach.uniq {k k' : List (Key × V)} {t g g' : Int} (r : Reach k t g) (r' : Reach k' t g') (e : ∀ i, t ≤ i → (valV k (.inl i : Key) ≠ none ↔ valV k' (.inl i : Key) ≠ none)) : g = g' := by
  rcases Int.lt_trichotomy g g' with h | h | h
  · exact absurd r.no (((e g r.le).mpr (r'.all g r.le h)))
  · exact h
  · exact absurd r'.no (((e g' r'.le).mp (r.all g' r'.le h)))
theorem Reach.same {k : List (Key × V)} {t g g' : Int} (r : Reach k t g) (r' : Reach k t g') : g = g' := r.uniq r' fun _ _ => Iff.rfl
theorem valV_drop (k : Key) (j : Key) : ∀ kvs : List (Key × V), valV (dropK kvs k) j = if j = k then none else valV kvs j
  | [] => by simp [dropK, valV]
  | p :: r => by
    have ih := valV_drop k j r
    by_cases e : p.1 = k
    · rw [dropK_pos e, ih]
      by_cases z : j = k
      · rw [if_pos z, if_pos z]
      · rw [if_neg z, if_neg z, valV_neg (fun q => z (q.symm.trans e))]
    · rw [dropK_neg e]
      by_cases z : p.1 = j
      · rw [valV_pos z, valV_pos z, if_neg (fun q => e (z.trans q))]
      · rw [valV_neg z, valV_neg z, ih]
/-- ints alone are kept -/
def IntsK (kvs : List (Key × V)) : Prop := ∀ i v, valV kvs (.inl i : Key) = some v → ∃ z : Int, v = .int z
theorem IntsK.nil : IntsK [] := fun _ _ h => nomatch h
theorem IntsK.put {kvs : List (Key × V)} {i z : Int} (h : IntsK kvs) : IntsK (putK kvs (.inl i) (.int z)) := fun j v e => by
  rw [valV_put] at e
  by_cases q : (.inl j : Key) = .inl i
  · rw [if_pos q] at e; exact ⟨z, (Option.some.inj e).symm⟩
  · rw [if_neg q] at e; exact h j v e
theorem IntsK.drop {kvs : List (Key × V)} {k : Key} (h : IntsK kvs) : IntsK (dropK kvs k) := fun j v e => by
  rw [valV_drop] at e
  by_cases q : (.inl j : Key) = k
  · rw [if_pos q] at e; cases e
  · rw [if_neg q] at e; exact h j v e
theorem len_dropK {k : List (Key × V)} {i : Key} : (dropK k i).length ≤ k.length := List.length_filter_le _ _
def spEnds (C : Addr) : Sp := fun vs H Q _ => ∃ (p dx d : Addr) (w t : Int) (e v : V), vs = [.ref p, v] ∧ H p = some (.ins C dx (F_Taker w t d e)) ∧ ∀ H' : Hp, H' p = some (.ins C dx (F_Taker w t d (if e = .non then v else e))) → (∀ b o, H b = some o → b ≠ p → H' b = some o) → Q .non H'
theorem c_ends {C : Addr} {H0 H : Hp} {ft : List Addr} {l : List Cell} {t1 : Nat} {p dx d : Addr} {w t : Int} {e v : V} {Q : VK} {E : XK} (S : Sep H0 ft H l) (n : Nat) (h : l[n]? = some (t1, p, .ins C dx (F_Taker w t d e)))
    (k : ∀ H', Sep H0 ft H' (l.set n (t1, p, .ins C dx (F_Taker w t d (if e = .non then v else e)))) → Q .non H') (ht : t1 = 1 ∨ t1 = 2 := by first | exact .inl rfl | exact .inr rfl) : spEnds C [.ref p, v] H Q E :=
  ⟨p, dx, d, w, t, e, v, rfl, S.get n h, fun H' e1 F => k H' (S.chg1 n h F e1 ht)⟩
def spHasAll (C : Addr) : Sp := fun vs H Q _ => ∃ (p dx d : Addr) (w t : Int) (e : V) (kvs : List (Key × V)), vs = [.ref p] ∧ H p = some (.ins C dx (F_Taker w t d e)) ∧ H d = some (.dK kvs) ∧ EndV e ∧
  ∀ (b : Bool) (H' : Hp), (∀ g, Reach kvs t g → b = endN e g) → (∀ b o, H b = some o → H' b = some o) → Q (.bl b) H'
theorem c_hasall {C : Addr} {H0 H : Hp} {ft : List Addr} {l : List Cell} {t1 t2 : Nat} {p dx d : Addr} {w t : Int} {e : V} {kvs : List (Key × V)} {Q : VK} {E : XK} (S : Sep H0 ft H l) (n m : Nat) (h : l[n]? = some (t1, p, .ins C dx (F_Taker w t d e))) (h' : l[m]? = some (t2, d, .dK kvs)) (he : EndV e)
    (k : ∀ b H', (∀ g, Reach kvs t g → b = endN e g) → Sep H0 ft H' l → Q (.bl b) H') : spHasAll C [.ref p] H Q E :=
  ⟨p, dx, d, w, t, e, kvs, rfl, S.get n h, S.get m h', he, fun b H' hb F => k b H' hb (S.stay F)⟩
def spIsEnded (C : Addr) : Sp := fun vs H Q _ => ∃ (p dx d : Addr) (w t : Int) (e : V), vs = [.ref p] ∧ H p = some (.ins C dx (F_Taker w t d e)) ∧ EndV e ∧ Q (.bl (endN e t)) H
theorem c_isended {C : Addr} {H0 H : Hp} {ft : List Addr} {l : List Cell} {t1 : Nat} {p dx d : Addr} {w t : Int} {e : V} {Q : VK} {E : XK} (S : Sep H0 ft H l) (n : Nat) (h : l[n]? = some (t1, p, .ins C dx (F_Taker w t d e))) (he : EndV e) (k : Q (.bl (endN e t)) H) : spIsEnded C [.ref p] H Q E :=
  ⟨p, dx, d, w, t, e, rfl, S.get n h, he, k⟩
section
variable {P : Program} {w : World} {K : PySem.W.Frag} {mg : Str → Option Value} {base : Heap}
abbrev s_Taker__init : Stmt := (inClass (topS 3) 0)
theorem sc_Taker__init : FnScope ["self", "window"] ["self", "window"] (defScope s_Taker__init) := ⟨rfl, rfl, rfl, by decide +kernel, rfl, by decide +kernel, by decide +kernel⟩
theorem ok_Taker__init {f : Addr} {fd : FuncData} {C : Addr} (F : L2.Fun K "__init__" "Taker.__init__" s_Taker__init f fd) (T : TkCls K C) : FnOk P w K mg base CX0 1 f fd ["self", "window"] (spTkInit C) := by
  refine F.ok sc_Taker__init (fun vs H Q E h => ?_) (fun cdv A outer s H0 vs Q E hr h => ?_)
  · obtain ⟨p, dx, w, rfl, hp, k⟩ := h
    rfl
  · obtain ⟨p, dx, w, rfl, hp, k⟩ := h
    have hu := hu_of hr
    have S := Sep.of1 hp
    refine ⟨_, pss_cons (ps_fld1 (pv 0) (pv 1) rfl)
      (pss_cons (ps_fld1 (pv 0) (pe_int) rfl)
      (pss_cons (ps_fld1 (pv 0) (pe_dnewK) rfl)
      (pss_one (ps_fld1 (pv 0) (pe_non) rfl)))), ?_⟩
    rw [show start ["self", "window"] [V.ref p, V.int w] = [some (V.ref p), some (V.int w)] from rfl]
    try dsimp only [tSeq, tAsg, gName, tOp, tUn, tCB, tCons, tNil, tCall, tMethK1, tCallK1, tPar3, tRet, tRetN, tDrop, tTest, tB, tC, tNext, tAugS, tAug, sFld1, sFldAug1, tMeth1, tMake, tMakeK1, tSl, tPart, tNoPart, sDPut1, tDPop, tBM, tBM0, tPar, gSub, tChain, tNot, tNotV, iList1, iTup1, iRng1, iRng2, List.set_cons_zero, List.set_cons_succ]
    refine x_var (by exact rfl) ?_
    refine x_var (by exact rfl) ?_
    refine x_sfld S 0 (by exact rfl) T.c_Taker T.na_Taker_wide pi_Taker_1 (by exact Nat.le_of_ble_eq_true rfl) (fun H S => ?_)
    simp only [List.set_cons_zero, List.set_cons_succ] at S
    try dsimp only [tSeq, tAsg, gName, tOp, tUn, tCB, tCons, tNil, tCall, tMethK1, tCallK1, tPar3, tRet, tRetN, tDrop, tTest, tB, tC, tNext, tAugS, tAug, sFld1, sFldAug1, tMeth1, tMake, tMakeK1, tSl, tPart, tNoPart, sDPut1, tDPop, tBM, tBM0, tPar, gSub, tChain, tNot, tNotV, iList1, iTup1, iRng1, iRng2, List.set_cons_zero, List.set_cons_succ]
    refine x_var (by exact rfl) ?_
    refine x_sfld S 0 (by exact rfl) T.c_Taker T.na_Taker_taken pi_Taker_2 (by exact Nat.le_of_ble_eq_true rfl) (fun H S => ?_)
    simp only [List.set_cons_zero, List.set_cons_succ] at S
    try dsimp only [tSeq, tAsg, gName, tOp, tUn, tCB, tCons, tNil, tCall, tMethK1, tCallK1, tPar3, tRet, tRetN, tDrop, tTest, tB, tC, tNext, tAugS, tAug, sFld1, sFldAug1, tMeth1, tMake, tMakeK1, tSl, tPart, tNoPart, sDPut1, tDPop, tBM, tBM0, tPar, gSub, tChain, tNot, tNotV, iList1, iTup1, iRng1, iRng2, List.set_cons_zero, List.set_cons_succ]
    refine x_dnew S (fun D1 H S => ?_)
    refine x_var (by exact rfl) ?_
    refine x_sfld S 1 (by exact rfl) T.c_Taker T.na_Taker_kept pi_Taker_3 (by exact Nat.le_of_ble_eq_true rfl) (fun H S => ?_)
    simp only [List.set_cons_zero, List.set_cons_succ] at S
    try dsimp only [tSeq, tAsg, gName, tOp, tUn, tCB, tCons, tNil, tCall, tMethK1, tCallK1, tPar3, tRet, tRetN, tDrop, tTest, tB, tC, tNext, tAugS, tAug, sFld1, sFldAug1, tMeth1, tMake, tMakeK1, tSl, tPart, tNoPart, sDPut1, tDPop, tBM, tBM0, tPar, gSub, tChain, tNot, tNotV, iList1, iTup1, iRng1, iRng2, List.set_cons_zero, List.set_cons_succ]
    refine x_var (by exact rfl) ?_
    refine x_sfld S 1 (by exact rfl) T.c_Taker T.na_Taker_end pi_Taker_4 (by exact Nat.le_of_ble_eq_true rfl) (fun H S => ?_)
    simp only [List.set_cons_zero, List.set_cons_succ] at S
    exact k _ _ (S.new_none 0 rfl) (S.get 1 rfl) (S.get 0 rfl) S.out1
abbrev s_Taker_came : Stmt := (inClass (topS 3) 1)
theorem sc_Taker_came : FnScope ["self", "place", "value"] ["self", "place", "value"] (defScope s_Taker_came) := ⟨rfl, rfl, rfl, by decide +kernel, rfl, by decide +kernel, by decide +kernel⟩
theorem ok_Taker_came {f : Addr} {fd : FuncData} {C : Addr} (F : L2.Fun K "came" "Taker.came" s_Taker_came f fd) (T : TkCls K C) : FnOk P w K mg base CX0 1 f fd ["self", "place", "value"] (spCame C) := by
  refine F.ok sc_Taker_came (fun vs H Q E h => ?_) (fun cdv A outer s H0 vs Q E hr h => ?_)
  · obtain ⟨p, dx, d, w, t, i, e, v, kvs, rfl, hp, hd, hl, k⟩ := h
    rfl
  · obtain ⟨p, dx, d, w, t, i, e, v, kvs, rfl, hp, hd, hl, k⟩ := h
    have hu := hu_of hr
    have S : Sep H0 [d] H0 [(0, p, .ins C dx (F_Taker w t d e)), (1, d, .dK kvs)] := (Sep.of1 hd).add 0 hp (fun c hc z => by rw [List.mem_singleton.mp hc] at z; exact ne_of hd hp (by intro z; cases z) z) (fun z => by cases z) (fun z => by cases z)
    refine ⟨_, pss_one (ps_if ((pw_and (pt_chain op_le op_lt (pe_fldK K (pv 0)) (pv 1) (pe_op op_add (pe_fldK K (pv 0)) (pe_fldK K (pv 0)))) (pw_and1 (pt_cmp (pc_dni1 hu (pv 1) (pe_fldK K (pv 0)))))).pt) (pss_one (ps_dput1 hu (pe_fldK K (pv 0)) (pv 1) (pv 2) rfl)) (pss_nil)), ?_⟩
    rw [show start ["self", "place", "value"] [V.ref p, V.int i, v] = [some (V.ref p), some (V.int i), some (v)] from rfl]
    try dsimp only [tSeq, tAsg, gName, tOp, tUn, tCB, tCons, tNil, tCall, tMethK1, tCallK1, tPar3, tRet, tRetN, tDrop, tTest, tB, tC, tNext, tAugS, tAug, sFld1, sFldAug1, tMeth1, tMake, tMakeK1, tSl, tPart, tNoPart, sDPut1, tDPop, tBM, tBM0, tPar, gSub, tChain, tNot, tNotV, iList1, iTup1, iRng1, iRng2, List.set_cons_zero, List.set_cons_succ]
    refine x_if ?_
    try dsimp only [tSeq, tAsg, gName, tOp, tUn, tCB, tCons, tNil, tCall, tMethK1, tCallK1, tPar3, tRet, tRetN, tDrop, tTest, tB, tC, tNext, tAugS, tAug, sFld1, sFldAug1, tMeth1, tMake, tMakeK1, tSl, tPart, tNoPart, sDPut1, tDPop, tBM, tBM0, tPar, gSub, tChain, tNot, tNotV, iList1, iTup1, iRng1, iRng2, List.set_cons_zero, List.set_cons_succ]
    refine x_and ?_
    try dsimp only [tSeq, tAsg, gName, tOp, tUn, tCB, tCons, tNil, tCall, tMethK1, tCallK1, tPar3, tRet, tRetN, tDrop, tTest, tB, tC, tNext, tAugS, tAug, sFld1, sFldAug1, tMeth1, tMake, tMakeK1, tSl, tPart, tNoPart, sDPut1, tDPop, tBM, tBM0, tPar, gSub, tChain, tNot, tNotV, iList1, iTup1, iRng1, iRng2, List.set_cons_zero, List.set_cons_succ]
    refine x_var (by exact rfl) ?_
    refine x_fld S 0 (by exact rfl) T.c_Taker T.na_Taker_taken lk_Taker_taken ?_
    refine x_var (by exact rfl) ?_
    refine x_I0 ?_
    refine ⟨_, rfl, ?_⟩
    refine ited (fun c1 => ?_) (fun c1 => ?_)
    · refine x_var (by exact rfl) ?_
      refine x_fld S 0 (by exact rfl) T.c_Taker T.na_Taker_taken lk_Taker_taken ?_
      refine x_var (by exact rfl) ?_
      refine x_fld S 0 (by exact rfl) T.c_Taker T.na_Taker_wide lk_Taker_wide ?_
      refine x_I0 ?_
      refine x_I0 ?_
      refine ⟨_, rfl, ?_⟩
      refine ited (fun c2 => ?_) (fun c2 => ?_)
      · refine x_var (by exact rfl) ?_
        refine x_var (by exact rfl) ?_
        refine x_fld S 0 (by exact rfl) T.c_Taker T.na_Taker_kept lk_Taker_kept ?_
        refine x_dni (k := Sum.inl _) S 1 (by exact rfl) ?_
        refine ⟨_, rfl, ?_⟩
        refine iteNone (fun c3 => ?_) (fun wc3 c3 => ?_)
        · try dsimp only [tSeq, tAsg, gName, tOp, tUn, tCB, tCons, tNil, tCall, tMethK1, tCallK1, tPar3, tRet, tRetN, tDrop, tTest, tB, tC, tNext, tAugS, tAug, sFld1, sFldAug1, tMeth1, tMake, tMakeK1, tSl, tPart, tNoPart, sDPut1, tDPop, tBM, tBM0, tPar, gSub, tChain, tNot, tNotV, iList1, iTup1, iRng1, iRng2, List.set_cons_zero, List.set_cons_succ]
          refine x_var (by exact rfl) ?_
          refine x_var (by exact rfl) ?_
          refine x_fld S 0 (by exact rfl) T.c_Taker T.na_Taker_kept lk_Taker_kept ?_
          refine x_var (by exact rfl) ?_
          refine x_dput (k := Sum.inl _) S 1 (by exact rfl) (by omega) (fun H S => ?_)
          simp only [List.set_cons_zero, List.set_cons_succ] at S
          exact k _ (by unfold camK; first | (rw [if_pos ⟨⟨by assumption, by assumption⟩, by assumption⟩]; exact S.get 1 rfl) | (rw [if_neg (by rintro ⟨⟨a, b⟩, c⟩; first | contradiction | omega | simp_all)]; exact S.get 1 rfl)) (fun b o e n => by exact S.fr b o e (by simp [n]))
        · exact k _ (by unfold camK; first | (rw [if_pos ⟨⟨by assumption, by assumption⟩, by assumption⟩]; exact S.get 1 rfl) | (rw [if_neg (by rintro ⟨⟨a, b⟩, c⟩; first | contradiction | omega | simp_all)]; exact S.get 1 rfl)) (fun b o e n => by exact S.fr b o e (by simp [n]))
      · refine iteF ?_
        exact k _ (by unfold camK; first | (rw [if_pos ⟨⟨by assumption, by assumption⟩, by assumption⟩]; exact S.get 1 rfl) | (rw [if_neg (by rintro ⟨⟨a, b⟩, c⟩; first | contradiction | omega | simp_all)]; exact S.get 1 rfl)) (fun b o e n => by exact S.fr b o e (by simp [n]))
    · refine ⟨_, rfl, ?_⟩
      refine iteF ?_
      refine iteF ?_
      exact k _ (by unfold camK; first | (rw [if_pos ⟨⟨by assumption, by assumption⟩, by assumption⟩]; exact S.get 1 rfl) | (rw [if_neg (by rintro ⟨⟨a, b⟩, c⟩; first | contradiction | omega | simp_all)]; exact S.get 1 rfl)) (fun b o e n => by exact S.fr b o e (by simp [n]))
abbrev s_Taker_take : Stmt := (inClass (topS 3) 4)
theorem sc_Taker_take : FnScope ["self", "value"] ["self"] (defScope s_Taker_take) := ⟨rfl, rfl, rfl, by decide +kernel, rfl, by decide +kernel, by decide +kernel⟩
theorem ok_Taker_take {f : Addr} {fd : FuncData} {C : Addr} (F : L2.Fun K "take" "Taker.take" s_Taker_take f fd) (T : TkCls K C) : FnOk P w K mg base CX0 1 f fd ["self"] (spTake C) := by
  refine F.ok sc_Taker_take (fun vs H Q E h => ?_) (fun cdv A outer s H0 vs Q E hr h => ?_)
  · obtain ⟨p, dx, d, w, t, e, kvs, rfl, hp, hd, k0, k1⟩ := h
    rfl
  · obtain ⟨p, dx, d, w, t, e, kvs, rfl, hp, hd, k0, k1⟩ := h
    have hu := hu_of hr
    have S := Sep.of2 hp hd (ne_of hp hd (by intro z; cases z))
    refine ⟨_, pss_cons (ps_if (pt_cmp (pc_dni1 hu (pe_fldK K (pv 0)) (pe_fldK K (pv 0)))) (pss_one (ps_ret (pe_non))) (pss_nil))
      (pss_cons (ps_set (i := 1) sc_Taker_take.nd rfl (.inl rfl) (pe_dpop (pe_fldK K (pv 0)) (pe_fldK K (pv 0)) ⟨rfl, rfl, rfl, rfl⟩))
      (pss_cons (ps_fldaug1 (pv 0) (pe_int) in_add)
      (pss_one (ps_ret (pv 1))))), ?_⟩
    rw [show start ["self", "value"] [V.ref p] = [some (V.ref p), none] from rfl]
    try dsimp only [tSeq, tAsg, gName, tOp, tUn, tCB, tCons, tNil, tCall, tMethK1, tCallK1, tPar3, tRet, tRetN, tDrop, tTest, tB, tC, tNext, tAugS, tAug, sFld1, sFldAug1, tMeth1, tMake, tMakeK1, tSl, tPart, tNoPart, sDPut1, tDPop, tBM, tBM0, tPar, gSub, tChain, tNot, tNotV, iList1, iTup1, iRng1, iRng2, List.set_cons_zero, List.set_cons_succ]
    refine x_if ?_
    try dsimp only [tSeq, tAsg, gName, tOp, tUn, tCB, tCons, tNil, tCall, tMethK1, tCallK1, tPar3, tRet, tRetN, tDrop, tTest, tB, tC, tNext, tAugS, tAug, sFld1, sFldAug1, tMeth1, tMake, tMakeK1, tSl, tPart, tNoPart, sDPut1, tDPop, tBM, tBM0, tPar, gSub, tChain, tNot, tNotV, iList1, iTup1, iRng1, iRng2, List.set_cons_zero, List.set_cons_succ]
    refine x_var (by exact rfl) ?_
    refine x_fld S 0 (by exact rfl) T.c_Taker T.na_Taker_taken lk_Taker_taken ?_
    refine x_var (by exact rfl) ?_
    refine x_fld S 0 (by exact rfl) T.c_Taker T.na_Taker_kept lk_Taker_kept ?_
    refine x_dni (k := Sum.inl _) S 1 (by exact rfl) ?_
    refine ⟨_, rfl, ?_⟩
    refine iteNone (fun c1 => ?_) (fun wc1 c1 => ?_)
    · try dsimp only [tSeq, tAsg, gName, tOp, tUn, tCB, tCons, tNil, tCall, tMethK1, tCallK1, tPar3, tRet, tRetN, tDrop, tTest, tB, tC, tNext, tAugS, tAug, sFld1, sFldAug1, tMeth1, tMake, tMakeK1, tSl, tPart, tNoPart, sDPut1, tDPop, tBM, tBM0, tPar, gSub, tChain, tNot, tNotV, iList1, iTup1, iRng1, iRng2, List.set_cons_zero, List.set_cons_succ]
      exact k0 (by assumption) _ (fun b o e => e)
    · try dsimp only [tSeq, tAsg, gName, tOp, tUn, tCB, tCons, tNil, tCall, tMethK1, tCallK1, tPar3, tRet, tRetN, tDrop, tTest, tB, tC, tNext, tAugS, tAug, sFld1, sFldAug1, tMeth1, tMake, tMakeK1, tSl, tPart, tNoPart, sDPut1, tDPop, tBM, tBM0, tPar, gSub, tChain, tNot, tNotV, iList1, iTup1, iRng1, iRng2, List.set_cons_zero, List.set_cons_succ]
      refine x_var (by exact rfl) ?_
      refine x_fld S 0 (by exact rfl) T.c_Taker T.na_Taker_kept lk_Taker_kept ?_
      refine x_isD S 1 (by exact rfl) ?_
      refine x_var (by exact rfl) ?_
      refine x_fld S 0 (by exact rfl) T.c_Taker T.na_Taker_taken lk_Taker_taken ?_
      refine x_dpop (k := Sum.inl _) S 1 (by exact rfl) (by assumption) (fun H S => ?_)
      simp only [List.set_cons_zero, List.set_cons_succ] at S
      try dsimp only [tSeq, tAsg, gName, tOp, tUn, tCB, tCons, tNil, tCall, tMethK1, tCallK1, tPar3, tRet, tRetN, tDrop, tTest, tB, tC, tNext, tAugS, tAug, sFld1, sFldAug1, tMeth1, tMake, tMakeK1, tSl, tPart, tNoPart, sDPut1, tDPop, tBM, tBM0, tPar, gSub, tChain, tNot, tNotV, iList1, iTup1, iRng1, iRng2, List.set_cons_zero, List.set_cons_succ]
      refine x_var (by exact rfl) ?_
      refine x_fldA S 0 (by exact rfl) T.c_Taker T.na_Taker_taken lk_Taker_taken ?_
      refine x_add ?_
      refine x_augf S 0 (by exact rfl) pt_Taker_taken (by exact Nat.le_of_ble_eq_true rfl) (fun H S => ?_)
      simp only [List.set_cons_zero, List.set_cons_succ] at S
      try dsimp only [tSeq, tAsg, gName, tOp, tUn, tCB, tCons, tNil, tCall, tMethK1, tCallK1, tPar3, tRet, tRetN, tDrop, tTest, tB, tC, tNext, tAugS, tAug, sFld1, sFldAug1, tMeth1, tMake, tMakeK1, tSl, tPart, tNoPart, sDPut1, tDPop, tBM, tBM0, tPar, gSub, tChain, tNot, tNotV, iList1, iTup1, iRng1, iRng2, List.set_cons_zero, List.set_cons_succ]
      refine x_var (by exact rfl) ?_
      exact k1 _ (by assumption) _ (S.get 0 rfl) (S.get 1 rfl) S.out2
abbrev s_Taker_told : Stmt := (inClass (topS 3) 5)
theorem sc_Taker_told : FnScope ["self", "got"] ["self"] (defScope s_Taker_told) := ⟨rfl, rfl, rfl, by decide +kernel, rfl, by decide +kernel, by decide +kernel⟩
theorem ok_Taker_told {f : Addr} {fd : FuncData} {C : Addr} (F : L2.Fun K "told" "Taker.told" s_Taker_told f fd) (T : TkCls K C) : FnOk P w K mg base CX0 1 f fd ["self"] (spTold C) := by
  refine F.ok sc_Taker_told (fun vs H Q E h => ?_) (fun cdv A outer s H0 vs Q E hr h => ?_)
  · obtain ⟨p, dx, d, w, t, e, kvs, rfl, hp, hd, k⟩ := h
    rfl
  · obtain ⟨p, dx, d, w, t, e, kvs, rfl, hp, hd, k⟩ := h
    have hu := hu_of hr
    have S : Sep H0 [] H0 [(0, p, .ins C dx (F_Taker w t d e)), (0, d, .dK kvs)] := (Sep.of0.add 0 hd (fun _ z => nomatch z) (fun z => by cases z) (fun z => by cases z)).add 0 hp (fun c hc z => by rw [List.mem_singleton.mp hc] at z; exact ne_of hd hp (by intro z; cases z) z) (fun z => by cases z) (fun z => by cases z)
    refine ⟨_, pss_cons (ps_set (i := 1) sc_Taker_told.nd rfl (.inl rfl) (pe_fldK K (pv 0)))
      (pss_cons (ps_while PassesOwn.never (pt_cmp (pc_din1 hu (pv 1) (pe_fldK K (pv 0)))) (pss_one (ps_aug (i := 1) sc_Taker_told.nd rfl (.inl rfl) (pe_int) ip_add)))
      (pss_one (ps_ret (pe_tup1 (pa_cons (pv 1) (pa_cons (pe_op op_add (pe_fldK K (pv 0)) (pe_fldK K (pv 0))) pa_nil)))))), ?_⟩
    rw [show start ["self", "got"] [V.ref p] = [some (V.ref p), none] from rfl]
    try dsimp only [tSeq, tAsg, gName, tOp, tUn, tCB, tCons, tNil, tCall, tMethK1, tCallK1, tPar3, tRet, tRetN, tDrop, tTest, tB, tC, tNext, tAugS, tAug, sFld1, sFldAug1, tMeth1, tMake, tMakeK1, tSl, tPart, tNoPart, sDPut1, tDPop, tBM, tBM0, tPar, gSub, tChain, tNot, tNotV, iList1, iTup1, iRng1, iRng2, List.set_cons_zero, List.set_cons_succ]
    refine x_var (by exact rfl) ?_
    refine x_fld S 0 (by exact rfl) T.c_Taker T.na_Taker_taken lk_Taker_taken ?_
    try dsimp only [tSeq, tAsg, gName, tOp, tUn, tCB, tCons, tNil, tCall, tMethK1, tCallK1, tPar3, tRet, tRetN, tDrop, tTest, tB, tC, tNext, tAugS, tAug, sFld1, sFldAug1, tMeth1, tMake, tMakeK1, tSl, tPart, tNoPart, sDPut1, tDPop, tBM, tBM0, tPar, gSub, tChain, tNot, tNotV, iList1, iTup1, iRng1, iRng2, List.set_cons_zero, List.set_cons_succ]
    refine x_while (fun m σ H' => ∃ z : Int, σ = [some (.ref p), some (.int z)] ∧ H' = H0 ∧ m = above kvs z ∧ t ≤ z ∧ ∀ i, t ≤ i → i < z → valV kvs (.inl i : Key) ≠ none) (above kvs t) ?_ ?_
    · exact ⟨t, rfl, rfl, rfl, Int.le_refl _, fun i a b => absurd a (by omega)⟩
    · rintro m σ H ⟨z, rfl, rfl, rfl, hle, hall⟩
      try dsimp only [tSeq, tAsg, gName, tOp, tUn, tCB, tCons, tNil, tCall, tMethK1, tCallK1, tPar3, tRet, tRetN, tDrop, tTest, tB, tC, tNext, tAugS, tAug, sFld1, sFldAug1, tMeth1, tMake, tMakeK1, tSl, tPart, tNoPart, sDPut1, tDPop, tBM, tBM0, tPar, gSub, tChain, tNot, tNotV, iList1, iTup1, iRng1, iRng2, List.set_cons_zero, List.set_cons_succ]
      refine x_var (by exact rfl) ?_
      refine x_var (by exact rfl) ?_
      refine x_fld S 0 (by exact rfl) T.c_Taker T.na_Taker_kept lk_Taker_kept ?_
      refine x_din (k := Sum.inl _) S 1 (by exact rfl) ?_
      refine ⟨_, rfl, ?_⟩
      refine iteSome (fun wc1 c1 => ?_) (fun c1 => ?_)
      · refine x_turn ?_
        try dsimp only [tSeq, tAsg, gName, tOp, tUn, tCB, tCons, tNil, tCall, tMethK1, tCallK1, tPar3, tRet, tRetN, tDrop, tTest, tB, tC, tNext, tAugS, tAug, sFld1, sFldAug1, tMeth1, tMake, tMakeK1, tSl, tPart, tNoPart, sDPut1, tDPop, tBM, tBM0, tPar, gSub, tChain, tNot, tNotV, iList1, iTup1, iRng1, iRng2, List.set_cons_zero, List.set_cons_succ]
        refine ⟨_, rfl, ?_⟩
        refine x_ip ?_
        refine ⟨_, above_lt (by assumption), z + 1, rfl, rfl, rfl, by omega, fun i a b => ?_⟩
        by_cases e : i = z
        · subst e; intro q; simp_all
        · exact hall i a (by omega)
      · have hno := c1
        try dsimp only [tSeq, tAsg, gName, tOp, tUn, tCB, tCons, tNil, tCall, tMethK1, tCallK1, tPar3, tRet, tRetN, tDrop, tTest, tB, tC, tNext, tAugS, tAug, sFld1, sFldAug1, tMeth1, tMake, tMakeK1, tSl, tPart, tNoPart, sDPut1, tDPop, tBM, tBM0, tPar, gSub, tChain, tNot, tNotV, iList1, iTup1, iRng1, iRng2, List.set_cons_zero, List.set_cons_succ]
        try dsimp only [tSeq, tAsg, gName, tOp, tUn, tCB, tCons, tNil, tCall, tMethK1, tCallK1, tPar3, tRet, tRetN, tDrop, tTest, tB, tC, tNext, tAugS, tAug, sFld1, sFldAug1, tMeth1, tMake, tMakeK1, tSl, tPart, tNoPart, sDPut1, tDPop, tBM, tBM0, tPar, gSub, tChain, tNot, tNotV, iList1, iTup1, iRng1, iRng2, List.set_cons_zero, List.set_cons_succ]
        refine x_var (by exact rfl) ?_
        refine x_var (by exact rfl) ?_
        refine x_fld S 0 (by exact rfl) T.c_Taker T.na_Taker_taken lk_Taker_taken ?_
        refine x_var (by exact rfl) ?_
        refine x_fld S 0 (by exact rfl) T.c_Taker T.na_Taker_wide lk_Taker_wide ?_
        refine x_I0 ?_
        refine x_tup S (by exact Nat.le_of_ble_eq_true rfl) (fun U1 H S => ?_)
        exact k _ _ _ ⟨hle, hall, hno⟩ (S.new_none 0 rfl) (S.get 0 rfl) (fun b o e => S.fr b o e (by simp))
abbrev s_Taker_ends : Stmt := (inClass (topS 3) 2)
theorem sc_Taker_ends : FnScope ["self", "many"] ["self", "many"] (defScope s_Taker_ends) := ⟨rfl, rfl, rfl, by decide +kernel, rfl, by decide +kernel, by decide +kernel⟩
theorem ok_Taker_ends {f : Addr} {fd : FuncData} {C : Addr} (F : L2.Fun K "ends" "Taker.ends" s_Taker_ends f fd) (T : TkCls K C) : FnOk P w K mg base CX0 1 f fd ["self", "many"] (spEnds C) := by
  refine F.ok sc_Taker_ends (fun vs H Q E h => ?_) (fun cdv A outer s H0 vs Q E hr h => ?_)
  · obtain ⟨p, dx, d, w, t, e, v, rfl, hp, k⟩ := h
    rfl
  · obtain ⟨p, dx, d, w, t, e, v, rfl, hp, k⟩ := h
    have hu := hu_of hr
    have S := Sep.of1 hp
    refine ⟨_, pss_one (ps_if (pt_cmpR op_isN (pe_fldK K (pv 0)) (pe_non) (nomark _)) (pss_one (ps_fld1 (pv 0) (pv 1) rfl)) (pss_nil)), ?_⟩
    rw [show start ["self", "many"] [V.ref p, v] = [some (V.ref p), some (v)] from rfl]
    try dsimp only [tSeq, tAsg, gName, tOp, tUn, tCB, tCons, tNil, tCall, tMethK1, tCallK1, tPar3, tRet, tRetN, tDrop, tTest, tB, tC, tNext, tAugS, tAug, sFld1, sFldAug1, tMeth1, tMake, tMakeK1, tSl, tPart, tNoPart, sDPut1, tDPop, tBM, tBM0, tPar, gSub, tChain, tNot, tNotV, iList1, iTup1, iRng1, iRng2, List.set_cons_zero, List.set_cons_succ]
    refine x_if ?_
    try dsimp only [tSeq, tAsg, gName, tOp, tUn, tCB, tCons, tNil, tCall, tMethK1, tCallK1, tPar3, tRet, tRetN, tDrop, tTest, tB, tC, tNext, tAugS, tAug, sFld1, sFldAug1, tMeth1, tMake, tMakeK1, tSl, tPart, tNoPart, sDPut1, tDPop, tBM, tBM0, tPar, gSub, tChain, tNot, tNotV, iList1, iTup1, iRng1, iRng2, List.set_cons_zero, List.set_cons_succ]
    refine x_var (by exact rfl) ?_
    refine x_fld S 0 (by exact rfl) T.c_Taker T.na_Taker_end lk_Taker_end ?_
    refine ⟨rfl, ?_⟩
    refine ⟨_, rfl, ?_⟩
    refine ited (fun c1 => ?_) (fun c1 => ?_)
    · try dsimp only [tSeq, tAsg, gName, tOp, tUn, tCB, tCons, tNil, tCall, tMethK1, tCallK1, tPar3, tRet, tRetN, tDrop, tTest, tB, tC, tNext, tAugS, tAug, sFld1, sFldAug1, tMeth1, tMake, tMakeK1, tSl, tPart, tNoPart, sDPut1, tDPop, tBM, tBM0, tPar, gSub, tChain, tNot, tNotV, iList1, iTup1, iRng1, iRng2, List.set_cons_zero, List.set_cons_succ]
      refine x_var (by exact rfl) ?_
      refine x_var (by exact rfl) ?_
      refine x_sfld S 0 (by exact rfl) T.c_Taker T.na_Taker_end pt_Taker_end (by exact Nat.le_of_ble_eq_true rfl) (fun H S => ?_)
      simp only [List.set_cons_zero, List.set_cons_succ] at S
      exact k _ (by rw [if_pos (by assumption)]; exact S.get 0 rfl) S.out1
    · exact k _ (by rw [if_neg (by assumption)]; exact S.get 0 rfl) S.out1
abbrev s_Taker_has_all : Stmt := (inClass (topS 3) 6)
theorem sc_Taker_has_all : FnScope ["self"] ["self"] (defScope s_Taker_has_all) := ⟨rfl, rfl, rfl, by decide +kernel, rfl, by decide +kernel, by decide +kernel⟩
theorem ok_Taker_has_all {f : Addr} {fd : FuncData} {C : Addr} (F : L2.Fun K "has_all" "Taker.has_all" s_Taker_has_all f fd) (T : TkCls K C) (mtold : Met P w K mg base CX0 1 C "told" (spTold C)) : FnOk P w K mg base CX0 2 f fd ["self"] (spHasAll C) := by
  refine F.ok sc_Taker_has_all (fun vs H Q E h => ?_) (fun cdv A outer s H0 vs Q E hr h => ?_)
  · obtain ⟨p, dx, d, w, t, e, kvs, rfl, hp, hd, he, k⟩ := h
    rfl
  · obtain ⟨p, dx, d, w, t, e, kvs, rfl, hp, hd, he, k⟩ := h
    have hu := hu_of hr
    have S : Sep H0 [] H0 [(0, p, .ins C dx (F_Taker w t d e)), (0, d, .dK kvs)] := (Sep.of0.add 0 hd (fun _ z => nomatch z) (fun z => by cases z) (fun z => by cases z)).add 0 hp (fun c hc z => by rw [List.mem_singleton.mp hc] at z; exact ne_of hd hp (by intro z; cases z) z) (fun z => by cases z) (fun z => by cases z)
    refine ⟨_, pss_one (ps_ret (pe_and (pe_cmpR op_notN (pe_fldK K (pv 0)) (pe_non) (nomark _)) (pe_one (pe_cmpR op_ge (pe_ix (ix_tupK K) (pe_mt0 mtold hr (by decide) pass0 (pv 0)) (pe_int) (fun _ _ => rfl)) (pe_fldK K (pv 0)) (nomark _))))), ?_⟩
    rw [show start ["self"] [V.ref p] = [some (V.ref p)] from rfl]
    try dsimp only [tSeq, tAsg, gName, tOp, tUn, tCB, tCons, tNil, tCall, tMethK1, tCallK1, tPar3, tRet, tRetN, tDrop, tTest, tB, tC, tNext, tAugS, tAug, sFld1, sFldAug1, tMeth1, tMake, tMakeK1, tSl, tPart, tNoPart, sDPut1, tDPop, tBM, tBM0, tPar, gSub, tChain, tNot, tNotV, iList1, iTup1, iRng1, iRng2, List.set_cons_zero, List.set_cons_succ]
    rcases he with rfl | ⟨m, rfl⟩
    · refine x_andV ?_
      try dsimp only [tSeq, tAsg, gName, tOp, tUn, tCB, tCons, tNil, tCall, tMethK1, tCallK1, tPar3, tRet, tRetN, tDrop, tTest, tB, tC, tNext, tAugS, tAug, sFld1, sFldAug1, tMeth1, tMake, tMakeK1, tSl, tPart, tNoPart, sDPut1, tDPop, tBM, tBM0, tPar, gSub, tChain, tNot, tNotV, iList1, iTup1, iRng1, iRng2, List.set_cons_zero, List.set_cons_succ]
      refine x_var (by exact rfl) ?_
      refine x_fld S 0 (by exact rfl) T.c_Taker T.na_Taker_end lk_Taker_end ?_
      refine ⟨rfl, ?_⟩
      refine ⟨_, rfl, ?_⟩
      refine itend (fun h => absurd rfl h) (fun c1 => ?_)
      exact k _ _ (fun _ _ => rfl) (fun b o e => S.fr b o e (by simp))
    · refine x_andV ?_
      try dsimp only [tSeq, tAsg, gName, tOp, tUn, tCB, tCons, tNil, tCall, tMethK1, tCallK1, tPar3, tRet, tRetN, tDrop, tTest, tB, tC, tNext, tAugS, tAug, sFld1, sFldAug1, tMeth1, tMake, tMakeK1, tSl, tPart, tNoPart, sDPut1, tDPop, tBM, tBM0, tPar, gSub, tChain, tNot, tNotV, iList1, iTup1, iRng1, iRng2, List.set_cons_zero, List.set_cons_succ]
      refine x_var (by exact rfl) ?_
      refine x_fld S 0 (by exact rfl) T.c_Taker T.na_Taker_end lk_Taker_end ?_
      refine ⟨rfl, ?_⟩
      refine ⟨_, rfl, ?_⟩
      refine itend (fun c2 => ?_) (fun h => nomatch h)
      refine x_var (by exact rfl) ?_
      refine x_meth S 0 (by exact rfl) nk_Taker_told ?_
      refine c_told S 0 1 (by exact rfl) (by exact rfl) (fun g1 ug1 H rg1 S => ?_)
      refine x_ixT S 0 (by exact rfl) (by exact rfl) ?_
      refine x_var (by exact rfl) ?_
      refine x_fld S 1 (by exact rfl) T.c_Taker T.na_Taker_end lk_Taker_end ?_
      refine x_I0 ?_
      exact k _ _ (fun g r => by rw [rg1.same r]; rfl) (fun b o e => S.fr b o e (by simp))
abbrev s_Taker_is_ended : Stmt := (inClass (topS 3) 7)
theorem sc_Taker_is_ended : FnScope ["self"] ["self"] (defScope s_Taker_is_ended) := ⟨rfl, rfl, rfl, by decide +kernel, rfl, by decide +kernel, by decide +kernel⟩
theorem ok_Taker_is_ended {f : Addr} {fd : FuncData} {C : Addr} (F : L2.Fun K "is_ended" "Taker.is_ended" s_Taker_is_ended f fd) (T : TkCls K C) : FnOk P w K mg base CX0 1 f fd ["self"] (spIsEnded C) := by
  refine F.ok sc_Taker_is_ended (fun vs H Q E h => ?_) (fun cdv A outer s H0 vs Q E hr h => ?_)
  · obtain ⟨p, dx, d, w, t, e, rfl, hp, he, k⟩ := h
    rfl
  · obtain ⟨p, dx, d, w, t, e, rfl, hp, he, k⟩ := h
    have hu := hu_of hr
    have S : Sep H0 [] H0 [(0, p, .ins C dx (F_Taker w t d e))] := Sep.of0.add 0 hp (fun _ z => nomatch z) (fun z => by cases z) (fun z => by cases z)
    refine ⟨_, pss_one (ps_ret (pe_and (pe_cmpR op_notN (pe_fldK K (pv 0)) (pe_non) (nomark _)) (pe_one (pe_cmpR op_ge (pe_fldK K (pv 0)) (pe_fldK K (pv 0)) (nomark _))))), ?_⟩
    rw [show start ["self"] [V.ref p] = [some (V.ref p)] from rfl]
    try dsimp only [tSeq, tAsg, gName, tOp, tUn, tCB, tCons, tNil, tCall, tMethK1, tCallK1, tPar3, tRet, tRetN, tDrop, tTest, tB, tC, tNext, tAugS, tAug, sFld1, sFldAug1, tMeth1, tMake, tMakeK1, tSl, tPart, tNoPart, sDPut1, tDPop, tBM, tBM0, tPar, gSub, tChain, tNot, tNotV, iList1, iTup1, iRng1, iRng2, List.set_cons_zero, List.set_cons_succ]
    rcases he with rfl | ⟨m, rfl⟩
    · refine x_andV ?_
      try dsimp only [tSeq, tAsg, gName, tOp, tUn, tCB, tCons, tNil, tCall, tMethK1, tCallK1, tPar3, tRet, tRetN, tDrop, tTest, tB, tC, tNext, tAugS, tAug, sFld1, sFldAug1, tMeth1, tMake, tMakeK1, tSl, tPart, tNoPart, sDPut1, tDPop, tBM, tBM0, tPar, gSub, tChain, tNot, tNotV, iList1, iTup1, iRng1, iRng2, List.set_cons_zero, List.set_cons_succ]
      refine x_var (by exact rfl) ?_
      refine x_fld S 0 (by exact rfl) T.c_Taker T.na_Taker_end lk_Taker_end ?_
      refine ⟨rfl, ?_⟩
      refine ⟨_, rfl, ?_⟩
      refine itend (fun h => absurd rfl h) (fun c1 => ?_)
      exact k
    · refine x_andV ?_
      try dsimp only [tSeq, tAsg, gName, tOp, tUn, tCB, tCons, tNil, tCall, tMethK1, tCallK1, tPar3, tRet, tRetN, tDrop, tTest, tB, tC, tNext, tAugS, tAug, sFld1, sFldAug1, tMeth1, tMake, tMakeK1, tSl, tPart, tNoPart, sDPut1, tDPop, tBM, tBM0, tPar, gSub, tChain, tNot, tNotV, iList1, iTup1, iRng1, iRng2, List.set_cons_zero, List.set_cons_succ]
      refine x_var (by exact rfl) ?_
      refine x_fld S 0 (by exact rfl) T.c_Taker T.na_Taker_end lk_Taker_end ?_
      refine ⟨rfl, ?_⟩
      refine ⟨_, rfl, ?_⟩
      refine itend (fun c2 => ?_) (fun h => nomatch h)
      refine x_var (by exact rfl) ?_
      refine x_fld S 0 (by exact rfl) T.c_Taker T.na_Taker_taken lk_Taker_taken ?_
      refine x_var (by exact rfl) ?_
      refine x_fld S 0 (by exact rfl) T.c_Taker T.na_Taker_end lk_Taker_end ?_
      refine x_I0 ?_
      exact k
end
end G

set_option linter.all false
set_option maxRecDepth 100000
set_option maxHeartbeats 4000000
namespace G
open PySem PySem.Spec PyProof.Rows L2

def spRight (C : Addr) : Sp := fun vs H Q _ => ∃ (o dx d mo hx : Addr) (w t : Int) (e : V) (kvs : List (Key × V)), vs = [.ref o, .ref mo] ∧ Sep H [] H [(0, o, .ins C dx (F_Taker w t d e)), (0, d, .dK kvs), (0, mo, .lst [.ref hx, .int t, .int w, e]), (0, hx, .dK kvs)] ∧ EndV e ∧ ∀ H', (∀ b o, H b = some o → H' b = some o) → Q (.bl true) H'
def spLTaken (C : Addr) : Sp := fun vs H Q _ => ∃ (o dx d mo hx : Addr) (w t : Int) (e : V) (kvs : List (Key × V)), vs = [.ref o, .ref mo] ∧ Sep H [o, d, mo, hx] H [(1, o, .ins C dx (F_Taker w t d e)), (1, d, .dK kvs), (1, mo, .lst [.ref hx, .int t, .int w, e]), (1, hx, .dK kvs)] ∧ IntsK kvs ∧
  ∀ (t' : Int) (kvs' : List (Key × V)) (H' : Hp), IntsK kvs' → kvs'.length ≤ kvs.length → H' o = some (.ins C dx (F_Taker w t' d e)) → H' d = some (.dK kvs') → H' mo = some (.lst [.ref hx, .int t', .int w, e]) → H' hx = some (.dK kvs') → (∀ b u, H b = some u → b ∉ [o, d, mo, hx] → H' b = some u) → Q (.bl true) H'
def spLCame (C : Addr) : Sp := fun vs H Q _ => ∃ (p q o dx d mo hx pc : Addr) (n w t : Int) (e : V) (cs ps : List Int) (kvs : List (Key × V)), vs = [.ref p, .ref o, .ref mo, .ref pc] ∧ Sep H [p, q, d, hx] H [(1, p, .lst [.int n, .ref q]), (1, q, .lst (cs.map V.int)), (0, o, .ins C dx (F_Taker w t d e)), (1, d, .dK kvs), (0, mo, .lst [.ref hx, .int t, .int w, e]), (1, hx, .dK kvs), (0, pc, .lst (ps.map V.int))] ∧
  Hold n cs ∧ n < 2 ^ 39 ∧ ps ≠ [] ∧ ps.length ≤ 100 ∧ 1 ≤ w ∧ w ≤ 64 ∧ IntsK kvs ∧ kvs.length ≤ 10000 ∧
  ∀ (n' : Int) (cs' : List Int) (kvs' : List (Key × V)) (H' : Hp), n' ≤ n + 5 → Hold n' cs' → IntsK kvs' → kvs'.length ≤ kvs.length + 70 → H' p = some (.lst [.int n', .ref q]) → H' q = some (.lst (cs'.map V.int)) → H' d = some (.dK kvs') → H' hx = some (.dK kvs') → (∀ b u, H b = some u → b ∉ [p, q, d, hx] → H' b = some u) → Q .non H'
section
variable {P : Program} {w : World} {K : PySem.W.Frag} {mg : Str → Option Value} {base : Heap}
abbrev s_law_right : Stmt := (topS 10)
theorem sc_law_right : FnScope ["_law_taker", "_law_model", "_law_have", "_law_taken_here", "_law_wide_here", "_law_end", "_law_reach", "_law_found"] ["_law_taker", "_law_model"] (defScope s_law_right) := ⟨rfl, rfl, rfl, by decide +kernel, rfl, by decide +kernel, by decide +kernel⟩
theorem ok_law_right {f : Addr} {fd : FuncData} {C : Addr} (F : L2.Fun K "_law_right" "_law_right" s_law_right f fd) (mtold : Met P w K mg base CX0 1 C "told" (spTold C)) (mhasall : Met P w K mg base CX0 2 C "has_all" (spHasAll C)) (misended : Met P w K mg base CX0 1 C "is_ended" (spIsEnded C)) (cis : Cal P w K mg base CX0 1 "_law_is" spIs) (ctr : Cal P w K mg base CX0 1 "_law_truth" spTruth) (z_isinstance : mg "isinstance" = none) (z_tuple : mg "tuple" = none) (z_len : mg "len" = none) : FnOk P w K mg base CX0 3 f fd ["_law_taker", "_law_model"] (spRight C) := by
  refine F.ok sc_law_right (fun vs H Q E h => ?_) (fun cdv A outer s H0 vs Q E hr h => ?_)
  · obtain ⟨o, dx, d, mo, hx, w, t, e, kvs, rfl, S, he, k⟩ := h
    rfl
  · obtain ⟨o, dx, d, mo, hx, w, t, e, kvs, rfl, S, he, k⟩ := h
    have hu := hu_of hr

    refine ⟨_, pss_cons (ps_asg (pv 1) (pg_unl (n := 4) rfl (pgs_cons (pg_name (i := 2) sc_law_right.nd rfl (.inl rfl)) (pgs_cons (pg_name (i := 3) sc_law_right.nd rfl (.inl rfl)) (pgs_cons (pg_name (i := 4) sc_law_right.nd rfl (.inl rfl)) (pgs_cons (pg_name (i := 5) sc_law_right.nd rfl (.inl rfl)) (pgs_nil)))))))
      (pss_cons (ps_set (i := 6) sc_law_right.nd rfl (.inl rfl) (pv 3))
      (pss_cons (ps_while PassesOwn.never (pt_cmp (pc_din1 hu (pv 6) (pv 2))) (pss_one (ps_aug (i := 6) sc_law_right.nd rfl (.inl rfl) (pe_int) ip_add)))
      (pss_cons (ps_set (i := 7) sc_law_right.nd rfl (.inl rfl) (pe_mt0 mtold hr (by decide) pass0 (pv 0)))
      (pss_cons (ps_if ((pw_or (pt_not (pt_val (pe_callB (cl_isiK K) (by rfl) z_isinstance (by decide +kernel) (pa_cons (pv 7) (pa_cons (pe_bltn (v := .ty "tuple") (by rfl) z_tuple (by decide +kernel) rfl) pa_nil))))) (pw_or (pt_cmpR op_ne (pe_callB (cl_lenK K) (by rfl) z_len PySem.boot_len (pa_cons (pv 7) pa_nil)) (pe_int) (nomark _)) (pw_or1 (pt_not (pt_val (pe_c cis hr (by decide) (by rfl) pass0 (pa_cons (pe_ix (ix_tupK K) (pv 7) (pe_int) (fun _ _ => rfl)) (pa_cons (pv 6) pa_nil)))))))).pt) (pss_one (ps_ret (pe_bl))) (pss_nil))
      (pss_cons (ps_if (pt_not (pt_val (pe_c cis hr (by decide) (by rfl) pass0 (pa_cons (pe_ix (ix_tupK K) (pv 7) (pe_int) (fun _ _ => rfl)) (pa_cons (pe_op op_add (pv 3) (pv 4)) pa_nil))))) (pss_one (ps_ret (pe_bl))) (pss_nil))
      (pss_cons (ps_if (pt_not (pt_val (pe_c ctr hr (by decide) (by rfl) pass0 (pa_cons (pe_mt0 mhasall hr (by decide) pass0 (pv 0)) (pa_cons (pe_and (pe_cmpR op_notN (pv 5) (pe_non) (nomark _)) (pe_one (pe_cmpR op_ge (pv 6) (pv 5) (nomark _)))) pa_nil))))) (pss_one (ps_ret (pe_bl))) (pss_nil))
      (pss_one (ps_ret (pe_c ctr hr (by decide) (by rfl) pass0 (pa_cons (pe_mt0 misended hr (by decide) pass0 (pv 0)) (pa_cons (pe_and (pe_cmpR op_notN (pv 5) (pe_non) (nomark _)) (pe_one (pe_cmpR op_ge (pv 3) (pv 5) (nomark _)))) pa_nil))))))))))), ?_⟩
    rw [show start ["_law_taker", "_law_model", "_law_have", "_law_taken_here", "_law_wide_here", "_law_end", "_law_reach", "_law_found"] [V.ref o, V.ref mo] = [some (V.ref o), some (V.ref mo), none, none, none, none, none, none] from rfl]
    try dsimp only [tSeq, tAsg, gName, tOp, tUn, tCB, tCons, tNil, tCall, tMethK1, tCallK1, tPar3, tRet, tRetN, tDrop, tTest, tB, tC, tNext, tAugS, tAug, sFld1, sFldAug1, tMeth1, tMake, tMakeK1, tSl, tPart, tNoPart, sDPut1, tDPop, tBM, tBM0, tPar, gSub, tChain, tNot, tNotV, iList1, iTup1, iRng1, iRng2, List.set_cons_zero, List.set_cons_succ]
    refine x_var (by exact rfl) ?_
    refine ⟨_, _, rfl, S.sl 2 rfl, rfl, _, _, rfl, _, _, rfl, _, _, rfl, _, _, rfl, rfl, ?_⟩
    try dsimp only [tSeq, tAsg, gName, tOp, tUn, tCB, tCons, tNil, tCall, tMethK1, tCallK1, tPar3, tRet, tRetN, tDrop, tTest, tB, tC, tNext, tAugS, tAug, sFld1, sFldAug1, tMeth1, tMake, tMakeK1, tSl, tPart, tNoPart, sDPut1, tDPop, tBM, tBM0, tPar, gSub, tChain, tNot, tNotV, iList1, iTup1, iRng1, iRng2, List.set_cons_zero, List.set_cons_succ]
    refine x_var (by exact rfl) ?_
    try dsimp only [tSeq, tAsg, gName, tOp, tUn, tCB, tCons, tNil, tCall, tMethK1, tCallK1, tPar3, tRet, tRetN, tDrop, tTest, tB, tC, tNext, tAugS, tAug, sFld1, sFldAug1, tMeth1, tMake, tMakeK1, tSl, tPart, tNoPart, sDPut1, tDPop, tBM, tBM0, tPar, gSub, tChain, tNot, tNotV, iList1, iTup1, iRng1, iRng2, List.set_cons_zero, List.set_cons_succ]
    refine x_while (fun m σ H' => ∃ z : Int, σ = [some (.ref o), some (.ref mo), some (.ref hx), some (.int t), some (.int w), some e, some (.int z), none] ∧ H' = H0 ∧ m = above kvs z ∧ t ≤ z ∧ ∀ i, t ≤ i → i < z → valV kvs (.inl i : Key) ≠ none) (above kvs t) ?_ ?_
    · exact ⟨t, rfl, rfl, rfl, Int.le_refl _, fun i a b => absurd a (by omega)⟩
    · rintro m σ H ⟨z, rfl, rfl, rfl, hle, hall⟩
      try dsimp only [tSeq, tAsg, gName, tOp, tUn, tCB, tCons, tNil, tCall, tMethK1, tCallK1, tPar3, tRet, tRetN, tDrop, tTest, tB, tC, tNext, tAugS, tAug, sFld1, sFldAug1, tMeth1, tMake, tMakeK1, tSl, tPart, tNoPart, sDPut1, tDPop, tBM, tBM0, tPar, gSub, tChain, tNot, tNotV, iList1, iTup1, iRng1, iRng2, List.set_cons_zero, List.set_cons_succ]
      refine x_var (by exact rfl) ?_
      refine x_var (by exact rfl) ?_
      refine x_din (k := Sum.inl _) S 3 (by exact rfl) ?_
      refine ⟨_, rfl, ?_⟩
      refine iteSome (fun wc1 c1 => ?_) (fun c1 => ?_)
      · refine x_turn ?_
        try dsimp only [tSeq, tAsg, gName, tOp, tUn, tCB, tCons, tNil, tCall, tMethK1, tCallK1, tPar3, tRet, tRetN, tDrop, tTest, tB, tC, tNext, tAugS, tAug, sFld1, sFldAug1, tMeth1, tMake, tMakeK1, tSl, tPart, tNoPart, sDPut1, tDPop, tBM, tBM0, tPar, gSub, tChain, tNot, tNotV, iList1, iTup1, iRng1, iRng2, List.set_cons_zero, List.set_cons_succ]
        refine ⟨_, rfl, ?_⟩
        refine x_ip ?_
        refine ⟨_, above_lt (by assumption), z + 1, rfl, rfl, rfl, by omega, fun i a b => ?_⟩
        by_cases e : i = z
        · subst e; intro q; simp_all
        · exact hall i a (by omega)
      · have hR : Reach kvs t z := ⟨hle, hall, c1⟩
        try dsimp only [tSeq, tAsg, gName, tOp, tUn, tCB, tCons, tNil, tCall, tMethK1, tCallK1, tPar3, tRet, tRetN, tDrop, tTest, tB, tC, tNext, tAugS, tAug, sFld1, sFldAug1, tMeth1, tMake, tMakeK1, tSl, tPart, tNoPart, sDPut1, tDPop, tBM, tBM0, tPar, gSub, tChain, tNot, tNotV, iList1, iTup1, iRng1, iRng2, List.set_cons_zero, List.set_cons_succ]
        try dsimp only [tSeq, tAsg, gName, tOp, tUn, tCB, tCons, tNil, tCall, tMethK1, tCallK1, tPar3, tRet, tRetN, tDrop, tTest, tB, tC, tNext, tAugS, tAug, sFld1, sFldAug1, tMeth1, tMake, tMakeK1, tSl, tPart, tNoPart, sDPut1, tDPop, tBM, tBM0, tPar, gSub, tChain, tNot, tNotV, iList1, iTup1, iRng1, iRng2, List.set_cons_zero, List.set_cons_succ]
        refine x_var (by exact rfl) ?_
        refine x_meth S 0 (by exact rfl) nk_Taker_told ?_
        refine c_told S 0 1 (by exact rfl) (by exact rfl) (fun g1 ug1 H rg1 S => ?_)
        try dsimp only [tSeq, tAsg, gName, tOp, tUn, tCB, tCons, tNil, tCall, tMethK1, tCallK1, tPar3, tRet, tRetN, tDrop, tTest, tB, tC, tNext, tAugS, tAug, sFld1, sFldAug1, tMeth1, tMake, tMakeK1, tSl, tPart, tNoPart, sDPut1, tDPop, tBM, tBM0, tPar, gSub, tChain, tNot, tNotV, iList1, iTup1, iRng1, iRng2, List.set_cons_zero, List.set_cons_succ]
        refine x_if ?_
        try dsimp only [tSeq, tAsg, gName, tOp, tUn, tCB, tCons, tNil, tCall, tMethK1, tCallK1, tPar3, tRet, tRetN, tDrop, tTest, tB, tC, tNext, tAugS, tAug, sFld1, sFldAug1, tMeth1, tMake, tMakeK1, tSl, tPart, tNoPart, sDPut1, tDPop, tBM, tBM0, tPar, gSub, tChain, tNot, tNotV, iList1, iTup1, iRng1, iRng2, List.set_cons_zero, List.set_cons_succ]
        refine x_or ?_
        try dsimp only [tSeq, tAsg, gName, tOp, tUn, tCB, tCons, tNil, tCall, tMethK1, tCallK1, tPar3, tRet, tRetN, tDrop, tTest, tB, tC, tNext, tAugS, tAug, sFld1, sFldAug1, tMeth1, tMake, tMakeK1, tSl, tPart, tNoPart, sDPut1, tDPop, tBM, tBM0, tPar, gSub, tChain, tNot, tNotV, iList1, iTup1, iRng1, iRng2, List.set_cons_zero, List.set_cons_succ]
        refine x_var (by exact rfl) ?_
        refine x_isi (ty_tup S 0 (by exact rfl)) (by decide +kernel : kitB "tuple" "tuple" = some true) ?_
        refine ⟨_, rfl, ?_⟩
        refine iteF ?_
        refine x_or ?_
        try dsimp only [tSeq, tAsg, gName, tOp, tUn, tCB, tCons, tNil, tCall, tMethK1, tCallK1, tPar3, tRet, tRetN, tDrop, tTest, tB, tC, tNext, tAugS, tAug, sFld1, sFldAug1, tMeth1, tMake, tMakeK1, tSl, tPart, tNoPart, sDPut1, tDPop, tBM, tBM0, tPar, gSub, tChain, tNot, tNotV, iList1, iTup1, iRng1, iRng2, List.set_cons_zero, List.set_cons_succ]
        refine x_var (by exact rfl) ?_
        refine x_lenT S 0 (by exact rfl) ?_
        refine x_ne ?_
        refine ⟨_, rfl, ?_⟩
        refine itne (fun c2 => ?_) (fun c2 => ?_)
        · refine iteT ?_
          try dsimp only [tSeq, tAsg, gName, tOp, tUn, tCB, tCons, tNil, tCall, tMethK1, tCallK1, tPar3, tRet, tRetN, tDrop, tTest, tB, tC, tNext, tAugS, tAug, sFld1, sFldAug1, tMeth1, tMake, tMakeK1, tSl, tPart, tNoPart, sDPut1, tDPop, tBM, tBM0, tPar, gSub, tChain, tNot, tNotV, iList1, iTup1, iRng1, iRng2, List.set_cons_zero, List.set_cons_succ]
          first | exact absurd rfl c2 | exact absurd (by rw [rg1.same hR]) c2 | exact absurd (by rw [hba z hR]; rfl) c2
        · refine x_var (by exact rfl) ?_
          refine x_ixT S 0 (by exact rfl) (by exact rfl) ?_
          refine x_var (by exact rfl) ?_
          refine c_is ?_
          refine ⟨_, rfl, ?_⟩
          refine itne (fun c3 => ?_) (fun c3 => ?_)
          · try dsimp only [tSeq, tAsg, gName, tOp, tUn, tCB, tCons, tNil, tCall, tMethK1, tCallK1, tPar3, tRet, tRetN, tDrop, tTest, tB, tC, tNext, tAugS, tAug, sFld1, sFldAug1, tMeth1, tMake, tMakeK1, tSl, tPart, tNoPart, sDPut1, tDPop, tBM, tBM0, tPar, gSub, tChain, tNot, tNotV, iList1, iTup1, iRng1, iRng2, List.set_cons_zero, List.set_cons_succ]
            first | exact absurd rfl c3 | exact absurd (by rw [rg1.same hR]) c3 | exact absurd (by rw [hba z hR]; rfl) c3
          · try dsimp only [tSeq, tAsg, gName, tOp, tUn, tCB, tCons, tNil, tCall, tMethK1, tCallK1, tPar3, tRet, tRetN, tDrop, tTest, tB, tC, tNext, tAugS, tAug, sFld1, sFldAug1, tMeth1, tMake, tMakeK1, tSl, tPart, tNoPart, sDPut1, tDPop, tBM, tBM0, tPar, gSub, tChain, tNot, tNotV, iList1, iTup1, iRng1, iRng2, List.set_cons_zero, List.set_cons_succ]
            refine x_if ?_
            try dsimp only [tSeq, tAsg, gName, tOp, tUn, tCB, tCons, tNil, tCall, tMethK1, tCallK1, tPar3, tRet, tRetN, tDrop, tTest, tB, tC, tNext, tAugS, tAug, sFld1, sFldAug1, tMeth1, tMake, tMakeK1, tSl, tPart, tNoPart, sDPut1, tDPop, tBM, tBM0, tPar, gSub, tChain, tNot, tNotV, iList1, iTup1, iRng1, iRng2, List.set_cons_zero, List.set_cons_succ]
            refine x_var (by exact rfl) ?_
            refine x_ixT S 0 (by exact rfl) (by exact rfl) ?_
            refine x_var (by exact rfl) ?_
            refine x_var (by exact rfl) ?_
            refine x_I0 ?_
            refine c_is ?_
            refine ⟨_, rfl, ?_⟩
            refine itne (fun c4 => ?_) (fun c4 => ?_)
            · try dsimp only [tSeq, tAsg, gName, tOp, tUn, tCB, tCons, tNil, tCall, tMethK1, tCallK1, tPar3, tRet, tRetN, tDrop, tTest, tB, tC, tNext, tAugS, tAug, sFld1, sFldAug1, tMeth1, tMake, tMakeK1, tSl, tPart, tNoPart, sDPut1, tDPop, tBM, tBM0, tPar, gSub, tChain, tNot, tNotV, iList1, iTup1, iRng1, iRng2, List.set_cons_zero, List.set_cons_succ]
              first | exact absurd rfl c4 | exact absurd (by rw [rg1.same hR]) c4 | exact absurd (by rw [hba z hR]; rfl) c4
            · try dsimp only [tSeq, tAsg, gName, tOp, tUn, tCB, tCons, tNil, tCall, tMethK1, tCallK1, tPar3, tRet, tRetN, tDrop, tTest, tB, tC, tNext, tAugS, tAug, sFld1, sFldAug1, tMeth1, tMake, tMakeK1, tSl, tPart, tNoPart, sDPut1, tDPop, tBM, tBM0, tPar, gSub, tChain, tNot, tNotV, iList1, iTup1, iRng1, iRng2, List.set_cons_zero, List.set_cons_succ]
              refine x_if ?_
              try dsimp only [tSeq, tAsg, gName, tOp, tUn, tCB, tCons, tNil, tCall, tMethK1, tCallK1, tPar3, tRet, tRetN, tDrop, tTest, tB, tC, tNext, tAugS, tAug, sFld1, sFldAug1, tMeth1, tMake, tMakeK1, tSl, tPart, tNoPart, sDPut1, tDPop, tBM, tBM0, tPar, gSub, tChain, tNot, tNotV, iList1, iTup1, iRng1, iRng2, List.set_cons_zero, List.set_cons_succ]
              refine x_var (by exact rfl) ?_
              refine x_meth S 1 (by exact rfl) nk_Taker_has_all ?_
              refine c_hasall S 1 2 (by exact rfl) (by exact rfl) he (fun ba H hba S => ?_)
              have he0 := he
              rcases he0 with rfl | ⟨m, rfl⟩
              · refine x_andV ?_
                try dsimp only [tSeq, tAsg, gName, tOp, tUn, tCB, tCons, tNil, tCall, tMethK1, tCallK1, tPar3, tRet, tRetN, tDrop, tTest, tB, tC, tNext, tAugS, tAug, sFld1, sFldAug1, tMeth1, tMake, tMakeK1, tSl, tPart, tNoPart, sDPut1, tDPop, tBM, tBM0, tPar, gSub, tChain, tNot, tNotV, iList1, iTup1, iRng1, iRng2, List.set_cons_zero, List.set_cons_succ]
                refine x_var (by exact rfl) ?_
                refine ⟨rfl, ?_⟩
                refine ⟨_, rfl, ?_⟩
                refine itend (fun h => absurd rfl h) (fun c5 => ?_)
                refine c_truth ?_
                refine ⟨_, rfl, ?_⟩
                refine itend (fun c6 => ?_) (fun c6 => ?_)
                · try dsimp only [tSeq, tAsg, gName, tOp, tUn, tCB, tCons, tNil, tCall, tMethK1, tCallK1, tPar3, tRet, tRetN, tDrop, tTest, tB, tC, tNext, tAugS, tAug, sFld1, sFldAug1, tMeth1, tMake, tMakeK1, tSl, tPart, tNoPart, sDPut1, tDPop, tBM, tBM0, tPar, gSub, tChain, tNot, tNotV, iList1, iTup1, iRng1, iRng2, List.set_cons_zero, List.set_cons_succ]
                  first | exact absurd rfl c6 | exact absurd (by rw [rg1.same hR]) c6 | exact absurd (by rw [hba z hR]; rfl) c6
                · try dsimp only [tSeq, tAsg, gName, tOp, tUn, tCB, tCons, tNil, tCall, tMethK1, tCallK1, tPar3, tRet, tRetN, tDrop, tTest, tB, tC, tNext, tAugS, tAug, sFld1, sFldAug1, tMeth1, tMake, tMakeK1, tSl, tPart, tNoPart, sDPut1, tDPop, tBM, tBM0, tPar, gSub, tChain, tNot, tNotV, iList1, iTup1, iRng1, iRng2, List.set_cons_zero, List.set_cons_succ]
                  refine x_var (by exact rfl) ?_
                  refine x_meth S 1 (by exact rfl) nk_Taker_is_ended ?_
                  refine c_isended S 1 (by exact rfl) he ?_
                  refine x_andV ?_
                  try dsimp only [tSeq, tAsg, gName, tOp, tUn, tCB, tCons, tNil, tCall, tMethK1, tCallK1, tPar3, tRet, tRetN, tDrop, tTest, tB, tC, tNext, tAugS, tAug, sFld1, sFldAug1, tMeth1, tMake, tMakeK1, tSl, tPart, tNoPart, sDPut1, tDPop, tBM, tBM0, tPar, gSub, tChain, tNot, tNotV, iList1, iTup1, iRng1, iRng2, List.set_cons_zero, List.set_cons_succ]
                  refine x_var (by exact rfl) ?_
                  refine ⟨rfl, ?_⟩
                  refine ⟨_, rfl, ?_⟩
                  refine itend (fun h => absurd rfl h) (fun c7 => ?_)
                  refine c_truth ?_
                  rw [decide_eq_true (by rfl)]
                  exact k _ (fun b o e => S.fr b o e (by simp))
              · refine x_andV ?_
                try dsimp only [tSeq, tAsg, gName, tOp, tUn, tCB, tCons, tNil, tCall, tMethK1, tCallK1, tPar3, tRet, tRetN, tDrop, tTest, tB, tC, tNext, tAugS, tAug, sFld1, sFldAug1, tMeth1, tMake, tMakeK1, tSl, tPart, tNoPart, sDPut1, tDPop, tBM, tBM0, tPar, gSub, tChain, tNot, tNotV, iList1, iTup1, iRng1, iRng2, List.set_cons_zero, List.set_cons_succ]
                refine x_var (by exact rfl) ?_
                refine ⟨rfl, ?_⟩
                refine ⟨_, rfl, ?_⟩
                refine itend (fun c8 => ?_) (fun h => nomatch h)
                refine x_var (by exact rfl) ?_
                refine x_var (by exact rfl) ?_
                refine x_I0 ?_
                refine c_truth ?_
                refine ⟨_, rfl, ?_⟩
                refine itend (fun c9 => ?_) (fun c9 => ?_)
                · try dsimp only [tSeq, tAsg, gName, tOp, tUn, tCB, tCons, tNil, tCall, tMethK1, tCallK1, tPar3, tRet, tRetN, tDrop, tTest, tB, tC, tNext, tAugS, tAug, sFld1, sFldAug1, tMeth1, tMake, tMakeK1, tSl, tPart, tNoPart, sDPut1, tDPop, tBM, tBM0, tPar, gSub, tChain, tNot, tNotV, iList1, iTup1, iRng1, iRng2, List.set_cons_zero, List.set_cons_succ]
                  first | exact absurd rfl c9 | exact absurd (by rw [rg1.same hR]) c9 | exact absurd (by rw [hba z hR]; rfl) c9
                · try dsimp only [tSeq, tAsg, gName, tOp, tUn, tCB, tCons, tNil, tCall, tMethK1, tCallK1, tPar3, tRet, tRetN, tDrop, tTest, tB, tC, tNext, tAugS, tAug, sFld1, sFldAug1, tMeth1, tMake, tMakeK1, tSl, tPart, tNoPart, sDPut1, tDPop, tBM, tBM0, tPar, gSub, tChain, tNot, tNotV, iList1, iTup1, iRng1, iRng2, List.set_cons_zero, List.set_cons_succ]
                  refine x_var (by exact rfl) ?_
                  refine x_meth S 1 (by exact rfl) nk_Taker_is_ended ?_
                  refine c_isended S 1 (by exact rfl) he ?_
                  refine x_andV ?_
                  try dsimp only [tSeq, tAsg, gName, tOp, tUn, tCB, tCons, tNil, tCall, tMethK1, tCallK1, tPar3, tRet, tRetN, tDrop, tTest, tB, tC, tNext, tAugS, tAug, sFld1, sFldAug1, tMeth1, tMake, tMakeK1, tSl, tPart, tNoPart, sDPut1, tDPop, tBM, tBM0, tPar, gSub, tChain, tNot, tNotV, iList1, iTup1, iRng1, iRng2, List.set_cons_zero, List.set_cons_succ]
                  refine x_var (by exact rfl) ?_
                  refine ⟨rfl, ?_⟩
                  refine ⟨_, rfl, ?_⟩
                  refine itend (fun c10 => ?_) (fun h => nomatch h)
                  refine x_var (by exact rfl) ?_
                  refine x_var (by exact rfl) ?_
                  refine x_I0 ?_
                  refine c_truth ?_
                  rw [decide_eq_true (by rfl)]
                  exact k _ (fun b o e => S.fr b o e (by simp))
end
end G

set_option linter.all false
set_option maxRecDepth 100000
set_option maxHeartbeats 4000000
namespace G
open PySem PySem.Spec PyProof.Rows L2
section
variable {P : Program} {w : World} {K : PySem.W.Frag} {mg : Str → Option Value} {base : Heap}
abbrev s_law_taken : Stmt := (topS 12)
theorem sc_law_taken : FnScope ["_law_taker", "_law_model", "_law_found", "_law_due"] ["_law_taker", "_law_model"] (defScope s_law_taken) := ⟨rfl, rfl, rfl, by decide +kernel, rfl, by decide +kernel, by decide +kernel⟩
theorem ok_law_taken {f : Addr} {fd : FuncData} {C : Addr} (F : L2.Fun K "_law_taken" "_law_taken" s_law_taken f fd) (mtake : Met P w K mg base CX0 1 C "take" (spTake C)) (cis : Cal P w K mg base CX0 1 "_law_is" spIs) : FnOk P w K mg base CX0 2 f fd ["_law_taker", "_law_model"] (spLTaken C) := by
  refine F.ok sc_law_taken (fun vs H Q E h => ?_) (fun cdv A outer s H0 vs Q E hr h => ?_)
  · obtain ⟨o, dx, d, mo, hx, w, t, e, kvs, rfl, S, hI, k⟩ := h
    rfl
  · obtain ⟨o, dx, d, mo, hx, w, t, e, kvs, rfl, S, hI, k⟩ := h
    have hu := hu_of hr

    refine ⟨_, pss_cons (ps_set (i := 2) sc_law_taken.nd rfl (.inl rfl) (pe_mt0 mtake hr (by decide) pass0 (pv 0)))
      (pss_cons (ps_if (pt_cmp (pc_dni1 hu (pe_ix (ix_listK K) (pv 1) (pe_int) (fun _ _ => rfl)) (pe_ix (ix_listK K) (pv 1) (pe_int) (fun _ _ => rfl)))) (pss_one (ps_ret (pe_cmpR op_isN (pv 2) (pe_non) (nomark _)))) (pss_nil))
      (pss_cons (ps_set (i := 3) sc_law_taken.nd rfl (.inl rfl) (pe_dpop (pe_ix (ix_listK K) (pv 1) (pe_int) (fun _ _ => rfl)) (pe_ix (ix_listK K) (pv 1) (pe_int) (fun _ _ => rfl)) ⟨rfl, rfl, rfl, rfl⟩))
      (pss_cons (ps_augS (pv 1) (pe_int) get_list (pe_int) ip_add set_list)
      (pss_one (ps_ret (pe_c cis hr (by decide) (by rfl) pass0 (pa_cons (pv 2) (pa_cons (pv 3) pa_nil)))))))), ?_⟩
    rw [show start ["_law_taker", "_law_model", "_law_found", "_law_due"] [V.ref o, V.ref mo] = [some (V.ref o), some (V.ref mo), none, none] from rfl]
    try dsimp only [tSeq, tAsg, gName, tOp, tUn, tCB, tCons, tNil, tCall, tMethK1, tCallK1, tPar3, tRet, tRetN, tDrop, tTest, tB, tC, tNext, tAugS, tAug, sFld1, sFldAug1, tMeth1, tMake, tMakeK1, tSl, tPart, tNoPart, sDPut1, tDPop, tBM, tBM0, tPar, gSub, tChain, tNot, tNotV, iList1, iTup1, iRng1, iRng2, List.set_cons_zero, List.set_cons_succ]
    refine x_var (by exact rfl) ?_
    refine x_meth S 0 (by exact rfl) nk_Taker_take ?_
    refine c_take S 0 1 (by exact rfl) (by exact rfl) (fun hn H S => ?_) (fun v hv H S => ?_)
    · try dsimp only [tSeq, tAsg, gName, tOp, tUn, tCB, tCons, tNil, tCall, tMethK1, tCallK1, tPar3, tRet, tRetN, tDrop, tTest, tB, tC, tNext, tAugS, tAug, sFld1, sFldAug1, tMeth1, tMake, tMakeK1, tSl, tPart, tNoPart, sDPut1, tDPop, tBM, tBM0, tPar, gSub, tChain, tNot, tNotV, iList1, iTup1, iRng1, iRng2, List.set_cons_zero, List.set_cons_succ]
      refine x_if ?_
      try dsimp only [tSeq, tAsg, gName, tOp, tUn, tCB, tCons, tNil, tCall, tMethK1, tCallK1, tPar3, tRet, tRetN, tDrop, tTest, tB, tC, tNext, tAugS, tAug, sFld1, sFldAug1, tMeth1, tMake, tMakeK1, tSl, tPart, tNoPart, sDPut1, tDPop, tBM, tBM0, tPar, gSub, tChain, tNot, tNotV, iList1, iTup1, iRng1, iRng2, List.set_cons_zero, List.set_cons_succ]
      refine x_var (by exact rfl) ?_
      refine x_ixF S 2 (by exact rfl) (by exact rfl) ?_
      refine x_var (by exact rfl) ?_
      refine x_ixF S 2 (by exact rfl) (by exact rfl) ?_
      refine x_dni (k := Sum.inl _) S 3 (by exact rfl) ?_
      refine ⟨_, rfl, ?_⟩
      refine iteNone (fun c => ?_) (fun w c => absurd (hn.symm.trans c) (fun z => nomatch z))
      try dsimp only [tSeq, tAsg, gName, tOp, tUn, tCB, tCons, tNil, tCall, tMethK1, tCallK1, tPar3, tRet, tRetN, tDrop, tTest, tB, tC, tNext, tAugS, tAug, sFld1, sFldAug1, tMeth1, tMake, tMakeK1, tSl, tPart, tNoPart, sDPut1, tDPop, tBM, tBM0, tPar, gSub, tChain, tNot, tNotV, iList1, iTup1, iRng1, iRng2, List.set_cons_zero, List.set_cons_succ]
      refine x_var (by exact rfl) ?_
      refine ⟨rfl, ?_⟩
      rw [decide_eq_true (by rfl)]
      exact k _ _ _ hI (Nat.le_refl _) (S.get 0 rfl) (S.get 1 rfl) (S.get 2 rfl) (S.get 3 rfl) S.fr
    · obtain ⟨z, rfl⟩ := hI _ _ hv
      simp only [List.set_cons_zero, List.set_cons_succ] at S
      try dsimp only [tSeq, tAsg, gName, tOp, tUn, tCB, tCons, tNil, tCall, tMethK1, tCallK1, tPar3, tRet, tRetN, tDrop, tTest, tB, tC, tNext, tAugS, tAug, sFld1, sFldAug1, tMeth1, tMake, tMakeK1, tSl, tPart, tNoPart, sDPut1, tDPop, tBM, tBM0, tPar, gSub, tChain, tNot, tNotV, iList1, iTup1, iRng1, iRng2, List.set_cons_zero, List.set_cons_succ]
      refine x_if ?_
      try dsimp only [tSeq, tAsg, gName, tOp, tUn, tCB, tCons, tNil, tCall, tMethK1, tCallK1, tPar3, tRet, tRetN, tDrop, tTest, tB, tC, tNext, tAugS, tAug, sFld1, sFldAug1, tMeth1, tMake, tMakeK1, tSl, tPart, tNoPart, sDPut1, tDPop, tBM, tBM0, tPar, gSub, tChain, tNot, tNotV, iList1, iTup1, iRng1, iRng2, List.set_cons_zero, List.set_cons_succ]
      refine x_var (by exact rfl) ?_
      refine x_ixF S 2 (by exact rfl) (by exact rfl) ?_
      refine x_var (by exact rfl) ?_
      refine x_ixF S 2 (by exact rfl) (by exact rfl) ?_
      refine x_dni (k := Sum.inl _) S 3 (by exact rfl) ?_
      refine ⟨_, rfl, ?_⟩
      refine iteNone (fun c => absurd (hv.symm.trans c) (fun z => nomatch z)) (fun w c => ?_)
      clear c
      try dsimp only [tSeq, tAsg, gName, tOp, tUn, tCB, tCons, tNil, tCall, tMethK1, tCallK1, tPar3, tRet, tRetN, tDrop, tTest, tB, tC, tNext, tAugS, tAug, sFld1, sFldAug1, tMeth1, tMake, tMakeK1, tSl, tPart, tNoPart, sDPut1, tDPop, tBM, tBM0, tPar, gSub, tChain, tNot, tNotV, iList1, iTup1, iRng1, iRng2, List.set_cons_zero, List.set_cons_succ]
      refine x_var (by exact rfl) ?_
      refine x_ixF S 2 (by exact rfl) (by exact rfl) ?_
      refine x_isD S 3 (by exact rfl) ?_
      refine x_var (by exact rfl) ?_
      refine x_ixF S 2 (by exact rfl) (by exact rfl) ?_
      refine x_dpop (k := Sum.inl _) S 3 (by exact rfl) hv (fun H S => ?_)
      simp only [List.set_cons_zero, List.set_cons_succ] at S
      try dsimp only [tSeq, tAsg, gName, tOp, tUn, tCB, tCons, tNil, tCall, tMethK1, tCallK1, tPar3, tRet, tRetN, tDrop, tTest, tB, tC, tNext, tAugS, tAug, sFld1, sFldAug1, tMeth1, tMake, tMakeK1, tSl, tPart, tNoPart, sDPut1, tDPop, tBM, tBM0, tPar, gSub, tChain, tNot, tNotV, iList1, iTup1, iRng1, iRng2, List.set_cons_zero, List.set_cons_succ]
      refine x_var (by exact rfl) ?_
      refine x_ixF S 2 (by exact rfl) (by exact rfl) ?_
      refine x_ip ?_
      refine x_setL S 2 (by exact rfl) (by exact rfl) (fun H S => ?_)
      simp only [List.set_cons_zero, List.set_cons_succ] at S
      try dsimp only [tSeq, tAsg, gName, tOp, tUn, tCB, tCons, tNil, tCall, tMethK1, tCallK1, tPar3, tRet, tRetN, tDrop, tTest, tB, tC, tNext, tAugS, tAug, sFld1, sFldAug1, tMeth1, tMake, tMakeK1, tSl, tPart, tNoPart, sDPut1, tDPop, tBM, tBM0, tPar, gSub, tChain, tNot, tNotV, iList1, iTup1, iRng1, iRng2, List.set_cons_zero, List.set_cons_succ]
      refine x_var (by exact rfl) ?_
      refine x_var (by exact rfl) ?_
      refine c_is ?_
      rw [decide_eq_true (by rfl)]
      exact k _ _ _ hI.drop len_dropK (S.get 0 rfl) (S.get 1 rfl) (S.get 2 rfl) (S.get 3 rfl) S.fr
abbrev s_law_came : Stmt := (topS 11)
theorem sc_law_came : FnScope ["_law_hold", "_law_taker", "_law_model", "_law_pieces", "_law_near", "_law_often", "_law_other", "_law_spot", "_law_turn", "_law_piece"] ["_law_hold", "_law_taker", "_law_model", "_law_pieces"] (defScope s_law_came) := ⟨rfl, rfl, rfl, by decide +kernel, rfl, by decide +kernel, by decide +kernel⟩
theorem ok_law_came {f : Addr} {fd : FuncData} {C : Addr} (F : L2.Fun K "_law_came" "_law_came" s_law_came f fd) (cd : Cal P w K mg base CX0 1 "_law_draw" spDraw) (mcame : MetK P w K mg base CX0 1 C "came" ["value", "place"] [1, 0] (spCame C)) (z_len : mg "len" = none) (z_range : mg "range" = none) (z_max : mg "max" = none) (z_min : mg "min" = none) : FnOk P w K mg base CX0 2 f fd ["_law_hold", "_law_taker", "_law_model", "_law_pieces"] (spLCame C) := by
  refine F.ok sc_law_came (fun vs H Q E h => ?_) (fun cdv A outer s H0 vs Q E hr h => ?_)
  · obtain ⟨p, q, o, dx, d, mo, hx, pc, n, w, t, e, cs, ps, kvs, rfl, S, hh, hn, hps, hpl, hw1, hw2, hI, hkl, k⟩ := h
    rfl
  · obtain ⟨p, q, o, dx, d, mo, hx, pc, n, w, t, e, cs, ps, kvs, rfl, S, hh, hn, hps, hpl, hw1, hw2, hI, hkl, k⟩ := h
    have hu := hu_of hr
    have hp0 : 0 < ps.length := List.length_pos_iff.mpr hps
    refine ⟨_, pss_cons (ps_par3 (i := 4) (j := 5) (l := 6) rfl sc_law_came.nd rfl rfl rfl (by decide) (by decide) (by decide) rfl rfl rfl (pa_cons (pe_c cd hr (by decide) (by rfl) pass0 (pa_cons (pv 0) (pa_cons (pe_int) pa_nil))) (pa_cons (pe_ix (ix_listK K) (pe_lst1 (pa_cons (pe_int) (pa_cons (pe_int) (pa_cons (pe_int) (pa_cons (pe_int) pa_nil))))) (pe_c cd hr (by decide) (by rfl) pass0 (pa_cons (pv 0) (pa_cons (pe_int) pa_nil))) (fun _ _ => rfl)) (pa_cons (pe_c cd hr (by decide) (by rfl) pass0 (pa_cons (pv 0) (pa_cons (pe_int) pa_nil))) pa_nil))) rfl)
      (pss_cons (ps_set (i := 7) sc_law_came.nd rfl (.inl rfl) (pe_c cd hr (by decide) (by rfl) pass0 (pa_cons (pv 0) (pa_cons (pe_callB (cl_lenK K) (by rfl) z_len PySem.boot_len (pa_cons (pv 3) pa_nil)) pa_nil))))
      (pss_cons (ps_if (pt_cmpR op_gt (pv 4) (pe_int) (nomark _)) (pss_one (ps_set (i := 7) sc_law_came.nd rfl (.inl rfl) (pe_callB (cl_max rfl) (by rfl) z_max (by decide +kernel) (pa_cons (pe_int) (pa_cons (pe_callB (cl_min rfl) (by rfl) z_min (by decide +kernel) (pa_cons (pe_op op_sub (pe_callB (cl_lenK K) (by rfl) z_len PySem.boot_len (pa_cons (pv 3) pa_nil)) (pe_int)) (pa_cons (pe_op op_sub (pe_op op_add (pe_ix (ix_listK K) (pv 2) (pe_int) (fun _ _ => rfl)) (pe_c cd hr (by decide) (by rfl) pass0 (pa_cons (pv 0) (pa_cons (pe_op op_add (pe_ix (ix_listK K) (pv 2) (pe_int) (fun _ _ => rfl)) (pe_int)) pa_nil)))) (pe_int)) pa_nil))) pa_nil))))) (pss_nil))
      (pss_one (ps_for PassesOwn.never rfl (pi_range1 (by rfl) z_range (pa_cons (pv 5) pa_nil)) (pg_name (i := 8) sc_law_came.nd rfl (.inl rfl)) (pss_cons (ps_if (pt_cmpR op_lt (pv 7) (pe_callB (cl_lenK K) (by rfl) z_len PySem.boot_len (pa_cons (pv 3) pa_nil)) (nomark _)) (pss_cons (ps_set (i := 9) sc_law_came.nd rfl (.inl rfl) (pe_op op_add (pe_ix (ix_listK K) (pv 3) (pv 7) (fun _ _ => rfl)) (pe_ifExp (pt_cmpR op_eq (pv 6) (pe_int) (nomark _)) (pe_int) (pe_int))))
      (pss_cons (ps_expr (pe_mtK mcame hr (by decide) pass0 (pv 1) (pk_cons (pv 9) (pk_cons (pv 7) pk_nil))))
      (pss_one (ps_if ((pw_and (pt_chain op_le op_lt (pe_ix (ix_listK K) (pv 2) (pe_int) (fun _ _ => rfl)) (pv 7) (pe_op op_add (pe_ix (ix_listK K) (pv 2) (pe_int) (fun _ _ => rfl)) (pe_ix (ix_listK K) (pv 2) (pe_int) (fun _ _ => rfl)))) (pw_and1 (pt_cmp (pc_dni1 hu (pv 7) (pe_ix (ix_listK K) (pv 2) (pe_int) (fun _ _ => rfl)))))).pt) (pss_one (ps_dput1 hu (pe_ix (ix_listK K) (pv 2) (pe_int) (fun _ _ => rfl)) (pv 7) (pv 9) rfl)) (pss_nil))))) (pss_nil))
      (pss_one (ps_aug (i := 7) sc_law_came.nd rfl (.inl rfl) (pe_int) ip_add))))))), ?_⟩
    rw [show start ["_law_hold", "_law_taker", "_law_model", "_law_pieces", "_law_near", "_law_often", "_law_other", "_law_spot", "_law_turn", "_law_piece"] [V.ref p, V.ref o, V.ref mo, V.ref pc] = [some (V.ref p), some (V.ref o), some (V.ref mo), some (V.ref pc), none, none, none, none, none, none] from rfl]
    try dsimp only [tSeq, tAsg, gName, tOp, tUn, tCB, tCons, tNil, tCall, tMethK1, tCallK1, tPar3, tRet, tRetN, tDrop, tTest, tB, tC, tNext, tAugS, tAug, sFld1, sFldAug1, tMeth1, tMake, tMakeK1, tSl, tPart, tNoPart, sDPut1, tDPop, tBM, tBM0, tPar, gSub, tChain, tNot, tNotV, iList1, iTup1, iRng1, iRng2, List.set_cons_zero, List.set_cons_succ]
    refine x_var (by exact rfl) ?_
    refine c_draw S 0 1 (by exact rfl) (by exact rfl) hh (by first | omega | decide | (simp only [len_insAt, List.length_map, List.length_append, List.length_cons, List.length_nil, List.length_take, List.length_drop] at *; omega)) (by first | omega | decide | (simp only [len_insAt, List.length_map, List.length_append, List.length_cons, List.length_nil, List.length_take, List.length_drop] at *; omega)) (by first | omega | decide | (simp only [len_insAt, List.length_map, List.length_append, List.length_cons, List.length_nil, List.length_take, List.length_drop] at *; omega)) (fun r1 cs1 H r1a r1b hh S => ?_)
    simp only [List.set_cons_zero, List.set_cons_succ] at S
    refine x_lst S (by exact Nat.le_of_ble_eq_true rfl) (fun L1 H S => ?_)
    refine x_var (by exact rfl) ?_
    refine c_draw S 1 2 (by exact rfl) (by exact rfl) hh (by first | omega | decide | (simp only [len_insAt, List.length_map, List.length_append, List.length_cons, List.length_nil, List.length_take, List.length_drop] at *; omega)) (by first | omega | decide | (simp only [len_insAt, List.length_map, List.length_append, List.length_cons, List.length_nil, List.length_take, List.length_drop] at *; omega)) (by first | omega | decide | (simp only [len_insAt, List.length_map, List.length_append, List.length_cons, List.length_nil, List.length_take, List.length_drop] at *; omega)) (fun r2 cs2 H r2a r2b hh S => ?_)
    simp only [List.set_cons_zero, List.set_cons_succ] at S
    refine x_ixI (cs := [1, 1, 3, 70]) S 0 (by exact rfl) (by omega) (by first | (show (_ : Int) < 4; omega) | omega) (fun v1 hv1 => ?_)
    have hv1 := List.mem_of_getElem? hv1
    simp only [List.mem_cons, List.not_mem_nil, or_false] at hv1
    refine x_var (by exact rfl) ?_
    refine c_draw S 1 2 (by exact rfl) (by exact rfl) hh (by first | omega | decide | (simp only [len_insAt, List.length_map, List.length_append, List.length_cons, List.length_nil, List.length_take, List.length_drop] at *; omega)) (by first | omega | decide | (simp only [len_insAt, List.length_map, List.length_append, List.length_cons, List.length_nil, List.length_take, List.length_drop] at *; omega)) (by first | omega | decide | (simp only [len_insAt, List.length_map, List.length_append, List.length_cons, List.length_nil, List.length_take, List.length_drop] at *; omega)) (fun r3 cs3 H r3a r3b hh S => ?_)
    simp only [List.set_cons_zero, List.set_cons_succ] at S
    refine ⟨_, _, _, rfl, ?_⟩
    try dsimp only [tSeq, tAsg, gName, tOp, tUn, tCB, tCons, tNil, tCall, tMethK1, tCallK1, tPar3, tRet, tRetN, tDrop, tTest, tB, tC, tNext, tAugS, tAug, sFld1, sFldAug1, tMeth1, tMake, tMakeK1, tSl, tPart, tNoPart, sDPut1, tDPop, tBM, tBM0, tPar, gSub, tChain, tNot, tNotV, iList1, iTup1, iRng1, iRng2, List.set_cons_zero, List.set_cons_succ]
    refine x_var (by exact rfl) ?_
    refine x_var (by exact rfl) ?_
    refine x_lenI S 7 (by exact rfl) ?_
    refine c_draw S 1 2 (by exact rfl) (by exact rfl) hh (by first | omega | decide | (simp only [len_insAt, List.length_map, List.length_append, List.length_cons, List.length_nil, List.length_take, List.length_drop] at *; omega)) (by first | omega | decide | (simp only [len_insAt, List.length_map, List.length_append, List.length_cons, List.length_nil, List.length_take, List.length_drop] at *; omega)) (by first | omega | decide | (simp only [len_insAt, List.length_map, List.length_append, List.length_cons, List.length_nil, List.length_take, List.length_drop] at *; omega)) (fun r4 cs4 H r4a r4b hh S => ?_)
    simp only [List.set_cons_zero, List.set_cons_succ] at S
    try dsimp only [tSeq, tAsg, gName, tOp, tUn, tCB, tCons, tNil, tCall, tMethK1, tCallK1, tPar3, tRet, tRetN, tDrop, tTest, tB, tC, tNext, tAugS, tAug, sFld1, sFldAug1, tMeth1, tMake, tMakeK1, tSl, tPart, tNoPart, sDPut1, tDPop, tBM, tBM0, tPar, gSub, tChain, tNot, tNotV, iList1, iTup1, iRng1, iRng2, List.set_cons_zero, List.set_cons_succ]
    refine x_if ?_
    try dsimp only [tSeq, tAsg, gName, tOp, tUn, tCB, tCons, tNil, tCall, tMethK1, tCallK1, tPar3, tRet, tRetN, tDrop, tTest, tB, tC, tNext, tAugS, tAug, sFld1, sFldAug1, tMeth1, tMake, tMakeK1, tSl, tPart, tNoPart, sDPut1, tDPop, tBM, tBM0, tPar, gSub, tChain, tNot, tNotV, iList1, iTup1, iRng1, iRng2, List.set_cons_zero, List.set_cons_succ]
    refine x_var (by exact rfl) ?_
    refine x_I0 ?_
    refine ⟨_, rfl, ?_⟩
    refine ited (fun c1 => ?_) (fun c1 => ?_)
    · try dsimp only [tSeq, tAsg, gName, tOp, tUn, tCB, tCons, tNil, tCall, tMethK1, tCallK1, tPar3, tRet, tRetN, tDrop, tTest, tB, tC, tNext, tAugS, tAug, sFld1, sFldAug1, tMeth1, tMake, tMakeK1, tSl, tPart, tNoPart, sDPut1, tDPop, tBM, tBM0, tPar, gSub, tChain, tNot, tNotV, iList1, iTup1, iRng1, iRng2, List.set_cons_zero, List.set_cons_succ]
      refine x_var (by exact rfl) ?_
      refine x_lenI S 7 (by exact rfl) ?_
      refine x_I0 ?_
      refine x_var (by exact rfl) ?_
      refine x_ixF S 5 (by exact rfl) (by exact rfl) ?_
      refine x_var (by exact rfl) ?_
      refine x_var (by exact rfl) ?_
      refine x_ixF S 5 (by exact rfl) (by exact rfl) ?_
      refine x_I0 ?_
      refine c_draw S 1 2 (by exact rfl) (by exact rfl) hh (by first | omega | decide | (simp only [len_insAt, List.length_map, List.length_append, List.length_cons, List.length_nil, List.length_take, List.length_drop] at *; omega)) (by first | omega | decide | (simp only [len_insAt, List.length_map, List.length_append, List.length_cons, List.length_nil, List.length_take, List.length_drop] at *; omega)) (by first | omega | decide | (simp only [len_insAt, List.length_map, List.length_append, List.length_cons, List.length_nil, List.length_take, List.length_drop] at *; omega)) (fun r5 cs5 H r5a r5b hh S => ?_)
      simp only [List.set_cons_zero, List.set_cons_succ] at S
      refine x_I0 ?_
      refine x_I0 ?_
      refine x_min ?_
      refine x_max ?_
      try dsimp only [tSeq, tAsg, gName, tOp, tUn, tCB, tCons, tNil, tCall, tMethK1, tCallK1, tPar3, tRet, tRetN, tDrop, tTest, tB, tC, tNext, tAugS, tAug, sFld1, sFldAug1, tMeth1, tMake, tMakeK1, tSl, tPart, tNoPart, sDPut1, tDPop, tBM, tBM0, tPar, gSub, tChain, tNot, tNotV, iList1, iTup1, iRng1, iRng2, List.set_cons_zero, List.set_cons_succ]
      refine x_for ?_
      try dsimp only [tOp, tUn, tCB, tCons, tNil, tCall, tMethK1, tCallK1, tC, tMeth1, tMake, tMakeK1, tSl, tPart, tNoPart, tDPop, tChain, tNotV, iList1, iTup1, iRng1, iRng2]
      refine x_var (by exact rfl) ?_
      refine ⟨_, rfl, by omega, by omega, ?_⟩
      refine forR (fun i σ H1 => ∃ (z n2 : Int) (cs2 : List Int) (kk : List (Key × V)) (q1 q2 : Option V), σ = [some (.ref p), some (.ref o), some (.ref mo), some (.ref pc), some (.int r1), some (.int v1), some (.int r3), some (.int z), q1, q2] ∧ n2 ≤ n + 5 ∧ Hold n2 cs2 ∧ 0 ≤ z ∧ IntsK kk ∧ kk.length ≤ kvs.length + i ∧ Sep H0 [p, q, d, hx] H1 [(1, p, .lst [.int n2, .ref q]), (1, q, .lst (cs2.map V.int)), (0, o, .ins C dx (F_Taker w t d e)), (1, d, .dK kk), (0, mo, .lst [.ref hx, .int t, .int w, e]), (1, hx, .dK kk), (0, pc, .lst (ps.map V.int))]) ?_ ?_ ?_
      · exact ⟨_, _, _, kvs, _, _, rfl, by omega, hh, by omega, hI, by omega, S.sub [1, 2, 3, 4, 5, 6, 7]⟩
      · rintro i σ H hi ⟨z, n2, cs2, kk, q1, q2, rfl, hn2, hh, hz, hI, hkk, S⟩
        try dsimp only [tSeq, tAsg, gName, tOp, tUn, tCB, tCons, tNil, tCall, tMethK1, tCallK1, tPar3, tRet, tRetN, tDrop, tTest, tB, tC, tNext, tAugS, tAug, sFld1, sFldAug1, tMeth1, tMake, tMakeK1, tSl, tPart, tNoPart, sDPut1, tDPop, tBM, tBM0, tPar, gSub, tChain, tNot, tNotV, iList1, iTup1, iRng1, iRng2, List.set_cons_zero, List.set_cons_succ]
        try dsimp only [tSeq, tAsg, gName, tOp, tUn, tCB, tCons, tNil, tCall, tMethK1, tCallK1, tPar3, tRet, tRetN, tDrop, tTest, tB, tC, tNext, tAugS, tAug, sFld1, sFldAug1, tMeth1, tMake, tMakeK1, tSl, tPart, tNoPart, sDPut1, tDPop, tBM, tBM0, tPar, gSub, tChain, tNot, tNotV, iList1, iTup1, iRng1, iRng2, List.set_cons_zero, List.set_cons_succ]
        refine x_if ?_
        try dsimp only [tSeq, tAsg, gName, tOp, tUn, tCB, tCons, tNil, tCall, tMethK1, tCallK1, tPar3, tRet, tRetN, tDrop, tTest, tB, tC, tNext, tAugS, tAug, sFld1, sFldAug1, tMeth1, tMake, tMakeK1, tSl, tPart, tNoPart, sDPut1, tDPop, tBM, tBM0, tPar, gSub, tChain, tNot, tNotV, iList1, iTup1, iRng1, iRng2, List.set_cons_zero, List.set_cons_succ]
        refine x_var (by exact rfl) ?_
        refine x_var (by exact rfl) ?_
        refine x_lenI S 6 (by exact rfl) ?_
        refine x_I0 ?_
        refine ⟨_, rfl, ?_⟩
        refine ited (fun c2 => ?_) (fun c2 => ?_)
        · try dsimp only [tSeq, tAsg, gName, tOp, tUn, tCB, tCons, tNil, tCall, tMethK1, tCallK1, tPar3, tRet, tRetN, tDrop, tTest, tB, tC, tNext, tAugS, tAug, sFld1, sFldAug1, tMeth1, tMake, tMakeK1, tSl, tPart, tNoPart, sDPut1, tDPop, tBM, tBM0, tPar, gSub, tChain, tNot, tNotV, iList1, iTup1, iRng1, iRng2, List.set_cons_zero, List.set_cons_succ]
          refine x_var (by exact rfl) ?_
          refine x_var (by exact rfl) ?_
          refine x_ixI S 6 (by exact rfl) (by first | omega | exact Int.emod_nonneg _ (by omega)) (by first | omega | exact Int.emod_lt_of_pos _ (by omega)) (fun v2 hv2 => ?_)
          refine x_ifE ?_
          try dsimp only [tSeq, tAsg, gName, tOp, tUn, tCB, tCons, tNil, tCall, tMethK1, tCallK1, tPar3, tRet, tRetN, tDrop, tTest, tB, tC, tNext, tAugS, tAug, sFld1, sFldAug1, tMeth1, tMake, tMakeK1, tSl, tPart, tNoPart, sDPut1, tDPop, tBM, tBM0, tPar, gSub, tChain, tNot, tNotV, iList1, iTup1, iRng1, iRng2, List.set_cons_zero, List.set_cons_succ]
          refine x_var (by exact rfl) ?_
          refine x_eq ?_
          refine ⟨_, rfl, ?_⟩
          refine iteq (fun c3 => ?_) (fun c3 => ?_)
          · refine x_I0 ?_
            try dsimp only [tSeq, tAsg, gName, tOp, tUn, tCB, tCons, tNil, tCall, tMethK1, tCallK1, tPar3, tRet, tRetN, tDrop, tTest, tB, tC, tNext, tAugS, tAug, sFld1, sFldAug1, tMeth1, tMake, tMakeK1, tSl, tPart, tNoPart, sDPut1, tDPop, tBM, tBM0, tPar, gSub, tChain, tNot, tNotV, iList1, iTup1, iRng1, iRng2, List.set_cons_zero, List.set_cons_succ]
            refine x_var (by exact rfl) ?_
            refine x_meth S 2 (by exact rfl) nk_Taker_came ?_
            refine x_var (by exact rfl) ?_
            refine x_var (by exact rfl) ?_
            refine ⟨rfl, ?_⟩
            refine c_came S 2 3 (by exact rfl) (by exact rfl) (by omega) (fun H S => ?_)
            simp only [List.set_cons_zero, List.set_cons_succ] at S
            try dsimp only [tSeq, tAsg, gName, tOp, tUn, tCB, tCons, tNil, tCall, tMethK1, tCallK1, tPar3, tRet, tRetN, tDrop, tTest, tB, tC, tNext, tAugS, tAug, sFld1, sFldAug1, tMeth1, tMake, tMakeK1, tSl, tPart, tNoPart, sDPut1, tDPop, tBM, tBM0, tPar, gSub, tChain, tNot, tNotV, iList1, iTup1, iRng1, iRng2, List.set_cons_zero, List.set_cons_succ]
            refine x_if ?_
            try dsimp only [tSeq, tAsg, gName, tOp, tUn, tCB, tCons, tNil, tCall, tMethK1, tCallK1, tPar3, tRet, tRetN, tDrop, tTest, tB, tC, tNext, tAugS, tAug, sFld1, sFldAug1, tMeth1, tMake, tMakeK1, tSl, tPart, tNoPart, sDPut1, tDPop, tBM, tBM0, tPar, gSub, tChain, tNot, tNotV, iList1, iTup1, iRng1, iRng2, List.set_cons_zero, List.set_cons_succ]
            refine x_and ?_
            try dsimp only [tSeq, tAsg, gName, tOp, tUn, tCB, tCons, tNil, tCall, tMethK1, tCallK1, tPar3, tRet, tRetN, tDrop, tTest, tB, tC, tNext, tAugS, tAug, sFld1, sFldAug1, tMeth1, tMake, tMakeK1, tSl, tPart, tNoPart, sDPut1, tDPop, tBM, tBM0, tPar, gSub, tChain, tNot, tNotV, iList1, iTup1, iRng1, iRng2, List.set_cons_zero, List.set_cons_succ]
            refine x_var (by exact rfl) ?_
            refine x_ixF S 4 (by exact rfl) (by exact rfl) ?_
            refine x_var (by exact rfl) ?_
            refine x_I0 ?_
            refine ⟨_, rfl, ?_⟩
            refine ited (fun c4 => ?_) (fun c4 => ?_)
            · refine x_var (by exact rfl) ?_
              refine x_ixF S 4 (by exact rfl) (by exact rfl) ?_
              refine x_var (by exact rfl) ?_
              refine x_ixF S 4 (by exact rfl) (by exact rfl) ?_
              refine x_I0 ?_
              refine x_I0 ?_
              refine ⟨_, rfl, ?_⟩
              refine ited (fun c5 => ?_) (fun c5 => ?_)
              · refine x_var (by exact rfl) ?_
                refine x_var (by exact rfl) ?_
                refine x_ixF S 4 (by exact rfl) (by exact rfl) ?_
                refine x_dni (k := Sum.inl _) S 5 (by exact rfl) ?_
                refine ⟨_, rfl, ?_⟩
                refine iteNone (fun c6 => ?_) (fun wc6 c6 => ?_)
                · try dsimp only [tSeq, tAsg, gName, tOp, tUn, tCB, tCons, tNil, tCall, tMethK1, tCallK1, tPar3, tRet, tRetN, tDrop, tTest, tB, tC, tNext, tAugS, tAug, sFld1, sFldAug1, tMeth1, tMake, tMakeK1, tSl, tPart, tNoPart, sDPut1, tDPop, tBM, tBM0, tPar, gSub, tChain, tNot, tNotV, iList1, iTup1, iRng1, iRng2, List.set_cons_zero, List.set_cons_succ]
                  refine x_var (by exact rfl) ?_
                  refine x_var (by exact rfl) ?_
                  refine x_ixF S 4 (by exact rfl) (by exact rfl) ?_
                  refine x_var (by exact rfl) ?_
                  refine x_dput (k := Sum.inl _) S 5 (by exact rfl) (by omega) (fun H S => ?_)
                  simp only [List.set_cons_zero, List.set_cons_succ] at S
                  try dsimp only [tSeq, tAsg, gName, tOp, tUn, tCB, tCons, tNil, tCall, tMethK1, tCallK1, tPar3, tRet, tRetN, tDrop, tTest, tB, tC, tNext, tAugS, tAug, sFld1, sFldAug1, tMeth1, tMake, tMakeK1, tSl, tPart, tNoPart, sDPut1, tDPop, tBM, tBM0, tPar, gSub, tChain, tNot, tNotV, iList1, iTup1, iRng1, iRng2, List.set_cons_zero, List.set_cons_succ]
                  refine ⟨_, rfl, ?_⟩
                  refine x_ip ?_
                  first | (rw [show camK t w kk z _ = _ from if_pos ⟨⟨by assumption, by assumption⟩, by assumption⟩] at S; exact ⟨_, _, _, _, _, _, rfl, hn2, hh, by omega, hI.put, Nat.le_trans (length_putK _ _ _) (by omega), S⟩) | (rw [show camK t w kk z _ = _ from if_neg (by rintro ⟨⟨a, b⟩, c⟩; first | contradiction | omega | simp_all)] at S; exact ⟨_, _, _, _, _, _, rfl, hn2, hh, by omega, hI, by omega, S⟩)
                · try dsimp only [tSeq, tAsg, gName, tOp, tUn, tCB, tCons, tNil, tCall, tMethK1, tCallK1, tPar3, tRet, tRetN, tDrop, tTest, tB, tC, tNext, tAugS, tAug, sFld1, sFldAug1, tMeth1, tMake, tMakeK1, tSl, tPart, tNoPart, sDPut1, tDPop, tBM, tBM0, tPar, gSub, tChain, tNot, tNotV, iList1, iTup1, iRng1, iRng2, List.set_cons_zero, List.set_cons_succ]
                  refine ⟨_, rfl, ?_⟩
                  refine x_ip ?_
                  first | (rw [show camK t w kk z _ = _ from if_pos ⟨⟨by assumption, by assumption⟩, by assumption⟩] at S; exact ⟨_, _, _, _, _, _, rfl, hn2, hh, by omega, hI.put, Nat.le_trans (length_putK _ _ _) (by omega), S⟩) | (rw [show camK t w kk z _ = _ from if_neg (by rintro ⟨⟨a, b⟩, c⟩; first | contradiction | omega | simp_all)] at S; exact ⟨_, _, _, _, _, _, rfl, hn2, hh, by omega, hI, by omega, S⟩)
              · refine iteF ?_
                try dsimp only [tSeq, tAsg, gName, tOp, tUn, tCB, tCons, tNil, tCall, tMethK1, tCallK1, tPar3, tRet, tRetN, tDrop, tTest, tB, tC, tNext, tAugS, tAug, sFld1, sFldAug1, tMeth1, tMake, tMakeK1, tSl, tPart, tNoPart, sDPut1, tDPop, tBM, tBM0, tPar, gSub, tChain, tNot, tNotV, iList1, iTup1, iRng1, iRng2, List.set_cons_zero, List.set_cons_succ]
                refine ⟨_, rfl, ?_⟩
                refine x_ip ?_
                first | (rw [show camK t w kk z _ = _ from if_pos ⟨⟨by assumption, by assumption⟩, by assumption⟩] at S; exact ⟨_, _, _, _, _, _, rfl, hn2, hh, by omega, hI.put, Nat.le_trans (length_putK _ _ _) (by omega), S⟩) | (rw [show camK t w kk z _ = _ from if_neg (by rintro ⟨⟨a, b⟩, c⟩; first | contradiction | omega | simp_all)] at S; exact ⟨_, _, _, _, _, _, rfl, hn2, hh, by omega, hI, by omega, S⟩)
            · refine ⟨_, rfl, ?_⟩
              refine iteF ?_
              refine iteF ?_
              try dsimp only [tSeq, tAsg, gName, tOp, tUn, tCB, tCons, tNil, tCall, tMethK1, tCallK1, tPar3, tRet, tRetN, tDrop, tTest, tB, tC, tNext, tAugS, tAug, sFld1, sFldAug1, tMeth1, tMake, tMakeK1, tSl, tPart, tNoPart, sDPut1, tDPop, tBM, tBM0, tPar, gSub, tChain, tNot, tNotV, iList1, iTup1, iRng1, iRng2, List.set_cons_zero, List.set_cons_succ]
              refine ⟨_, rfl, ?_⟩
              refine x_ip ?_
              first | (rw [show camK t w kk z _ = _ from if_pos ⟨⟨by assumption, by assumption⟩, by assumption⟩] at S; exact ⟨_, _, _, _, _, _, rfl, hn2, hh, by omega, hI.put, Nat.le_trans (length_putK _ _ _) (by omega), S⟩) | (rw [show camK t w kk z _ = _ from if_neg (by rintro ⟨⟨a, b⟩, c⟩; first | contradiction | omega | simp_all)] at S; exact ⟨_, _, _, _, _, _, rfl, hn2, hh, by omega, hI, by omega, S⟩)
          · refine x_I0 ?_
            try dsimp only [tSeq, tAsg, gName, tOp, tUn, tCB, tCons, tNil, tCall, tMethK1, tCallK1, tPar3, tRet, tRetN, tDrop, tTest, tB, tC, tNext, tAugS, tAug, sFld1, sFldAug1, tMeth1, tMake, tMakeK1, tSl, tPart, tNoPart, sDPut1, tDPop, tBM, tBM0, tPar, gSub, tChain, tNot, tNotV, iList1, iTup1, iRng1, iRng2, List.set_cons_zero, List.set_cons_succ]
            refine x_var (by exact rfl) ?_
            refine x_meth S 2 (by exact rfl) nk_Taker_came ?_
            refine x_var (by exact rfl) ?_
            refine x_var (by exact rfl) ?_
            refine ⟨rfl, ?_⟩
            refine c_came S 2 3 (by exact rfl) (by exact rfl) (by omega) (fun H S => ?_)
            simp only [List.set_cons_zero, List.set_cons_succ] at S
            try dsimp only [tSeq, tAsg, gName, tOp, tUn, tCB, tCons, tNil, tCall, tMethK1, tCallK1, tPar3, tRet, tRetN, tDrop, tTest, tB, tC, tNext, tAugS, tAug, sFld1, sFldAug1, tMeth1, tMake, tMakeK1, tSl, tPart, tNoPart, sDPut1, tDPop, tBM, tBM0, tPar, gSub, tChain, tNot, tNotV, iList1, iTup1, iRng1, iRng2, List.set_cons_zero, List.set_cons_succ]
            refine x_if ?_
            try dsimp only [tSeq, tAsg, gName, tOp, tUn, tCB, tCons, tNil, tCall, tMethK1, tCallK1, tPar3, tRet, tRetN, tDrop, tTest, tB, tC, tNext, tAugS, tAug, sFld1, sFldAug1, tMeth1, tMake, tMakeK1, tSl, tPart, tNoPart, sDPut1, tDPop, tBM, tBM0, tPar, gSub, tChain, tNot, tNotV, iList1, iTup1, iRng1, iRng2, List.set_cons_zero, List.set_cons_succ]
            refine x_and ?_
            try dsimp only [tSeq, tAsg, gName, tOp, tUn, tCB, tCons, tNil, tCall, tMethK1, tCallK1, tPar3, tRet, tRetN, tDrop, tTest, tB, tC, tNext, tAugS, tAug, sFld1, sFldAug1, tMeth1, tMake, tMakeK1, tSl, tPart, tNoPart, sDPut1, tDPop, tBM, tBM0, tPar, gSub, tChain, tNot, tNotV, iList1, iTup1, iRng1, iRng2, List.set_cons_zero, List.set_cons_succ]
            refine x_var (by exact rfl) ?_
            refine x_ixF S 4 (by exact rfl) (by exact rfl) ?_
            refine x_var (by exact rfl) ?_
            refine x_I0 ?_
            refine ⟨_, rfl, ?_⟩
            refine ited (fun c7 => ?_) (fun c7 => ?_)
            · refine x_var (by exact rfl) ?_
              refine x_ixF S 4 (by exact rfl) (by exact rfl) ?_
              refine x_var (by exact rfl) ?_
              refine x_ixF S 4 (by exact rfl) (by exact rfl) ?_
              refine x_I0 ?_
              refine x_I0 ?_
              refine ⟨_, rfl, ?_⟩
              refine ited (fun c8 => ?_) (fun c8 => ?_)
              · refine x_var (by exact rfl) ?_
                refine x_var (by exact rfl) ?_
                refine x_ixF S 4 (by exact rfl) (by exact rfl) ?_
                refine x_dni (k := Sum.inl _) S 5 (by exact rfl) ?_
                refine ⟨_, rfl, ?_⟩
                refine iteNone (fun c9 => ?_) (fun wc9 c9 => ?_)
                · try dsimp only [tSeq, tAsg, gName, tOp, tUn, tCB, tCons, tNil, tCall, tMethK1, tCallK1, tPar3, tRet, tRetN, tDrop, tTest, tB, tC, tNext, tAugS, tAug, sFld1, sFldAug1, tMeth1, tMake, tMakeK1, tSl, tPart, tNoPart, sDPut1, tDPop, tBM, tBM0, tPar, gSub, tChain, tNot, tNotV, iList1, iTup1, iRng1, iRng2, List.set_cons_zero, List.set_cons_succ]
                  refine x_var (by exact rfl) ?_
                  refine x_var (by exact rfl) ?_
                  refine x_ixF S 4 (by exact rfl) (by exact rfl) ?_
                  refine x_var (by exact rfl) ?_
                  refine x_dput (k := Sum.inl _) S 5 (by exact rfl) (by omega) (fun H S => ?_)
                  simp only [List.set_cons_zero, List.set_cons_succ] at S
                  try dsimp only [tSeq, tAsg, gName, tOp, tUn, tCB, tCons, tNil, tCall, tMethK1, tCallK1, tPar3, tRet, tRetN, tDrop, tTest, tB, tC, tNext, tAugS, tAug, sFld1, sFldAug1, tMeth1, tMake, tMakeK1, tSl, tPart, tNoPart, sDPut1, tDPop, tBM, tBM0, tPar, gSub, tChain, tNot, tNotV, iList1, iTup1, iRng1, iRng2, List.set_cons_zero, List.set_cons_succ]
                  refine ⟨_, rfl, ?_⟩
                  refine x_ip ?_
                  first | (rw [show camK t w kk z _ = _ from if_pos ⟨⟨by assumption, by assumption⟩, by assumption⟩] at S; exact ⟨_, _, _, _, _, _, rfl, hn2, hh, by omega, hI.put, Nat.le_trans (length_putK _ _ _) (by omega), S⟩) | (rw [show camK t w kk z _ = _ from if_neg (by rintro ⟨⟨a, b⟩, c⟩; first | contradiction | omega | simp_all)] at S; exact ⟨_, _, _, _, _, _, rfl, hn2, hh, by omega, hI, by omega, S⟩)
                · try dsimp only [tSeq, tAsg, gName, tOp, tUn, tCB, tCons, tNil, tCall, tMethK1, tCallK1, tPar3, tRet, tRetN, tDrop, tTest, tB, tC, tNext, tAugS, tAug, sFld1, sFldAug1, tMeth1, tMake, tMakeK1, tSl, tPart, tNoPart, sDPut1, tDPop, tBM, tBM0, tPar, gSub, tChain, tNot, tNotV, iList1, iTup1, iRng1, iRng2, List.set_cons_zero, List.set_cons_succ]
                  refine ⟨_, rfl, ?_⟩
                  refine x_ip ?_
                  first | (rw [show camK t w kk z _ = _ from if_pos ⟨⟨by assumption, by assumption⟩, by assumption⟩] at S; exact ⟨_, _, _, _, _, _, rfl, hn2, hh, by omega, hI.put, Nat.le_trans (length_putK _ _ _) (by omega), S⟩) | (rw [show camK t w kk z _ = _ from if_neg (by rintro ⟨⟨a, b⟩, c⟩; first | contradiction | omega | simp_all)] at S; exact ⟨_, _, _, _, _, _, rfl, hn2, hh, by omega, hI, by omega, S⟩)
              · refine iteF ?_
                try dsimp only [tSeq, tAsg, gName, tOp, tUn, tCB, tCons, tNil, tCall, tMethK1, tCallK1, tPar3, tRet, tRetN, tDrop, tTest, tB, tC, tNext, tAugS, tAug, sFld1, sFldAug1, tMeth1, tMake, tMakeK1, tSl, tPart, tNoPart, sDPut1, tDPop, tBM, tBM0, tPar, gSub, tChain, tNot, tNotV, iList1, iTup1, iRng1, iRng2, List.set_cons_zero, List.set_cons_succ]
                refine ⟨_, rfl, ?_⟩
                refine x_ip ?_
                first | (rw [show camK t w kk z _ = _ from if_pos ⟨⟨by assumption, by assumption⟩, by assumption⟩] at S; exact ⟨_, _, _, _, _, _, rfl, hn2, hh, by omega, hI.put, Nat.le_trans (length_putK _ _ _) (by omega), S⟩) | (rw [show camK t w kk z _ = _ from if_neg (by rintro ⟨⟨a, b⟩, c⟩; first | contradiction | omega | simp_all)] at S; exact ⟨_, _, _, _, _, _, rfl, hn2, hh, by omega, hI, by omega, S⟩)
            · refine ⟨_, rfl, ?_⟩
              refine iteF ?_
              refine iteF ?_
              try dsimp only [tSeq, tAsg, gName, tOp, tUn, tCB, tCons, tNil, tCall, tMethK1, tCallK1, tPar3, tRet, tRetN, tDrop, tTest, tB, tC, tNext, tAugS, tAug, sFld1, sFldAug1, tMeth1, tMake, tMakeK1, tSl, tPart, tNoPart, sDPut1, tDPop, tBM, tBM0, tPar, gSub, tChain, tNot, tNotV, iList1, iTup1, iRng1, iRng2, List.set_cons_zero, List.set_cons_succ]
              refine ⟨_, rfl, ?_⟩
              refine x_ip ?_
              first | (rw [show camK t w kk z _ = _ from if_pos ⟨⟨by assumption, by assumption⟩, by assumption⟩] at S; exact ⟨_, _, _, _, _, _, rfl, hn2, hh, by omega, hI.put, Nat.le_trans (length_putK _ _ _) (by omega), S⟩) | (rw [show camK t w kk z _ = _ from if_neg (by rintro ⟨⟨a, b⟩, c⟩; first | contradiction | omega | simp_all)] at S; exact ⟨_, _, _, _, _, _, rfl, hn2, hh, by omega, hI, by omega, S⟩)
        · try dsimp only [tSeq, tAsg, gName, tOp, tUn, tCB, tCons, tNil, tCall, tMethK1, tCallK1, tPar3, tRet, tRetN, tDrop, tTest, tB, tC, tNext, tAugS, tAug, sFld1, sFldAug1, tMeth1, tMake, tMakeK1, tSl, tPart, tNoPart, sDPut1, tDPop, tBM, tBM0, tPar, gSub, tChain, tNot, tNotV, iList1, iTup1, iRng1, iRng2, List.set_cons_zero, List.set_cons_succ]
          refine ⟨_, rfl, ?_⟩
          refine x_ip ?_
          exact ⟨_, _, _, _, _, _, rfl, hn2, hh, by omega, hI, by omega, S⟩
      · rintro σ H ⟨z, n2, cs2, kk, q1, q2, rfl, hn2, hh, hz, hI, hkk, S⟩
        try dsimp only [tSeq, tAsg, gName, tOp, tUn, tCB, tCons, tNil, tCall, tMethK1, tCallK1, tPar3, tRet, tRetN, tDrop, tTest, tB, tC, tNext, tAugS, tAug, sFld1, sFldAug1, tMeth1, tMake, tMakeK1, tSl, tPart, tNoPart, sDPut1, tDPop, tBM, tBM0, tPar, gSub, tChain, tNot, tNotV, iList1, iTup1, iRng1, iRng2, List.set_cons_zero, List.set_cons_succ]
        exact k _ _ _ _ hn2 hh hI (by omega) (S.get 0 rfl) (S.get 1 rfl) (S.get 3 rfl) (S.get 5 rfl) S.fr
    · try dsimp only [tSeq, tAsg, gName, tOp, tUn, tCB, tCons, tNil, tCall, tMethK1, tCallK1, tPar3, tRet, tRetN, tDrop, tTest, tB, tC, tNext, tAugS, tAug, sFld1, sFldAug1, tMeth1, tMake, tMakeK1, tSl, tPart, tNoPart, sDPut1, tDPop, tBM, tBM0, tPar, gSub, tChain, tNot, tNotV, iList1, iTup1, iRng1, iRng2, List.set_cons_zero, List.set_cons_succ]
      refine x_for ?_
      try dsimp only [tOp, tUn, tCB, tCons, tNil, tCall, tMethK1, tCallK1, tC, tMeth1, tMake, tMakeK1, tSl, tPart, tNoPart, tDPop, tChain, tNotV, iList1, iTup1, iRng1, iRng2]
      refine x_var (by exact rfl) ?_
      refine ⟨_, rfl, by omega, by omega, ?_⟩
      refine forR (fun i σ H1 => ∃ (z n2 : Int) (cs2 : List Int) (kk : List (Key × V)) (q1 q2 : Option V), σ = [some (.ref p), some (.ref o), some (.ref mo), some (.ref pc), some (.int r1), some (.int v1), some (.int r3), some (.int z), q1, q2] ∧ n2 ≤ n + 5 ∧ Hold n2 cs2 ∧ 0 ≤ z ∧ IntsK kk ∧ kk.length ≤ kvs.length + i ∧ Sep H0 [p, q, d, hx] H1 [(1, p, .lst [.int n2, .ref q]), (1, q, .lst (cs2.map V.int)), (0, o, .ins C dx (F_Taker w t d e)), (1, d, .dK kk), (0, mo, .lst [.ref hx, .int t, .int w, e]), (1, hx, .dK kk), (0, pc, .lst (ps.map V.int))]) ?_ ?_ ?_
      · exact ⟨_, _, _, kvs, _, _, rfl, by omega, hh, by omega, hI, by omega, S.sub [1, 2, 3, 4, 5, 6, 7]⟩
      · rintro i σ H hi ⟨z, n2, cs2, kk, q1, q2, rfl, hn2, hh, hz, hI, hkk, S⟩
        try dsimp only [tSeq, tAsg, gName, tOp, tUn, tCB, tCons, tNil, tCall, tMethK1, tCallK1, tPar3, tRet, tRetN, tDrop, tTest, tB, tC, tNext, tAugS, tAug, sFld1, sFldAug1, tMeth1, tMake, tMakeK1, tSl, tPart, tNoPart, sDPut1, tDPop, tBM, tBM0, tPar, gSub, tChain, tNot, tNotV, iList1, iTup1, iRng1, iRng2, List.set_cons_zero, List.set_cons_succ]
        try dsimp only [tSeq, tAsg, gName, tOp, tUn, tCB, tCons, tNil, tCall, tMethK1, tCallK1, tPar3, tRet, tRetN, tDrop, tTest, tB, tC, tNext, tAugS, tAug, sFld1, sFldAug1, tMeth1, tMake, tMakeK1, tSl, tPart, tNoPart, sDPut1, tDPop, tBM, tBM0, tPar, gSub, tChain, tNot, tNotV, iList1, iTup1, iRng1, iRng2, List.set_cons_zero, List.set_cons_succ]
        refine x_if ?_
        try dsimp only [tSeq, tAsg, gName, tOp, tUn, tCB, tCons, tNil, tCall, tMethK1, tCallK1, tPar3, tRet, tRetN, tDrop, tTest, tB, tC, tNext, tAugS, tAug, sFld1, sFldAug1, tMeth1, tMake, tMakeK1, tSl, tPart, tNoPart, sDPut1, tDPop, tBM, tBM0, tPar, gSub, tChain, tNot, tNotV, iList1, iTup1, iRng1, iRng2, List.set_cons_zero, List.set_cons_succ]
        refine x_var (by exact rfl) ?_
        refine x_var (by exact rfl) ?_
        refine x_lenI S 6 (by exact rfl) ?_
        refine x_I0 ?_
        refine ⟨_, rfl, ?_⟩
        refine ited (fun c10 => ?_) (fun c10 => ?_)
        · try dsimp only [tSeq, tAsg, gName, tOp, tUn, tCB, tCons, tNil, tCall, tMethK1, tCallK1, tPar3, tRet, tRetN, tDrop, tTest, tB, tC, tNext, tAugS, tAug, sFld1, sFldAug1, tMeth1, tMake, tMakeK1, tSl, tPart, tNoPart, sDPut1, tDPop, tBM, tBM0, tPar, gSub, tChain, tNot, tNotV, iList1, iTup1, iRng1, iRng2, List.set_cons_zero, List.set_cons_succ]
          refine x_var (by exact rfl) ?_
          refine x_var (by exact rfl) ?_
          refine x_ixI S 6 (by exact rfl) (by first | omega | exact Int.emod_nonneg _ (by omega)) (by first | omega | exact Int.emod_lt_of_pos _ (by omega)) (fun v3 hv3 => ?_)
          refine x_ifE ?_
          try dsimp only [tSeq, tAsg, gName, tOp, tUn, tCB, tCons, tNil, tCall, tMethK1, tCallK1, tPar3, tRet, tRetN, tDrop, tTest, tB, tC, tNext, tAugS, tAug, sFld1, sFldAug1, tMeth1, tMake, tMakeK1, tSl, tPart, tNoPart, sDPut1, tDPop, tBM, tBM0, tPar, gSub, tChain, tNot, tNotV, iList1, iTup1, iRng1, iRng2, List.set_cons_zero, List.set_cons_succ]
          refine x_var (by exact rfl) ?_
          refine x_eq ?_
          refine ⟨_, rfl, ?_⟩
          refine iteq (fun c11 => ?_) (fun c11 => ?_)
          · refine x_I0 ?_
            try dsimp only [tSeq, tAsg, gName, tOp, tUn, tCB, tCons, tNil, tCall, tMethK1, tCallK1, tPar3, tRet, tRetN, tDrop, tTest, tB, tC, tNext, tAugS, tAug, sFld1, sFldAug1, tMeth1, tMake, tMakeK1, tSl, tPart, tNoPart, sDPut1, tDPop, tBM, tBM0, tPar, gSub, tChain, tNot, tNotV, iList1, iTup1, iRng1, iRng2, List.set_cons_zero, List.set_cons_succ]
            refine x_var (by exact rfl) ?_
            refine x_meth S 2 (by exact rfl) nk_Taker_came ?_
            refine x_var (by exact rfl) ?_
            refine x_var (by exact rfl) ?_
            refine ⟨rfl, ?_⟩
            refine c_came S 2 3 (by exact rfl) (by exact rfl) (by omega) (fun H S => ?_)
            simp only [List.set_cons_zero, List.set_cons_succ] at S
            try dsimp only [tSeq, tAsg, gName, tOp, tUn, tCB, tCons, tNil, tCall, tMethK1, tCallK1, tPar3, tRet, tRetN, tDrop, tTest, tB, tC, tNext, tAugS, tAug, sFld1, sFldAug1, tMeth1, tMake, tMakeK1, tSl, tPart, tNoPart, sDPut1, tDPop, tBM, tBM0, tPar, gSub, tChain, tNot, tNotV, iList1, iTup1, iRng1, iRng2, List.set_cons_zero, List.set_cons_succ]
            refine x_if ?_
            try dsimp only [tSeq, tAsg, gName, tOp, tUn, tCB, tCons, tNil, tCall, tMethK1, tCallK1, tPar3, tRet, tRetN, tDrop, tTest, tB, tC, tNext, tAugS, tAug, sFld1, sFldAug1, tMeth1, tMake, tMakeK1, tSl, tPart, tNoPart, sDPut1, tDPop, tBM, tBM0, tPar, gSub, tChain, tNot, tNotV, iList1, iTup1, iRng1, iRng2, List.set_cons_zero, List.set_cons_succ]
            refine x_and ?_
            try dsimp only [tSeq, tAsg, gName, tOp, tUn, tCB, tCons, tNil, tCall, tMethK1, tCallK1, tPar3, tRet, tRetN, tDrop, tTest, tB, tC, tNext, tAugS, tAug, sFld1, sFldAug1, tMeth1, tMake, tMakeK1, tSl, tPart, tNoPart, sDPut1, tDPop, tBM, tBM0, tPar, gSub, tChain, tNot, tNotV, iList1, iTup1, iRng1, iRng2, List.set_cons_zero, List.set_cons_succ]
            refine x_var (by exact rfl) ?_
            refine x_ixF S 4 (by exact rfl) (by exact rfl) ?_
            refine x_var (by exact rfl) ?_
            refine x_I0 ?_
            refine ⟨_, rfl, ?_⟩
            refine ited (fun c12 => ?_) (fun c12 => ?_)
            · refine x_var (by exact rfl) ?_
              refine x_ixF S 4 (by exact rfl) (by exact rfl) ?_
              refine x_var (by exact rfl) ?_
              refine x_ixF S 4 (by exact rfl) (by exact rfl) ?_
              refine x_I0 ?_
              refine x_I0 ?_
              refine ⟨_, rfl, ?_⟩
              refine ited (fun c13 => ?_) (fun c13 => ?_)
              · refine x_var (by exact rfl) ?_
                refine x_var (by exact rfl) ?_
                refine x_ixF S 4 (by exact rfl) (by exact rfl) ?_
                refine x_dni (k := Sum.inl _) S 5 (by exact rfl) ?_
                refine ⟨_, rfl, ?_⟩
                refine iteNone (fun c14 => ?_) (fun wc14 c14 => ?_)
                · try dsimp only [tSeq, tAsg, gName, tOp, tUn, tCB, tCons, tNil, tCall, tMethK1, tCallK1, tPar3, tRet, tRetN, tDrop, tTest, tB, tC, tNext, tAugS, tAug, sFld1, sFldAug1, tMeth1, tMake, tMakeK1, tSl, tPart, tNoPart, sDPut1, tDPop, tBM, tBM0, tPar, gSub, tChain, tNot, tNotV, iList1, iTup1, iRng1, iRng2, List.set_cons_zero, List.set_cons_succ]
                  refine x_var (by exact rfl) ?_
                  refine x_var (by exact rfl) ?_
                  refine x_ixF S 4 (by exact rfl) (by exact rfl) ?_
                  refine x_var (by exact rfl) ?_
                  refine x_dput (k := Sum.inl _) S 5 (by exact rfl) (by omega) (fun H S => ?_)
                  simp only [List.set_cons_zero, List.set_cons_succ] at S
                  try dsimp only [tSeq, tAsg, gName, tOp, tUn, tCB, tCons, tNil, tCall, tMethK1, tCallK1, tPar3, tRet, tRetN, tDrop, tTest, tB, tC, tNext, tAugS, tAug, sFld1, sFldAug1, tMeth1, tMake, tMakeK1, tSl, tPart, tNoPart, sDPut1, tDPop, tBM, tBM0, tPar, gSub, tChain, tNot, tNotV, iList1, iTup1, iRng1, iRng2, List.set_cons_zero, List.set_cons_succ]
                  refine ⟨_, rfl, ?_⟩
                  refine x_ip ?_
                  first | (rw [show camK t w kk z _ = _ from if_pos ⟨⟨by assumption, by assumption⟩, by assumption⟩] at S; exact ⟨_, _, _, _, _, _, rfl, hn2, hh, by omega, hI.put, Nat.le_trans (length_putK _ _ _) (by omega), S⟩) | (rw [show camK t w kk z _ = _ from if_neg (by rintro ⟨⟨a, b⟩, c⟩; first | contradiction | omega | simp_all)] at S; exact ⟨_, _, _, _, _, _, rfl, hn2, hh, by omega, hI, by omega, S⟩)
                · try dsimp only [tSeq, tAsg, gName, tOp, tUn, tCB, tCons, tNil, tCall, tMethK1, tCallK1, tPar3, tRet, tRetN, tDrop, tTest, tB, tC, tNext, tAugS, tAug, sFld1, sFldAug1, tMeth1, tMake, tMakeK1, tSl, tPart, tNoPart, sDPut1, tDPop, tBM, tBM0, tPar, gSub, tChain, tNot, tNotV, iList1, iTup1, iRng1, iRng2, List.set_cons_zero, List.set_cons_succ]
                  refine ⟨_, rfl, ?_⟩
                  refine x_ip ?_
                  first | (rw [show camK t w kk z _ = _ from if_pos ⟨⟨by assumption, by assumption⟩, by assumption⟩] at S; exact ⟨_, _, _, _, _, _, rfl, hn2, hh, by omega, hI.put, Nat.le_trans (length_putK _ _ _) (by omega), S⟩) | (rw [show camK t w kk z _ = _ from if_neg (by rintro ⟨⟨a, b⟩, c⟩; first | contradiction | omega | simp_all)] at S; exact ⟨_, _, _, _, _, _, rfl, hn2, hh, by omega, hI, by omega, S⟩)
              · refine iteF ?_
                try dsimp only [tSeq, tAsg, gName, tOp, tUn, tCB, tCons, tNil, tCall, tMethK1, tCallK1, tPar3, tRet, tRetN, tDrop, tTest, tB, tC, tNext, tAugS, tAug, sFld1, sFldAug1, tMeth1, tMake, tMakeK1, tSl, tPart, tNoPart, sDPut1, tDPop, tBM, tBM0, tPar, gSub, tChain, tNot, tNotV, iList1, iTup1, iRng1, iRng2, List.set_cons_zero, List.set_cons_succ]
                refine ⟨_, rfl, ?_⟩
                refine x_ip ?_
                first | (rw [show camK t w kk z _ = _ from if_pos ⟨⟨by assumption, by assumption⟩, by assumption⟩] at S; exact ⟨_, _, _, _, _, _, rfl, hn2, hh, by omega, hI.put, Nat.le_trans (length_putK _ _ _) (by omega), S⟩) | (rw [show camK t w kk z _ = _ from if_neg (by rintro ⟨⟨a, b⟩, c⟩; first | contradiction | omega | simp_all)] at S; exact ⟨_, _, _, _, _, _, rfl, hn2, hh, by omega, hI, by omega, S⟩)
            · refine ⟨_, rfl, ?_⟩
              refine iteF ?_
              refine iteF ?_
              try dsimp only [tSeq, tAsg, gName, tOp, tUn, tCB, tCons, tNil, tCall, tMethK1, tCallK1, tPar3, tRet, tRetN, tDrop, tTest, tB, tC, tNext, tAugS, tAug, sFld1, sFldAug1, tMeth1, tMake, tMakeK1, tSl, tPart, tNoPart, sDPut1, tDPop, tBM, tBM0, tPar, gSub, tChain, tNot, tNotV, iList1, iTup1, iRng1, iRng2, List.set_cons_zero, List.set_cons_succ]
              refine ⟨_, rfl, ?_⟩
              refine x_ip ?_
              first | (rw [show camK t w kk z _ = _ from if_pos ⟨⟨by assumption, by assumption⟩, by assumption⟩] at S; exact ⟨_, _, _, _, _, _, rfl, hn2, hh, by omega, hI.put, Nat.le_trans (length_putK _ _ _) (by omega), S⟩) | (rw [show camK t w kk z _ = _ from if_neg (by rintro ⟨⟨a, b⟩, c⟩; first | contradiction | omega | simp_all)] at S; exact ⟨_, _, _, _, _, _, rfl, hn2, hh, by omega, hI, by omega, S⟩)
          · refine x_I0 ?_
            try dsimp only [tSeq, tAsg, gName, tOp, tUn, tCB, tCons, tNil, tCall, tMethK1, tCallK1, tPar3, tRet, tRetN, tDrop, tTest, tB, tC, tNext, tAugS, tAug, sFld1, sFldAug1, tMeth1, tMake, tMakeK1, tSl, tPart, tNoPart, sDPut1, tDPop, tBM, tBM0, tPar, gSub, tChain, tNot, tNotV, iList1, iTup1, iRng1, iRng2, List.set_cons_zero, List.set_cons_succ]
            refine x_var (by exact rfl) ?_
            refine x_meth S 2 (by exact rfl) nk_Taker_came ?_
            refine x_var (by exact rfl) ?_
            refine x_var (by exact rfl) ?_
            refine ⟨rfl, ?_⟩
            refine c_came S 2 3 (by exact rfl) (by exact rfl) (by omega) (fun H S => ?_)
            simp only [List.set_cons_zero, List.set_cons_succ] at S
            try dsimp only [tSeq, tAsg, gName, tOp, tUn, tCB, tCons, tNil, tCall, tMethK1, tCallK1, tPar3, tRet, tRetN, tDrop, tTest, tB, tC, tNext, tAugS, tAug, sFld1, sFldAug1, tMeth1, tMake, tMakeK1, tSl, tPart, tNoPart, sDPut1, tDPop, tBM, tBM0, tPar, gSub, tChain, tNot, tNotV, iList1, iTup1, iRng1, iRng2, List.set_cons_zero, List.set_cons_succ]
            refine x_if ?_
            try dsimp only [tSeq, tAsg, gName, tOp, tUn, tCB, tCons, tNil, tCall, tMethK1, tCallK1, tPar3, tRet, tRetN, tDrop, tTest, tB, tC, tNext, tAugS, tAug, sFld1, sFldAug1, tMeth1, tMake, tMakeK1, tSl, tPart, tNoPart, sDPut1, tDPop, tBM, tBM0, tPar, gSub, tChain, tNot, tNotV, iList1, iTup1, iRng1, iRng2, List.set_cons_zero, List.set_cons_succ]
            refine x_and ?_
            try dsimp only [tSeq, tAsg, gName, tOp, tUn, tCB, tCons, tNil, tCall, tMethK1, tCallK1, tPar3, tRet, tRetN, tDrop, tTest, tB, tC, tNext, tAugS, tAug, sFld1, sFldAug1, tMeth1, tMake, tMakeK1, tSl, tPart, tNoPart, sDPut1, tDPop, tBM, tBM0, tPar, gSub, tChain, tNot, tNotV, iList1, iTup1, iRng1, iRng2, List.set_cons_zero, List.set_cons_succ]
            refine x_var (by exact rfl) ?_
            refine x_ixF S 4 (by exact rfl) (by exact rfl) ?_
            refine x_var (by exact rfl) ?_
            refine x_I0 ?_
            refine ⟨_, rfl, ?_⟩
            refine ited (fun c15 => ?_) (fun c15 => ?_)
            · refine x_var (by exact rfl) ?_
              refine x_ixF S 4 (by exact rfl) (by exact rfl) ?_
              refine x_var (by exact rfl) ?_
              refine x_ixF S 4 (by exact rfl) (by exact rfl) ?_
              refine x_I0 ?_
              refine x_I0 ?_
              refine ⟨_, rfl, ?_⟩
              refine ited (fun c16 => ?_) (fun c16 => ?_)
              · refine x_var (by exact rfl) ?_
                refine x_var (by exact rfl) ?_
                refine x_ixF S 4 (by exact rfl) (by exact rfl) ?_
                refine x_dni (k := Sum.inl _) S 5 (by exact rfl) ?_
                refine ⟨_, rfl, ?_⟩
                refine iteNone (fun c17 => ?_) (fun wc17 c17 => ?_)
                · try dsimp only [tSeq, tAsg, gName, tOp, tUn, tCB, tCons, tNil, tCall, tMethK1, tCallK1, tPar3, tRet, tRetN, tDrop, tTest, tB, tC, tNext, tAugS, tAug, sFld1, sFldAug1, tMeth1, tMake, tMakeK1, tSl, tPart, tNoPart, sDPut1, tDPop, tBM, tBM0, tPar, gSub, tChain, tNot, tNotV, iList1, iTup1, iRng1, iRng2, List.set_cons_zero, List.set_cons_succ]
                  refine x_var (by exact rfl) ?_
                  refine x_var (by exact rfl) ?_
                  refine x_ixF S 4 (by exact rfl) (by exact rfl) ?_
                  refine x_var (by exact rfl) ?_
                  refine x_dput (k := Sum.inl _) S 5 (by exact rfl) (by omega) (fun H S => ?_)
                  simp only [List.set_cons_zero, List.set_cons_succ] at S
                  try dsimp only [tSeq, tAsg, gName, tOp, tUn, tCB, tCons, tNil, tCall, tMethK1, tCallK1, tPar3, tRet, tRetN, tDrop, tTest, tB, tC, tNext, tAugS, tAug, sFld1, sFldAug1, tMeth1, tMake, tMakeK1, tSl, tPart, tNoPart, sDPut1, tDPop, tBM, tBM0, tPar, gSub, tChain, tNot, tNotV, iList1, iTup1, iRng1, iRng2, List.set_cons_zero, List.set_cons_succ]
                  refine ⟨_, rfl, ?_⟩
                  refine x_ip ?_
                  first | (rw [show camK t w kk z _ = _ from if_pos ⟨⟨by assumption, by assumption⟩, by assumption⟩] at S; exact ⟨_, _, _, _, _, _, rfl, hn2, hh, by omega, hI.put, Nat.le_trans (length_putK _ _ _) (by omega), S⟩) | (rw [show camK t w kk z _ = _ from if_neg (by rintro ⟨⟨a, b⟩, c⟩; first | contradiction | omega | simp_all)] at S; exact ⟨_, _, _, _, _, _, rfl, hn2, hh, by omega, hI, by omega, S⟩)
                · try dsimp only [tSeq, tAsg, gName, tOp, tUn, tCB, tCons, tNil, tCall, tMethK1, tCallK1, tPar3, tRet, tRetN, tDrop, tTest, tB, tC, tNext, tAugS, tAug, sFld1, sFldAug1, tMeth1, tMake, tMakeK1, tSl, tPart, tNoPart, sDPut1, tDPop, tBM, tBM0, tPar, gSub, tChain, tNot, tNotV, iList1, iTup1, iRng1, iRng2, List.set_cons_zero, List.set_cons_succ]
                  refine ⟨_, rfl, ?_⟩
                  refine x_ip ?_
                  first | (rw [show camK t w kk z _ = _ from if_pos ⟨⟨by assumption, by assumption⟩, by assumption⟩] at S; exact ⟨_, _, _, _, _, _, rfl, hn2, hh, by omega, hI.put, Nat.le_trans (length_putK _ _ _) (by omega), S⟩) | (rw [show camK t w kk z _ = _ from if_neg (by rintro ⟨⟨a, b⟩, c⟩; first | contradiction | omega | simp_all)] at S; exact ⟨_, _, _, _, _, _, rfl, hn2, hh, by omega, hI, by omega, S⟩)
              · refine iteF ?_
                try dsimp only [tSeq, tAsg, gName, tOp, tUn, tCB, tCons, tNil, tCall, tMethK1, tCallK1, tPar3, tRet, tRetN, tDrop, tTest, tB, tC, tNext, tAugS, tAug, sFld1, sFldAug1, tMeth1, tMake, tMakeK1, tSl, tPart, tNoPart, sDPut1, tDPop, tBM, tBM0, tPar, gSub, tChain, tNot, tNotV, iList1, iTup1, iRng1, iRng2, List.set_cons_zero, List.set_cons_succ]
                refine ⟨_, rfl, ?_⟩
                refine x_ip ?_
                first | (rw [show camK t w kk z _ = _ from if_pos ⟨⟨by assumption, by assumption⟩, by assumption⟩] at S; exact ⟨_, _, _, _, _, _, rfl, hn2, hh, by omega, hI.put, Nat.le_trans (length_putK _ _ _) (by omega), S⟩) | (rw [show camK t w kk z _ = _ from if_neg (by rintro ⟨⟨a, b⟩, c⟩; first | contradiction | omega | simp_all)] at S; exact ⟨_, _, _, _, _, _, rfl, hn2, hh, by omega, hI, by omega, S⟩)
            · refine ⟨_, rfl, ?_⟩
              refine iteF ?_
              refine iteF ?_
              try dsimp only [tSeq, tAsg, gName, tOp, tUn, tCB, tCons, tNil, tCall, tMethK1, tCallK1, tPar3, tRet, tRetN, tDrop, tTest, tB, tC, tNext, tAugS, tAug, sFld1, sFldAug1, tMeth1, tMake, tMakeK1, tSl, tPart, tNoPart, sDPut1, tDPop, tBM, tBM0, tPar, gSub, tChain, tNot, tNotV, iList1, iTup1, iRng1, iRng2, List.set_cons_zero, List.set_cons_succ]
              refine ⟨_, rfl, ?_⟩
              refine x_ip ?_
              first | (rw [show camK t w kk z _ = _ from if_pos ⟨⟨by assumption, by assumption⟩, by assumption⟩] at S; exact ⟨_, _, _, _, _, _, rfl, hn2, hh, by omega, hI.put, Nat.le_trans (length_putK _ _ _) (by omega), S⟩) | (rw [show camK t w kk z _ = _ from if_neg (by rintro ⟨⟨a, b⟩, c⟩; first | contradiction | omega | simp_all)] at S; exact ⟨_, _, _, _, _, _, rfl, hn2, hh, by omega, hI, by omega, S⟩)
        · try dsimp only [tSeq, tAsg, gName, tOp, tUn, tCB, tCons, tNil, tCall, tMethK1, tCallK1, tPar3, tRet, tRetN, tDrop, tTest, tB, tC, tNext, tAugS, tAug, sFld1, sFldAug1, tMeth1, tMake, tMakeK1, tSl, tPart, tNoPart, sDPut1, tDPop, tBM, tBM0, tPar, gSub, tChain, tNot, tNotV, iList1, iTup1, iRng1, iRng2, List.set_cons_zero, List.set_cons_succ]
          refine ⟨_, rfl, ?_⟩
          refine x_ip ?_
          exact ⟨_, _, _, _, _, _, rfl, hn2, hh, by omega, hI, by omega, S⟩
      · rintro σ H ⟨z, n2, cs2, kk, q1, q2, rfl, hn2, hh, hz, hI, hkk, S⟩
        try dsimp only [tSeq, tAsg, gName, tOp, tUn, tCB, tCons, tNil, tCall, tMethK1, tCallK1, tPar3, tRet, tRetN, tDrop, tTest, tB, tC, tNext, tAugS, tAug, sFld1, sFldAug1, tMeth1, tMake, tMakeK1, tSl, tPart, tNoPart, sDPut1, tDPop, tBM, tBM0, tPar, gSub, tChain, tNot, tNotV, iList1, iTup1, iRng1, iRng2, List.set_cons_zero, List.set_cons_succ]
        exact k _ _ _ _ hn2 hh hI (by omega) (S.get 0 rfl) (S.get 1 rfl) (S.get 3 rfl) (S.get 5 rfl) S.fr
end
end G

set_option linter.all false
set_option maxRecDepth 100000
set_option maxHeartbeats 4000000
namespace G
open PySem PySem.Spec PyProof.Rows L2

def spLaw (K : PySem.W.Frag) : Sp := fun vs H Q _ => ∃ (a : Addr) (ns : List Int), vs = [.ref a] ∧ SqL K H a (ns.map V.int) ∧ ns.length ≤ 63 ∧ ∀ H', Q (.bl true) H'
theorem c_mkTaker0 {C : Addr} {w : Int} {H0 H : Hp} {ft : List Addr} {l : List Cell} {Q : VK} {E : XK} (S : Sep H0 ft H l) (k : ∀ x dx d H', Sep H0 ft H' ((2, d, .dK []) :: (2, x, .ins C dx (F_Taker w 0 d .non)) :: l) → Q (.ref x) H') :
    rMk0 C (spTkInit C) [V.int w] E H Q := by
  refine fun x dx hx hd n => ⟨x, dx, w, rfl, upd_same, fun d H' nd e1 e2 F => ⟨rfl, ?_⟩⟩
  have S1 := S.made (C := C) hx hd n
  have S2 := S1.chg1 0 rfl F e1
  exact k x dx d H' (S1.got S2 rfl nd e2)
theorem all4 {α : Type} {a b c d : α} {p : α → Prop} (h1 : p a) (h2 : p b) (h3 : p c) (h4 : p d) : ∀ u ∈ [a, b, c, d], p u := fun u hu => by
  simp only [List.mem_cons, List.not_mem_nil, or_false] at hu
  rcases hu with rfl | rfl | rfl | rfl <;> assumption
section
variable {P : Program} {w : World} {K : PySem.W.Frag} {mg : Str → Option Value} {base : Heap}
abbrev s_law : Stmt := (topS 13)
theorem sc_law : FnScope ["_law_script", "_law_hold", "_law_wide_here", "_law_taker", "_law_k", "_law_pieces", "_law_model", "_law_way", "_law_turn"] ["_law_script"] (defScope s_law) := ⟨rfl, rfl, rfl, by decide +kernel, rfl, by decide +kernel, by decide +kernel⟩
theorem ok_law {f : Addr} {fd : FuncData} {C : Addr} (F : L2.Fun K "law" "law" s_law f fd) (cd : Cal P w K mg base CX0 1 "_law_draw" spDraw) (cv : Cal P w K mg base CX0 2 "_law_value" spValue) (cw : Cal P w K mg base CX0 2 "_law_wide" spWide) (clc : Cal P w K mg base CX0 2 "_law_came" (spLCame C)) (clt : Cal P w K mg base CX0 2 "_law_taken" (spLTaken C)) (clr : Cal P w K mg base CX0 3 "_law_right" (spRight C)) (mk : MakK P w K mg base CX0 1 "Taker" C ["window"] (spTkInit C)) (mkd : MakD P w K mg base CX0 1 "Taker" C [V.int 4] (spTkInit C)) (mends : MetK P w K mg base CX0 1 C "ends" ["many"] [0] (spEnds C)) (z_len : mg "len" = none) (z_list : mg "list" = none) (z_range : mg "range" = none) (z_max : mg "max" = none) (z_min : mg "min" = none) : FnOk P w K mg base CX0 4 f fd ["_law_script"] (spLaw K) := by
  refine F.ok sc_law (fun vs H Q E h => ?_) (fun cdv A outer s H0 vs Q E hr h => ?_)
  · obtain ⟨a, ns, rfl, hs, hl, k⟩ := h
    rfl
  · obtain ⟨a, ns, rfl, hs, hl, k⟩ := h
    have hu := hu_of hr
    have S := Sep.of0 (H := H0)
    refine ⟨_, pss_cons (ps_set (i := 1) sc_law.nd rfl (.inr rfl) (pe_lst1 (pa_cons (pe_int) (pa_cons (pe_ifExp (pt_cmpR (op_neDK K hr.units) (pv 0) (pe_lst1 pa_nil) (nomark _)) (pe_callTy (cl_listK K) (by rfl) z_list (by decide +kernel) (pa_cons (pv 0) pa_nil)) (pe_lst1 (pa_cons (pe_int) pa_nil))) pa_nil))))
      (pss_cons (ps_set (i := 2) sc_law.nd rfl (.inl rfl) (pe_c cw hr (by decide) (by rfl) pass0 (pa_cons (pv 1) pa_nil)))
      (pss_cons (ps_set (i := 3) sc_law.nd rfl (.inl rfl) (pe_ifExp ((pw_and (pt_cmpR op_eq (pv 2) (pe_int) (nomark _)) (pw_and1 (pt_cmpR op_eq (pe_c cd hr (by decide) (by rfl) pass0 (pa_cons (pv 1) (pa_cons (pe_int) pa_nil))) (pe_int) (nomark _)))).pt) (pe_mkD mkd hr (by decide) (by rfl) pass0) (pe_mkK mk hr (by decide) (by rfl) pass0 (pk_cons (pv 2) pk_nil))))
      (pss_cons (ps_setLc (i := 5) (own := [("_law_k", 4)]) (g := gName 4) rfl sc_law.nd rfl rfl (sw_true rfl rfl rfl (by decide +kernel)) (pi_range1 (by rfl) z_range (pa_cons (pe_c cd hr (by decide) (by rfl) pass0 (pa_cons (pv 1) (pa_cons (pe_ix (ix_listK K) (pe_lst1 (pa_cons (pe_int) (pa_cons (pe_int) (pa_cons (pe_int) pa_nil)))) (pe_c cd hr (by decide) (by rfl) pass0 (pa_cons (pv 1) (pa_cons (pe_int) pa_nil))) (fun _ _ => rfl)) pa_nil))) pa_nil)) (blkOk_by (N := ["_law_script", "_law_hold", "_law_wide_here", "_law_taker", "_law_k", "_law_pieces", "_law_model", "_law_way", "_law_turn"]) (sc := defScope s_law) (by decide +kernel)) (fun _ _ _ _ _ => pg_name (i := 4) sc_law.nd rfl (Or.inl rfl)) (fun _ _ _ _ _ => pts_nil) (fun _ _ _ _ _ => pe_c cv hr (by decide) (by rfl) pass0 (pa_cons (pv 1) pa_nil)))
      (pss_cons (ps_set (i := 6) sc_law.nd rfl (.inl rfl) (pe_lst1 (pa_cons (pe_dnewK) (pa_cons (pe_int) (pa_cons (pv 2) (pa_cons (pe_non) pa_nil))))))
      (pss_cons (ps_for PassesOwn.never rfl (pi_range1 (by rfl) z_range (pa_cons (pe_callB (cl_max rfl) (by rfl) z_max (by decide +kernel) (pa_cons (pe_int) (pa_cons (pe_callB (cl_min rfl) (by rfl) z_min (by decide +kernel) (pa_cons (pe_int) (pa_cons (pe_callB (cl_lenK K) (by rfl) z_len PySem.boot_len (pa_cons (pv 0) pa_nil)) pa_nil))) pa_nil))) pa_nil)) (pg_name (i := 4) sc_law.nd rfl (.inl rfl)) (pss_cons (ps_set (i := 7) sc_law.nd rfl (.inl rfl) (pe_c cd hr (by decide) (by rfl) pass0 (pa_cons (pv 1) (pa_cons (pe_int) pa_nil))))
      (pss_cons (ps_if ((pw_and (pt_cmpR op_lt (pv 7) (pe_int) (nomark _)) (pw_and1 (pt_cmpR (op_neDK K hr.units) (pv 5) (pe_lst1 pa_nil) (nomark _)))).pt) (pss_one (ps_expr (pe_c clc hr (by decide) (by rfl) pass0 (pa_cons (pv 1) (pa_cons (pv 3) (pa_cons (pv 6) (pa_cons (pv 5) pa_nil))))))) (pss_one (ps_if (pt_cmpR op_lt (pv 7) (pe_int) (nomark _)) (pss_one (ps_for PassesOwn.never rfl (pi_range1 (by rfl) z_range (pa_cons (pe_ix (ix_listK K) (pe_lst1 (pa_cons (pe_int) (pa_cons (pe_int) (pa_cons (pe_int) (pa_cons (pe_int) pa_nil))))) (pe_c cd hr (by decide) (by rfl) pass0 (pa_cons (pv 1) (pa_cons (pe_int) pa_nil))) (fun _ _ => rfl)) pa_nil)) (pg_name (i := 8) sc_law.nd rfl (.inl rfl)) (pss_one (ps_if (pt_not (pt_val (pe_c clt hr (by decide) (by rfl) pass0 (pa_cons (pv 3) (pa_cons (pv 6) pa_nil))))) (pss_one (ps_never)) (pss_nil))))) (pss_cons (ps_expr (pe_mtK mends hr (by decide) pass0 (pv 3) (pk_cons (pe_op op_add (pe_callB (cl_lenK K) (by rfl) z_len PySem.boot_len (pa_cons (pv 5) pa_nil)) (pe_ifExp (pt_cmpR op_isN (pe_ix (ix_listK K) (pv 6) (pe_int) (fun _ _ => rfl)) (pe_non) (nomark _)) (pe_int) (pe_c cd hr (by decide) (by rfl) pass0 (pa_cons (pv 1) (pa_cons (pe_int) pa_nil))))) pk_nil)))
      (pss_one (ps_asg (pe_ifExp (pt_cmpR op_isN (pe_ix (ix_listK K) (pv 6) (pe_int) (fun _ _ => rfl)) (pe_non) (nomark _)) (pe_callB (cl_lenK K) (by rfl) z_len PySem.boot_len (pa_cons (pv 5) pa_nil)) (pe_ix (ix_listK K) (pv 6) (pe_int) (fun _ _ => rfl))) (pg_sub (pv 6) (pe_int) set_list)))))))
      (pss_one (ps_if (pt_not (pt_val (pe_c clr hr (by decide) (by rfl) pass0 (pa_cons (pv 3) (pa_cons (pv 6) pa_nil))))) (pss_one (ps_never)) (pss_nil))))))
      (pss_one (ps_ret (pe_bl)))))))), ?_⟩
    rw [show start ["_law_script", "_law_hold", "_law_wide_here", "_law_taker", "_law_k", "_law_pieces", "_law_model", "_law_way", "_law_turn"] [V.ref a] = [some (V.ref a), none, none, none, none, none, none, none, none] from rfl]
    try dsimp only [tSeq, tAsg, gName, tOp, tUn, tCB, tCons, tNil, tCall, tMethK1, tCallK1, tPar3, tRet, tRetN, tDrop, tTest, tB, tC, tNext, tAugS, tAug, sFld1, sFldAug1, tMeth1, tMake, tMakeK1, tSl, tPart, tNoPart, sDPut1, tDPop, tBM, tBM0, tPar, gSub, tChain, tNot, tNotV, iList1, iTup1, iRng1, iRng2, List.set_cons_zero, List.set_cons_succ]
    refine x_ifx (fun v H' => ∃ (q : Addr) (cs : List Int), v = .ref q ∧ Hold 0 cs ∧ Sep H0 [] H' [(2, q, .lst (cs.map V.int))]) ?_ (fun KK => ?_)
    · rintro v H ⟨hq, cs, rfl, hh, S⟩
      refine x_lst S (by exact Nat.le_of_ble_eq_true rfl) (fun L1 H S => ?_)
      try dsimp only [tSeq, tAsg, gName, tOp, tUn, tCB, tCons, tNil, tCall, tMethK1, tCallK1, tPar3, tRet, tRetN, tDrop, tTest, tB, tC, tNext, tAugS, tAug, sFld1, sFldAug1, tMeth1, tMake, tMakeK1, tSl, tPart, tNoPart, sDPut1, tDPop, tBM, tBM0, tPar, gSub, tChain, tNot, tNotV, iList1, iTup1, iRng1, iRng2, List.set_cons_zero, List.set_cons_succ]
      refine x_var (by exact rfl) ?_
      refine c_wide S 0 1 (by exact rfl) (by exact rfl) hh (by omega) (fun w1 n1 cs1 H w1a w1b hn1 hh S => ?_)
      simp only [List.set_cons_zero, List.set_cons_succ] at S
      try dsimp only [tSeq, tAsg, gName, tOp, tUn, tCB, tCons, tNil, tCall, tMethK1, tCallK1, tPar3, tRet, tRetN, tDrop, tTest, tB, tC, tNext, tAugS, tAug, sFld1, sFldAug1, tMeth1, tMake, tMakeK1, tSl, tPart, tNoPart, sDPut1, tDPop, tBM, tBM0, tPar, gSub, tChain, tNot, tNotV, iList1, iTup1, iRng1, iRng2, List.set_cons_zero, List.set_cons_succ]
      refine x_ifx (fun v H' => ∃ (o xo d : Addr) (n : Int) (cs : List Int), v = .ref o ∧ n ≤ 7 ∧ Hold n cs ∧ Sep H0 [] H' [(2, o, .ins C xo (F_Taker w1 0 d .non)), (2, d, .dK []), (2, L1, .lst [.int n, .ref hq]), (2, hq, .lst (cs.map V.int))]) ?_ (fun KK => ?_)
      · rintro v H ⟨o1, xo1, d1, n0, cs0, rfl, hn0, hh, S⟩
        try dsimp only [tSeq, tAsg, gName, tOp, tUn, tCB, tCons, tNil, tCall, tMethK1, tCallK1, tPar3, tRet, tRetN, tDrop, tTest, tB, tC, tNext, tAugS, tAug, sFld1, sFldAug1, tMeth1, tMake, tMakeK1, tSl, tPart, tNoPart, sDPut1, tDPop, tBM, tBM0, tPar, gSub, tChain, tNot, tNotV, iList1, iTup1, iRng1, iRng2, List.set_cons_zero, List.set_cons_succ]
        refine x_lc ?_
        try dsimp only [tOp, tUn, tCB, tCons, tNil, tCall, tMethK1, tCallK1, tC, tMeth1, tMake, tMakeK1, tSl, tPart, tNoPart, tDPop, tChain, tNotV, iList1, iTup1, iRng1, iRng2]
        refine x_var (by exact rfl) ?_
        refine x_lst S (by exact Nat.le_of_ble_eq_true rfl) (fun L2 H S => ?_)
        refine x_var (by exact rfl) ?_
        refine c_draw S 3 4 (by exact rfl) (by exact rfl) hh (by first | omega | decide | (simp only [len_insAt, List.length_map, List.length_append, List.length_cons, List.length_nil, List.length_take, List.length_drop] at *; omega)) (by first | omega | decide | (simp only [len_insAt, List.length_map, List.length_append, List.length_cons, List.length_nil, List.length_take, List.length_drop] at *; omega)) (by first | omega | decide | (simp only [len_insAt, List.length_map, List.length_append, List.length_cons, List.length_nil, List.length_take, List.length_drop] at *; omega)) (fun r1 cs2 H r1a r1b hh S => ?_)
        simp only [List.set_cons_zero, List.set_cons_succ] at S
        refine x_ixI (cs := [1, 6, 81]) S 0 (by exact rfl) (by omega) (by first | (show (_ : Int) < 3; omega) | omega) (fun v1 hv1 => ?_)
        have hv1 := List.mem_of_getElem? hv1
        simp only [List.mem_cons, List.not_mem_nil, or_false] at hv1
        refine c_draw S 3 4 (by exact rfl) (by exact rfl) hh (by first | omega | decide | (simp only [len_insAt, List.length_map, List.length_append, List.length_cons, List.length_nil, List.length_take, List.length_drop] at *; omega)) (by first | omega | decide | (simp only [len_insAt, List.length_map, List.length_append, List.length_cons, List.length_nil, List.length_take, List.length_drop] at *; omega)) (by first | omega | decide | (simp only [len_insAt, List.length_map, List.length_append, List.length_cons, List.length_nil, List.length_take, List.length_drop] at *; omega)) (fun r2 cs3 H r2a r2b hh S => ?_)
        simp only [List.set_cons_zero, List.set_cons_succ] at S
        refine ⟨_, rfl, by omega, by omega, ?_⟩
        refine lcR S (fun pc1 H S => ⟨fun i H1 => ∃ (n2 : Int) (cs2 ps : List Int), ps.length = i ∧ n2 ≤ 10 + 6 * i ∧ Hold n2 cs2 ∧ Sep H0 [] H1 [(2, pc1, .lst (ps.map V.int)), (2, o1, .ins C xo1 (F_Taker w1 0 d1 .non)), (2, d1, .dK []), (2, L1, .lst [.int n2, .ref hq]), (2, hq, .lst (cs2.map V.int))], ?_, ?_, ?_⟩)
        · exact ⟨_, _, [], rfl, by omega, hh, S.sub [0, 2, 3, 4, 5]⟩
        · rintro i H hi ⟨n2, cs2, ps, hpl, hn2, hh, S⟩
          refine ⟨rfl, ?_⟩
          try dsimp only [wipe, tYes, tSeq, tAsg, gName, tOp, tUn, tCB, tCons, tNil, tCall, tMethK1, tCallK1, tPar3, tRet, tRetN, tDrop, tTest, tB, tC, tNext, tAugS, tAug, sFld1, sFldAug1, tMeth1, tMake, tMakeK1, tSl, tPart, tNoPart, sDPut1, tDPop, tBM, tBM0, tPar, gSub, tChain, tNot, tNotV, iList1, iTup1, iRng1, iRng2, List.set_cons_zero, List.set_cons_succ]
          refine iteT ?_
          refine x_var (by exact rfl) ?_
          refine c_value S 3 4 (by exact rfl) (by exact rfl) hh (by omega) (fun r3 n2 cs4 H hn2 hh S => ?_)
          simp only [List.set_cons_zero, List.set_cons_succ] at S
          refine x_lcappI S 0 (by exact rfl) (by omega) (fun H S => ?_)
          exact ⟨_, _, ps ++ [_], by rw [List.length_append, hpl]; rfl, by omega, hh, S⟩
        · rintro H ⟨n2, cs2, ps, hpl, hn2, hh, S⟩
          try dsimp only [tSeq, tAsg, gName, tOp, tUn, tCB, tCons, tNil, tCall, tMethK1, tCallK1, tPar3, tRet, tRetN, tDrop, tTest, tB, tC, tNext, tAugS, tAug, sFld1, sFldAug1, tMeth1, tMake, tMakeK1, tSl, tPart, tNoPart, sDPut1, tDPop, tBM, tBM0, tPar, gSub, tChain, tNot, tNotV, iList1, iTup1, iRng1, iRng2, List.set_cons_zero, List.set_cons_succ]
          try dsimp only [tSeq, tAsg, gName, tOp, tUn, tCB, tCons, tNil, tCall, tMethK1, tCallK1, tPar3, tRet, tRetN, tDrop, tTest, tB, tC, tNext, tAugS, tAug, sFld1, sFldAug1, tMeth1, tMake, tMakeK1, tSl, tPart, tNoPart, sDPut1, tDPop, tBM, tBM0, tPar, gSub, tChain, tNot, tNotV, iList1, iTup1, iRng1, iRng2, List.set_cons_zero, List.set_cons_succ]
          refine x_dnew S (fun D1 H S => ?_)
          refine x_var (by exact rfl) ?_
          refine x_lst S (by exact Nat.le_of_ble_eq_true rfl) (fun L3 H S => ?_)
          have hpl2 : ps.length ≤ 81 := by omega
          try dsimp only [tSeq, tAsg, gName, tOp, tUn, tCB, tCons, tNil, tCall, tMethK1, tCallK1, tPar3, tRet, tRetN, tDrop, tTest, tB, tC, tNext, tAugS, tAug, sFld1, sFldAug1, tMeth1, tMake, tMakeK1, tSl, tPart, tNoPart, sDPut1, tDPop, tBM, tBM0, tPar, gSub, tChain, tNot, tNotV, iList1, iTup1, iRng1, iRng2, List.set_cons_zero, List.set_cons_succ]
          refine x_for ?_
          try dsimp only [tOp, tUn, tCB, tCons, tNil, tCall, tMethK1, tCallK1, tC, tMeth1, tMake, tMakeK1, tSl, tPart, tNoPart, tDPop, tChain, tNotV, iList1, iTup1, iRng1, iRng2]
          refine x_var (by exact rfl) ?_
          refine x_lenS (S.sq hs (by simp)) ?_
          refine x_min ?_
          refine x_max ?_
          refine ⟨_, rfl, by omega, by omega, ?_⟩
          refine forR (fun i σ H1 => ∃ (n : Int) (cs : List Int) (t : Int) (e : V) (kk : List (Key × V)) (q1 q2 q3 : Option V), σ = [some (.ref a), some (.ref L1), some (.int w1), some (.ref o1), q1, some (.ref pc1), some (.ref L3), q2, q3] ∧ n ≤ 600 + 10 * i ∧ i ≤ 40 ∧ Hold n cs ∧ EndV e ∧ IntsK kk ∧ kk.length ≤ 70 * i ∧ Sep H0 [] H1 [(2, o1, .ins C xo1 (F_Taker w1 t d1 e)), (2, d1, .dK kk), (2, L1, .lst [.int n, .ref hq]), (2, hq, .lst (cs.map V.int)), (2, pc1, .lst (ps.map V.int)), (2, L3, .lst [.ref D1, .int t, .int w1, e]), (2, D1, .dK kk)]) ?_ ?_ ?_
          · exact ⟨_, _, 0, .non, [], _, _, _, rfl, by omega, by omega, hh, .inl rfl, IntsK.nil, by simp, S.sub [3, 4, 5, 6, 2, 0, 1]⟩
          · rintro i σ H hi ⟨n, cs, t, e, kk, q1, q2, q3, rfl, hn, hi40, hh, he, hI, hkk, S⟩
            try dsimp only [tSeq, tAsg, gName, tOp, tUn, tCB, tCons, tNil, tCall, tMethK1, tCallK1, tPar3, tRet, tRetN, tDrop, tTest, tB, tC, tNext, tAugS, tAug, sFld1, sFldAug1, tMeth1, tMake, tMakeK1, tSl, tPart, tNoPart, sDPut1, tDPop, tBM, tBM0, tPar, gSub, tChain, tNot, tNotV, iList1, iTup1, iRng1, iRng2, List.set_cons_zero, List.set_cons_succ]
            try dsimp only [tSeq, tAsg, gName, tOp, tUn, tCB, tCons, tNil, tCall, tMethK1, tCallK1, tPar3, tRet, tRetN, tDrop, tTest, tB, tC, tNext, tAugS, tAug, sFld1, sFldAug1, tMeth1, tMake, tMakeK1, tSl, tPart, tNoPart, sDPut1, tDPop, tBM, tBM0, tPar, gSub, tChain, tNot, tNotV, iList1, iTup1, iRng1, iRng2, List.set_cons_zero, List.set_cons_succ]
            refine x_var (by exact rfl) ?_
            refine c_draw S 2 3 (by exact rfl) (by exact rfl) hh (by first | omega | decide | (simp only [len_insAt, List.length_map, List.length_append, List.length_cons, List.length_nil, List.length_take, List.length_drop] at *; omega)) (by first | omega | decide | (simp only [len_insAt, List.length_map, List.length_append, List.length_cons, List.length_nil, List.length_take, List.length_drop] at *; omega)) (by first | omega | decide | (simp only [len_insAt, List.length_map, List.length_append, List.length_cons, List.length_nil, List.length_take, List.length_drop] at *; omega)) (fun r4 cs5 H r4a r4b hh S => ?_)
            simp only [List.set_cons_zero, List.set_cons_succ] at S
            try dsimp only [tSeq, tAsg, gName, tOp, tUn, tCB, tCons, tNil, tCall, tMethK1, tCallK1, tPar3, tRet, tRetN, tDrop, tTest, tB, tC, tNext, tAugS, tAug, sFld1, sFldAug1, tMeth1, tMake, tMakeK1, tSl, tPart, tNoPart, sDPut1, tDPop, tBM, tBM0, tPar, gSub, tChain, tNot, tNotV, iList1, iTup1, iRng1, iRng2, List.set_cons_zero, List.set_cons_succ]
            refine x_if ?_
            try dsimp only [tSeq, tAsg, gName, tOp, tUn, tCB, tCons, tNil, tCall, tMethK1, tCallK1, tPar3, tRet, tRetN, tDrop, tTest, tB, tC, tNext, tAugS, tAug, sFld1, sFldAug1, tMeth1, tMake, tMakeK1, tSl, tPart, tNoPart, sDPut1, tDPop, tBM, tBM0, tPar, gSub, tChain, tNot, tNotV, iList1, iTup1, iRng1, iRng2, List.set_cons_zero, List.set_cons_succ]
            refine x_and ?_
            try dsimp only [tSeq, tAsg, gName, tOp, tUn, tCB, tCons, tNil, tCall, tMethK1, tCallK1, tPar3, tRet, tRetN, tDrop, tTest, tB, tC, tNext, tAugS, tAug, sFld1, sFldAug1, tMeth1, tMake, tMakeK1, tSl, tPart, tNoPart, sDPut1, tDPop, tBM, tBM0, tPar, gSub, tChain, tNot, tNotV, iList1, iTup1, iRng1, iRng2, List.set_cons_zero, List.set_cons_succ]
            refine x_var (by exact rfl) ?_
            refine x_I0 ?_
            refine ⟨_, rfl, ?_⟩
            refine ited (fun c1 => ?_) (fun c1 => ?_)
            · refine x_var (by exact rfl) ?_
              refine x_lst S (by exact Nat.le_of_ble_eq_true rfl) (fun L4 H S => ?_)
              refine x_neL (ys := []) S 5 0 (by exact rfl) (by exact rfl) ?_
              refine ⟨_, rfl, ?_⟩
              refine itend (fun c2 => ?_) (fun c2 => ?_)
              · try dsimp only [tSeq, tAsg, gName, tOp, tUn, tCB, tCons, tNil, tCall, tMethK1, tCallK1, tPar3, tRet, tRetN, tDrop, tTest, tB, tC, tNext, tAugS, tAug, sFld1, sFldAug1, tMeth1, tMake, tMakeK1, tSl, tPart, tNoPart, sDPut1, tDPop, tBM, tBM0, tPar, gSub, tChain, tNot, tNotV, iList1, iTup1, iRng1, iRng2, List.set_cons_zero, List.set_cons_succ]
                refine x_var (by exact rfl) ?_
                refine x_var (by exact rfl) ?_
                refine x_var (by exact rfl) ?_
                refine x_var (by exact rfl) ?_
                refine ⟨_, _, _, _, _, _, _, _, _, _, _, _, _, _, _, rfl, S.pre [(1, 3), (1, 4), (0, 1), (1, 2), (0, 6), (1, 7), (0, 5)], hh, by omega, by assumption, by omega, by omega, by omega, hI, by omega, fun n2 cs2 k2 H hn2 hh hI hk2 e1 e2 e3 e4 F => ?_⟩
                have S := S.chgs (H' := H) [(3, 2, L1, .lst [.int n2, .ref hq]), (4, 2, hq, .lst (cs2.map V.int)), (2, 2, d1, .dK k2), (7, 2, D1, .dK k2)] (by exact all4 ⟨_, rfl⟩ ⟨_, rfl⟩ ⟨_, rfl⟩ ⟨_, rfl⟩) (by exact all4 (.inr rfl) (.inr rfl) (.inr rfl) (.inr rfl)) (by show List.Nodup [3, 4, 2, 7]; decide) (by exact F) (by exact all4 e1 e2 e3 e4)
                simp only [List.foldl, List.set_cons_zero, List.set_cons_succ] at S
                try dsimp only [tSeq, tAsg, gName, tOp, tUn, tCB, tCons, tNil, tCall, tMethK1, tCallK1, tPar3, tRet, tRetN, tDrop, tTest, tB, tC, tNext, tAugS, tAug, sFld1, sFldAug1, tMeth1, tMake, tMakeK1, tSl, tPart, tNoPart, sDPut1, tDPop, tBM, tBM0, tPar, gSub, tChain, tNot, tNotV, iList1, iTup1, iRng1, iRng2, List.set_cons_zero, List.set_cons_succ]
                refine x_if ?_
                try dsimp only [tSeq, tAsg, gName, tOp, tUn, tCB, tCons, tNil, tCall, tMethK1, tCallK1, tPar3, tRet, tRetN, tDrop, tTest, tB, tC, tNext, tAugS, tAug, sFld1, sFldAug1, tMeth1, tMake, tMakeK1, tSl, tPart, tNoPart, sDPut1, tDPop, tBM, tBM0, tPar, gSub, tChain, tNot, tNotV, iList1, iTup1, iRng1, iRng2, List.set_cons_zero, List.set_cons_succ]
                refine x_var (by exact rfl) ?_
                refine x_var (by exact rfl) ?_
                refine ⟨_, _, _, _, _, _, _, _, _, rfl, S.pre [(0, 1), (0, 2), (0, 6), (0, 7)], he, fun H F => ?_⟩
                have S := S.stay F
                refine ⟨_, rfl, ?_⟩
                refine iteF ?_
                exact ⟨_, _, _, _, _, _, _, _, rfl, by omega, by omega, hh, he, hI, by omega, S.sub [1, 2, 3, 4, 5, 6, 7]⟩
              · try dsimp only [tSeq, tAsg, gName, tOp, tUn, tCB, tCons, tNil, tCall, tMethK1, tCallK1, tPar3, tRet, tRetN, tDrop, tTest, tB, tC, tNext, tAugS, tAug, sFld1, sFldAug1, tMeth1, tMake, tMakeK1, tSl, tPart, tNoPart, sDPut1, tDPop, tBM, tBM0, tPar, gSub, tChain, tNot, tNotV, iList1, iTup1, iRng1, iRng2, List.set_cons_zero, List.set_cons_succ]
                refine x_if ?_
                try dsimp only [tSeq, tAsg, gName, tOp, tUn, tCB, tCons, tNil, tCall, tMethK1, tCallK1, tPar3, tRet, tRetN, tDrop, tTest, tB, tC, tNext, tAugS, tAug, sFld1, sFldAug1, tMeth1, tMake, tMakeK1, tSl, tPart, tNoPart, sDPut1, tDPop, tBM, tBM0, tPar, gSub, tChain, tNot, tNotV, iList1, iTup1, iRng1, iRng2, List.set_cons_zero, List.set_cons_succ]
                refine x_var (by exact rfl) ?_
                refine x_I0 ?_
                refine ⟨_, rfl, ?_⟩
                refine ited (fun c3 => ?_) (fun c3 => ?_)
                · try dsimp only [tSeq, tAsg, gName, tOp, tUn, tCB, tCons, tNil, tCall, tMethK1, tCallK1, tPar3, tRet, tRetN, tDrop, tTest, tB, tC, tNext, tAugS, tAug, sFld1, sFldAug1, tMeth1, tMake, tMakeK1, tSl, tPart, tNoPart, sDPut1, tDPop, tBM, tBM0, tPar, gSub, tChain, tNot, tNotV, iList1, iTup1, iRng1, iRng2, List.set_cons_zero, List.set_cons_succ]
                  refine x_for ?_
                  try dsimp only [tOp, tUn, tCB, tCons, tNil, tCall, tMethK1, tCallK1, tC, tMeth1, tMake, tMakeK1, tSl, tPart, tNoPart, tDPop, tChain, tNotV, iList1, iTup1, iRng1, iRng2]
                  refine x_lst S (by exact Nat.le_of_ble_eq_true rfl) (fun L5 H S => ?_)
                  refine x_var (by exact rfl) ?_
                  refine c_draw S 4 5 (by exact rfl) (by exact rfl) hh (by first | omega | decide | (simp only [len_insAt, List.length_map, List.length_append, List.length_cons, List.length_nil, List.length_take, List.length_drop] at *; omega)) (by first | omega | decide | (simp only [len_insAt, List.length_map, List.length_append, List.length_cons, List.length_nil, List.length_take, List.length_drop] at *; omega)) (by first | omega | decide | (simp only [len_insAt, List.length_map, List.length_append, List.length_cons, List.length_nil, List.length_take, List.length_drop] at *; omega)) (fun r5 cs6 H r5a r5b hh S => ?_)
                  simp only [List.set_cons_zero, List.set_cons_succ] at S
                  refine x_ixI (cs := [1, 1, 2, 70]) S 0 (by exact rfl) (by omega) (by first | (show (_ : Int) < 4; omega) | omega) (fun v2 hv2 => ?_)
                  have hv2 := List.mem_of_getElem? hv2
                  simp only [List.mem_cons, List.not_mem_nil, or_false] at hv2
                  refine ⟨_, rfl, by omega, by omega, ?_⟩
                  refine forR (fun j σ H1 => ∃ (t : Int) (k2 : List (Key × V)) (q3 : Option V), σ = [some (.ref a), some (.ref L1), some (.int w1), some (.ref o1), some (.int (0 + (i : Nat))), some (.ref pc1), some (.ref L3), some (.int r4), q3] ∧ IntsK k2 ∧ k2.length ≤ kk.length ∧ Sep H0 [] H1 [(2, o1, .ins C xo1 (F_Taker w1 t d1 e)), (2, d1, .dK k2), (2, L1, .lst [.int (n + 1 + 1), .ref hq]), (2, hq, .lst (cs6.map V.int)), (2, pc1, .lst (ps.map V.int)), (2, L3, .lst [.ref D1, .int t, .int w1, e]), (2, D1, .dK k2)]) ?_ ?_ ?_
                  · exact ⟨_, _, _, rfl, hI, Nat.le_refl _, S.sub [2, 3, 4, 5, 6, 7, 8]⟩
                  · rintro j σ H hi ⟨t, k2, q3, rfl, hI, hk2, S⟩
                    try dsimp only [tSeq, tAsg, gName, tOp, tUn, tCB, tCons, tNil, tCall, tMethK1, tCallK1, tPar3, tRet, tRetN, tDrop, tTest, tB, tC, tNext, tAugS, tAug, sFld1, sFldAug1, tMeth1, tMake, tMakeK1, tSl, tPart, tNoPart, sDPut1, tDPop, tBM, tBM0, tPar, gSub, tChain, tNot, tNotV, iList1, iTup1, iRng1, iRng2, List.set_cons_zero, List.set_cons_succ]
                    try dsimp only [tSeq, tAsg, gName, tOp, tUn, tCB, tCons, tNil, tCall, tMethK1, tCallK1, tPar3, tRet, tRetN, tDrop, tTest, tB, tC, tNext, tAugS, tAug, sFld1, sFldAug1, tMeth1, tMake, tMakeK1, tSl, tPart, tNoPart, sDPut1, tDPop, tBM, tBM0, tPar, gSub, tChain, tNot, tNotV, iList1, iTup1, iRng1, iRng2, List.set_cons_zero, List.set_cons_succ]
                    refine x_if ?_
                    try dsimp only [tSeq, tAsg, gName, tOp, tUn, tCB, tCons, tNil, tCall, tMethK1, tCallK1, tPar3, tRet, tRetN, tDrop, tTest, tB, tC, tNext, tAugS, tAug, sFld1, sFldAug1, tMeth1, tMake, tMakeK1, tSl, tPart, tNoPart, sDPut1, tDPop, tBM, tBM0, tPar, gSub, tChain, tNot, tNotV, iList1, iTup1, iRng1, iRng2, List.set_cons_zero, List.set_cons_succ]
                    refine x_var (by exact rfl) ?_
                    refine x_var (by exact rfl) ?_
                    refine ⟨_, _, _, _, _, _, _, _, _, rfl, S.pre [(1, 0), (1, 1), (1, 5), (1, 6)], hI, fun t2 k2 H hI hk2 e1 e2 e3 e4 F => ?_⟩
                    have S := S.chgs (H' := H) [(0, 2, o1, .ins C xo1 (F_Taker w1 t2 d1 e)), (1, 2, d1, .dK k2), (5, 2, L3, .lst [.ref D1, .int t2, .int w1, e]), (6, 2, D1, .dK k2)] (by exact all4 ⟨_, rfl⟩ ⟨_, rfl⟩ ⟨_, rfl⟩ ⟨_, rfl⟩) (by exact all4 (.inr rfl) (.inr rfl) (.inr rfl) (.inr rfl)) (by show List.Nodup [0, 1, 5, 6]; decide) (by exact F) (by exact all4 e1 e2 e3 e4)
                    simp only [List.foldl, List.set_cons_zero, List.set_cons_succ] at S
                    refine ⟨_, rfl, ?_⟩
                    refine iteF ?_
                    exact ⟨_, _, _, rfl, hI, by omega, S⟩
                  · rintro σ H ⟨t, k2, q3, rfl, hI, hk2, S⟩
                    try dsimp only [tSeq, tAsg, gName, tOp, tUn, tCB, tCons, tNil, tCall, tMethK1, tCallK1, tPar3, tRet, tRetN, tDrop, tTest, tB, tC, tNext, tAugS, tAug, sFld1, sFldAug1, tMeth1, tMake, tMakeK1, tSl, tPart, tNoPart, sDPut1, tDPop, tBM, tBM0, tPar, gSub, tChain, tNot, tNotV, iList1, iTup1, iRng1, iRng2, List.set_cons_zero, List.set_cons_succ]
                    try dsimp only [tSeq, tAsg, gName, tOp, tUn, tCB, tCons, tNil, tCall, tMethK1, tCallK1, tPar3, tRet, tRetN, tDrop, tTest, tB, tC, tNext, tAugS, tAug, sFld1, sFldAug1, tMeth1, tMake, tMakeK1, tSl, tPart, tNoPart, sDPut1, tDPop, tBM, tBM0, tPar, gSub, tChain, tNot, tNotV, iList1, iTup1, iRng1, iRng2, List.set_cons_zero, List.set_cons_succ]
                    refine x_if ?_
                    try dsimp only [tSeq, tAsg, gName, tOp, tUn, tCB, tCons, tNil, tCall, tMethK1, tCallK1, tPar3, tRet, tRetN, tDrop, tTest, tB, tC, tNext, tAugS, tAug, sFld1, sFldAug1, tMeth1, tMake, tMakeK1, tSl, tPart, tNoPart, sDPut1, tDPop, tBM, tBM0, tPar, gSub, tChain, tNot, tNotV, iList1, iTup1, iRng1, iRng2, List.set_cons_zero, List.set_cons_succ]
                    refine x_var (by exact rfl) ?_
                    refine x_var (by exact rfl) ?_
                    refine ⟨_, _, _, _, _, _, _, _, _, rfl, S.pre [(0, 0), (0, 1), (0, 5), (0, 6)], he, fun H F => ?_⟩
                    have S := S.stay F
                    refine ⟨_, rfl, ?_⟩
                    refine iteF ?_
                    exact ⟨_, _, _, _, _, _, _, _, rfl, by omega, by omega, hh, he, hI, by omega, S.sub [0, 1, 2, 3, 4, 5, 6]⟩
                · try dsimp only [tSeq, tAsg, gName, tOp, tUn, tCB, tCons, tNil, tCall, tMethK1, tCallK1, tPar3, tRet, tRetN, tDrop, tTest, tB, tC, tNext, tAugS, tAug, sFld1, sFldAug1, tMeth1, tMake, tMakeK1, tSl, tPart, tNoPart, sDPut1, tDPop, tBM, tBM0, tPar, gSub, tChain, tNot, tNotV, iList1, iTup1, iRng1, iRng2, List.set_cons_zero, List.set_cons_succ]
                  have he0 := he
                  rcases he0 with rfl | ⟨m, rfl⟩
                  · refine x_var (by exact rfl) ?_
                    refine x_meth S 1 (by exact rfl) nk_Taker_ends ?_
                    refine x_var (by exact rfl) ?_
                    refine x_lenI S 5 (by exact rfl) ?_
                    refine x_ifE ?_
                    try dsimp only [tSeq, tAsg, gName, tOp, tUn, tCB, tCons, tNil, tCall, tMethK1, tCallK1, tPar3, tRet, tRetN, tDrop, tTest, tB, tC, tNext, tAugS, tAug, sFld1, sFldAug1, tMeth1, tMake, tMakeK1, tSl, tPart, tNoPart, sDPut1, tDPop, tBM, tBM0, tPar, gSub, tChain, tNot, tNotV, iList1, iTup1, iRng1, iRng2, List.set_cons_zero, List.set_cons_succ]
                    refine x_var (by exact rfl) ?_
                    refine x_ixF S 6 (by exact rfl) (by exact rfl) ?_
                    refine ⟨rfl, ?_⟩
                    refine ⟨_, rfl, ?_⟩
                    refine ited (fun c4 => ?_) (fun h => absurd rfl h)
                    refine x_I0 ?_
                    refine ⟨rfl, ?_⟩
                    refine c_ends S 1 (by exact rfl) (fun H S => ?_)
                    simp only [List.set_cons_zero, List.set_cons_succ] at S
                    first | rw [if_pos rfl] at S | rw [if_pos trivial] at S
                    try dsimp only [tSeq, tAsg, gName, tOp, tUn, tCB, tCons, tNil, tCall, tMethK1, tCallK1, tPar3, tRet, tRetN, tDrop, tTest, tB, tC, tNext, tAugS, tAug, sFld1, sFldAug1, tMeth1, tMake, tMakeK1, tSl, tPart, tNoPart, sDPut1, tDPop, tBM, tBM0, tPar, gSub, tChain, tNot, tNotV, iList1, iTup1, iRng1, iRng2, List.set_cons_zero, List.set_cons_succ]
                    refine x_ifE ?_
                    try dsimp only [tSeq, tAsg, gName, tOp, tUn, tCB, tCons, tNil, tCall, tMethK1, tCallK1, tPar3, tRet, tRetN, tDrop, tTest, tB, tC, tNext, tAugS, tAug, sFld1, sFldAug1, tMeth1, tMake, tMakeK1, tSl, tPart, tNoPart, sDPut1, tDPop, tBM, tBM0, tPar, gSub, tChain, tNot, tNotV, iList1, iTup1, iRng1, iRng2, List.set_cons_zero, List.set_cons_succ]
                    refine x_var (by exact rfl) ?_
                    refine x_ixF S 6 (by exact rfl) (by exact rfl) ?_
                    refine ⟨rfl, ?_⟩
                    refine ⟨_, rfl, ?_⟩
                    refine ited (fun c5 => ?_) (fun h => absurd rfl h)
                    refine x_var (by exact rfl) ?_
                    refine x_lenI S 5 (by exact rfl) ?_
                    refine x_var (by exact rfl) ?_
                    refine x_setL S 6 (by exact rfl) (by exact rfl) (fun H S => ?_)
                    simp only [List.set_cons_zero, List.set_cons_succ] at S
                    try dsimp only [tSeq, tAsg, gName, tOp, tUn, tCB, tCons, tNil, tCall, tMethK1, tCallK1, tPar3, tRet, tRetN, tDrop, tTest, tB, tC, tNext, tAugS, tAug, sFld1, sFldAug1, tMeth1, tMake, tMakeK1, tSl, tPart, tNoPart, sDPut1, tDPop, tBM, tBM0, tPar, gSub, tChain, tNot, tNotV, iList1, iTup1, iRng1, iRng2, List.set_cons_zero, List.set_cons_succ]
                    refine x_if ?_
                    try dsimp only [tSeq, tAsg, gName, tOp, tUn, tCB, tCons, tNil, tCall, tMethK1, tCallK1, tPar3, tRet, tRetN, tDrop, tTest, tB, tC, tNext, tAugS, tAug, sFld1, sFldAug1, tMeth1, tMake, tMakeK1, tSl, tPart, tNoPart, sDPut1, tDPop, tBM, tBM0, tPar, gSub, tChain, tNot, tNotV, iList1, iTup1, iRng1, iRng2, List.set_cons_zero, List.set_cons_succ]
                    refine x_var (by exact rfl) ?_
                    refine x_var (by exact rfl) ?_
                    refine ⟨_, _, _, _, _, _, _, _, _, rfl, S.pre [(0, 1), (0, 2), (0, 6), (0, 7)], (.inr ⟨_, rfl⟩), fun H F => ?_⟩
                    have S := S.stay F
                    refine ⟨_, rfl, ?_⟩
                    refine iteF ?_
                    exact ⟨_, _, _, _, _, _, _, _, rfl, by omega, by omega, hh, (.inr ⟨_, rfl⟩), hI, by omega, S.sub [1, 2, 3, 4, 5, 6, 7]⟩
                  · refine x_var (by exact rfl) ?_
                    refine x_meth S 1 (by exact rfl) nk_Taker_ends ?_
                    refine x_var (by exact rfl) ?_
                    refine x_lenI S 5 (by exact rfl) ?_
                    refine x_ifE ?_
                    try dsimp only [tSeq, tAsg, gName, tOp, tUn, tCB, tCons, tNil, tCall, tMethK1, tCallK1, tPar3, tRet, tRetN, tDrop, tTest, tB, tC, tNext, tAugS, tAug, sFld1, sFldAug1, tMeth1, tMake, tMakeK1, tSl, tPart, tNoPart, sDPut1, tDPop, tBM, tBM0, tPar, gSub, tChain, tNot, tNotV, iList1, iTup1, iRng1, iRng2, List.set_cons_zero, List.set_cons_succ]
                    refine x_var (by exact rfl) ?_
                    refine x_ixF S 6 (by exact rfl) (by exact rfl) ?_
                    refine ⟨rfl, ?_⟩
                    refine ⟨_, rfl, ?_⟩
                    refine ited (fun h => nomatch h) (fun c6 => ?_)
                    refine x_var (by exact rfl) ?_
                    refine c_draw S 3 4 (by exact rfl) (by exact rfl) hh (by first | omega | decide | (simp only [len_insAt, List.length_map, List.length_append, List.length_cons, List.length_nil, List.length_take, List.length_drop] at *; omega)) (by first | omega | decide | (simp only [len_insAt, List.length_map, List.length_append, List.length_cons, List.length_nil, List.length_take, List.length_drop] at *; omega)) (by first | omega | decide | (simp only [len_insAt, List.length_map, List.length_append, List.length_cons, List.length_nil, List.length_take, List.length_drop] at *; omega)) (fun r6 cs7 H r6a r6b hh S => ?_)
                    simp only [List.set_cons_zero, List.set_cons_succ] at S
                    refine x_I0 ?_
                    refine ⟨rfl, ?_⟩
                    refine c_ends S 1 (by exact rfl) (fun H S => ?_)
                    simp only [List.set_cons_zero, List.set_cons_succ] at S
                    first | rw [if_neg (by intro z; cases z)] at S | rw [if_neg id] at S
                    try dsimp only [tSeq, tAsg, gName, tOp, tUn, tCB, tCons, tNil, tCall, tMethK1, tCallK1, tPar3, tRet, tRetN, tDrop, tTest, tB, tC, tNext, tAugS, tAug, sFld1, sFldAug1, tMeth1, tMake, tMakeK1, tSl, tPart, tNoPart, sDPut1, tDPop, tBM, tBM0, tPar, gSub, tChain, tNot, tNotV, iList1, iTup1, iRng1, iRng2, List.set_cons_zero, List.set_cons_succ]
                    refine x_ifE ?_
                    try dsimp only [tSeq, tAsg, gName, tOp, tUn, tCB, tCons, tNil, tCall, tMethK1, tCallK1, tPar3, tRet, tRetN, tDrop, tTest, tB, tC, tNext, tAugS, tAug, sFld1, sFldAug1, tMeth1, tMake, tMakeK1, tSl, tPart, tNoPart, sDPut1, tDPop, tBM, tBM0, tPar, gSub, tChain, tNot, tNotV, iList1, iTup1, iRng1, iRng2, List.set_cons_zero, List.set_cons_succ]
                    refine x_var (by exact rfl) ?_
                    refine x_ixF S 6 (by exact rfl) (by exact rfl) ?_
                    refine ⟨rfl, ?_⟩
                    refine ⟨_, rfl, ?_⟩
                    refine ited (fun h => nomatch h) (fun c7 => ?_)
                    refine x_var (by exact rfl) ?_
                    refine x_ixF S 6 (by exact rfl) (by exact rfl) ?_
                    refine x_var (by exact rfl) ?_
                    refine x_setL S 6 (by exact rfl) (by exact rfl) (fun H S => ?_)
                    simp only [List.set_cons_zero, List.set_cons_succ] at S
                    try dsimp only [tSeq, tAsg, gName, tOp, tUn, tCB, tCons, tNil, tCall, tMethK1, tCallK1, tPar3, tRet, tRetN, tDrop, tTest, tB, tC, tNext, tAugS, tAug, sFld1, sFldAug1, tMeth1, tMake, tMakeK1, tSl, tPart, tNoPart, sDPut1, tDPop, tBM, tBM0, tPar, gSub, tChain, tNot, tNotV, iList1, iTup1, iRng1, iRng2, List.set_cons_zero, List.set_cons_succ]
                    refine x_if ?_
                    try dsimp only [tSeq, tAsg, gName, tOp, tUn, tCB, tCons, tNil, tCall, tMethK1, tCallK1, tPar3, tRet, tRetN, tDrop, tTest, tB, tC, tNext, tAugS, tAug, sFld1, sFldAug1, tMeth1, tMake, tMakeK1, tSl, tPart, tNoPart, sDPut1, tDPop, tBM, tBM0, tPar, gSub, tChain, tNot, tNotV, iList1, iTup1, iRng1, iRng2, List.set_cons_zero, List.set_cons_succ]
                    refine x_var (by exact rfl) ?_
                    refine x_var (by exact rfl) ?_
                    refine ⟨_, _, _, _, _, _, _, _, _, rfl, S.pre [(0, 1), (0, 2), (0, 6), (0, 7)], he, fun H F => ?_⟩
                    have S := S.stay F
                    refine ⟨_, rfl, ?_⟩
                    refine iteF ?_
                    exact ⟨_, _, _, _, _, _, _, _, rfl, by omega, by omega, hh, he, hI, by omega, S.sub [1, 2, 3, 4, 5, 6, 7]⟩
            · refine iteF ?_
              try dsimp only [tSeq, tAsg, gName, tOp, tUn, tCB, tCons, tNil, tCall, tMethK1, tCallK1, tPar3, tRet, tRetN, tDrop, tTest, tB, tC, tNext, tAugS, tAug, sFld1, sFldAug1, tMeth1, tMake, tMakeK1, tSl, tPart, tNoPart, sDPut1, tDPop, tBM, tBM0, tPar, gSub, tChain, tNot, tNotV, iList1, iTup1, iRng1, iRng2, List.set_cons_zero, List.set_cons_succ]
              refine x_if ?_
              try dsimp only [tSeq, tAsg, gName, tOp, tUn, tCB, tCons, tNil, tCall, tMethK1, tCallK1, tPar3, tRet, tRetN, tDrop, tTest, tB, tC, tNext, tAugS, tAug, sFld1, sFldAug1, tMeth1, tMake, tMakeK1, tSl, tPart, tNoPart, sDPut1, tDPop, tBM, tBM0, tPar, gSub, tChain, tNot, tNotV, iList1, iTup1, iRng1, iRng2, List.set_cons_zero, List.set_cons_succ]
              refine x_var (by exact rfl) ?_
              refine x_I0 ?_
              refine ⟨_, rfl, ?_⟩
              refine ited (fun c8 => ?_) (fun c8 => ?_)
              · try dsimp only [tSeq, tAsg, gName, tOp, tUn, tCB, tCons, tNil, tCall, tMethK1, tCallK1, tPar3, tRet, tRetN, tDrop, tTest, tB, tC, tNext, tAugS, tAug, sFld1, sFldAug1, tMeth1, tMake, tMakeK1, tSl, tPart, tNoPart, sDPut1, tDPop, tBM, tBM0, tPar, gSub, tChain, tNot, tNotV, iList1, iTup1, iRng1, iRng2, List.set_cons_zero, List.set_cons_succ]
                refine x_for ?_
                try dsimp only [tOp, tUn, tCB, tCons, tNil, tCall, tMethK1, tCallK1, tC, tMeth1, tMake, tMakeK1, tSl, tPart, tNoPart, tDPop, tChain, tNotV, iList1, iTup1, iRng1, iRng2]
                refine x_lst S (by exact Nat.le_of_ble_eq_true rfl) (fun L6 H S => ?_)
                refine x_var (by exact rfl) ?_
                refine c_draw S 3 4 (by exact rfl) (by exact rfl) hh (by first | omega | decide | (simp only [len_insAt, List.length_map, List.length_append, List.length_cons, List.length_nil, List.length_take, List.length_drop] at *; omega)) (by first | omega | decide | (simp only [len_insAt, List.length_map, List.length_append, List.length_cons, List.length_nil, List.length_take, List.length_drop] at *; omega)) (by first | omega | decide | (simp only [len_insAt, List.length_map, List.length_append, List.length_cons, List.length_nil, List.length_take, List.length_drop] at *; omega)) (fun r7 cs8 H r7a r7b hh S => ?_)
                simp only [List.set_cons_zero, List.set_cons_succ] at S
                refine x_ixI (cs := [1, 1, 2, 70]) S 0 (by exact rfl) (by omega) (by first | (show (_ : Int) < 4; omega) | omega) (fun v3 hv3 => ?_)
                have hv3 := List.mem_of_getElem? hv3
                simp only [List.mem_cons, List.not_mem_nil, or_false] at hv3
                refine ⟨_, rfl, by omega, by omega, ?_⟩
                refine forR (fun j σ H1 => ∃ (t : Int) (k2 : List (Key × V)) (q3 : Option V), σ = [some (.ref a), some (.ref L1), some (.int w1), some (.ref o1), some (.int (0 + (i : Nat))), some (.ref pc1), some (.ref L3), some (.int r4), q3] ∧ IntsK k2 ∧ k2.length ≤ kk.length ∧ Sep H0 [] H1 [(2, o1, .ins C xo1 (F_Taker w1 t d1 e)), (2, d1, .dK k2), (2, L1, .lst [.int (n + 1 + 1), .ref hq]), (2, hq, .lst (cs8.map V.int)), (2, pc1, .lst (ps.map V.int)), (2, L3, .lst [.ref D1, .int t, .int w1, e]), (2, D1, .dK k2)]) ?_ ?_ ?_
                · exact ⟨_, _, _, rfl, hI, Nat.le_refl _, S.sub [1, 2, 3, 4, 5, 6, 7]⟩
                · rintro j σ H hi ⟨t, k2, q3, rfl, hI, hk2, S⟩
                  try dsimp only [tSeq, tAsg, gName, tOp, tUn, tCB, tCons, tNil, tCall, tMethK1, tCallK1, tPar3, tRet, tRetN, tDrop, tTest, tB, tC, tNext, tAugS, tAug, sFld1, sFldAug1, tMeth1, tMake, tMakeK1, tSl, tPart, tNoPart, sDPut1, tDPop, tBM, tBM0, tPar, gSub, tChain, tNot, tNotV, iList1, iTup1, iRng1, iRng2, List.set_cons_zero, List.set_cons_succ]
                  try dsimp only [tSeq, tAsg, gName, tOp, tUn, tCB, tCons, tNil, tCall, tMethK1, tCallK1, tPar3, tRet, tRetN, tDrop, tTest, tB, tC, tNext, tAugS, tAug, sFld1, sFldAug1, tMeth1, tMake, tMakeK1, tSl, tPart, tNoPart, sDPut1, tDPop, tBM, tBM0, tPar, gSub, tChain, tNot, tNotV, iList1, iTup1, iRng1, iRng2, List.set_cons_zero, List.set_cons_succ]
                  refine x_if ?_
                  try dsimp only [tSeq, tAsg, gName, tOp, tUn, tCB, tCons, tNil, tCall, tMethK1, tCallK1, tPar3, tRet, tRetN, tDrop, tTest, tB, tC, tNext, tAugS, tAug, sFld1, sFldAug1, tMeth1, tMake, tMakeK1, tSl, tPart, tNoPart, sDPut1, tDPop, tBM, tBM0, tPar, gSub, tChain, tNot, tNotV, iList1, iTup1, iRng1, iRng2, List.set_cons_zero, List.set_cons_succ]
                  refine x_var (by exact rfl) ?_
                  refine x_var (by exact rfl) ?_
                  refine ⟨_, _, _, _, _, _, _, _, _, rfl, S.pre [(1, 0), (1, 1), (1, 5), (1, 6)], hI, fun t2 k2 H hI hk2 e1 e2 e3 e4 F => ?_⟩
                  have S := S.chgs (H' := H) [(0, 2, o1, .ins C xo1 (F_Taker w1 t2 d1 e)), (1, 2, d1, .dK k2), (5, 2, L3, .lst [.ref D1, .int t2, .int w1, e]), (6, 2, D1, .dK k2)] (by exact all4 ⟨_, rfl⟩ ⟨_, rfl⟩ ⟨_, rfl⟩ ⟨_, rfl⟩) (by exact all4 (.inr rfl) (.inr rfl) (.inr rfl) (.inr rfl)) (by show List.Nodup [0, 1, 5, 6]; decide) (by exact F) (by exact all4 e1 e2 e3 e4)
                  simp only [List.foldl, List.set_cons_zero, List.set_cons_succ] at S
                  refine ⟨_, rfl, ?_⟩
                  refine iteF ?_
                  exact ⟨_, _, _, rfl, hI, by omega, S⟩
                · rintro σ H ⟨t, k2, q3, rfl, hI, hk2, S⟩
                  try dsimp only [tSeq, tAsg, gName, tOp, tUn, tCB, tCons, tNil, tCall, tMethK1, tCallK1, tPar3, tRet, tRetN, tDrop, tTest, tB, tC, tNext, tAugS, tAug, sFld1, sFldAug1, tMeth1, tMake, tMakeK1, tSl, tPart, tNoPart, sDPut1, tDPop, tBM, tBM0, tPar, gSub, tChain, tNot, tNotV, iList1, iTup1, iRng1, iRng2, List.set_cons_zero, List.set_cons_succ]
                  try dsimp only [tSeq, tAsg, gName, tOp, tUn, tCB, tCons, tNil, tCall, tMethK1, tCallK1, tPar3, tRet, tRetN, tDrop, tTest, tB, tC, tNext, tAugS, tAug, sFld1, sFldAug1, tMeth1, tMake, tMakeK1, tSl, tPart, tNoPart, sDPut1, tDPop, tBM, tBM0, tPar, gSub, tChain, tNot, tNotV, iList1, iTup1, iRng1, iRng2, List.set_cons_zero, List.set_cons_succ]
                  refine x_if ?_
                  try dsimp only [tSeq, tAsg, gName, tOp, tUn, tCB, tCons, tNil, tCall, tMethK1, tCallK1, tPar3, tRet, tRetN, tDrop, tTest, tB, tC, tNext, tAugS, tAug, sFld1, sFldAug1, tMeth1, tMake, tMakeK1, tSl, tPart, tNoPart, sDPut1, tDPop, tBM, tBM0, tPar, gSub, tChain, tNot, tNotV, iList1, iTup1, iRng1, iRng2, List.set_cons_zero, List.set_cons_succ]
                  refine x_var (by exact rfl) ?_
                  refine x_var (by exact rfl) ?_
                  refine ⟨_, _, _, _, _, _, _, _, _, rfl, S.pre [(0, 0), (0, 1), (0, 5), (0, 6)], he, fun H F => ?_⟩
                  have S := S.stay F
                  refine ⟨_, rfl, ?_⟩
                  refine iteF ?_
                  exact ⟨_, _, _, _, _, _, _, _, rfl, by omega, by omega, hh, he, hI, by omega, S.sub [0, 1, 2, 3, 4, 5, 6]⟩
              · try dsimp only [tSeq, tAsg, gName, tOp, tUn, tCB, tCons, tNil, tCall, tMethK1, tCallK1, tPar3, tRet, tRetN, tDrop, tTest, tB, tC, tNext, tAugS, tAug, sFld1, sFldAug1, tMeth1, tMake, tMakeK1, tSl, tPart, tNoPart, sDPut1, tDPop, tBM, tBM0, tPar, gSub, tChain, tNot, tNotV, iList1, iTup1, iRng1, iRng2, List.set_cons_zero, List.set_cons_succ]
                have he0 := he
                rcases he0 with rfl | ⟨m, rfl⟩
                · refine x_var (by exact rfl) ?_
                  refine x_meth S 0 (by exact rfl) nk_Taker_ends ?_
                  refine x_var (by exact rfl) ?_
                  refine x_lenI S 4 (by exact rfl) ?_
                  refine x_ifE ?_
                  try dsimp only [tSeq, tAsg, gName, tOp, tUn, tCB, tCons, tNil, tCall, tMethK1, tCallK1, tPar3, tRet, tRetN, tDrop, tTest, tB, tC, tNext, tAugS, tAug, sFld1, sFldAug1, tMeth1, tMake, tMakeK1, tSl, tPart, tNoPart, sDPut1, tDPop, tBM, tBM0, tPar, gSub, tChain, tNot, tNotV, iList1, iTup1, iRng1, iRng2, List.set_cons_zero, List.set_cons_succ]
                  refine x_var (by exact rfl) ?_
                  refine x_ixF S 5 (by exact rfl) (by exact rfl) ?_
                  refine ⟨rfl, ?_⟩
                  refine ⟨_, rfl, ?_⟩
                  refine ited (fun c9 => ?_) (fun h => absurd rfl h)
                  refine x_I0 ?_
                  refine ⟨rfl, ?_⟩
                  refine c_ends S 0 (by exact rfl) (fun H S => ?_)
                  simp only [List.set_cons_zero, List.set_cons_succ] at S
                  first | rw [if_pos rfl] at S | rw [if_pos trivial] at S
                  try dsimp only [tSeq, tAsg, gName, tOp, tUn, tCB, tCons, tNil, tCall, tMethK1, tCallK1, tPar3, tRet, tRetN, tDrop, tTest, tB, tC, tNext, tAugS, tAug, sFld1, sFldAug1, tMeth1, tMake, tMakeK1, tSl, tPart, tNoPart, sDPut1, tDPop, tBM, tBM0, tPar, gSub, tChain, tNot, tNotV, iList1, iTup1, iRng1, iRng2, List.set_cons_zero, List.set_cons_succ]
                  refine x_ifE ?_
                  try dsimp only [tSeq, tAsg, gName, tOp, tUn, tCB, tCons, tNil, tCall, tMethK1, tCallK1, tPar3, tRet, tRetN, tDrop, tTest, tB, tC, tNext, tAugS, tAug, sFld1, sFldAug1, tMeth1, tMake, tMakeK1, tSl, tPart, tNoPart, sDPut1, tDPop, tBM, tBM0, tPar, gSub, tChain, tNot, tNotV, iList1, iTup1, iRng1, iRng2, List.set_cons_zero, List.set_cons_succ]
                  refine x_var (by exact rfl) ?_
                  refine x_ixF S 5 (by exact rfl) (by exact rfl) ?_
                  refine ⟨rfl, ?_⟩
                  refine ⟨_, rfl, ?_⟩
                  refine ited (fun c10 => ?_) (fun h => absurd rfl h)
                  refine x_var (by exact rfl) ?_
                  refine x_lenI S 4 (by exact rfl) ?_
                  refine x_var (by exact rfl) ?_
                  refine x_setL S 5 (by exact rfl) (by exact rfl) (fun H S => ?_)
                  simp only [List.set_cons_zero, List.set_cons_succ] at S
                  try dsimp only [tSeq, tAsg, gName, tOp, tUn, tCB, tCons, tNil, tCall, tMethK1, tCallK1, tPar3, tRet, tRetN, tDrop, tTest, tB, tC, tNext, tAugS, tAug, sFld1, sFldAug1, tMeth1, tMake, tMakeK1, tSl, tPart, tNoPart, sDPut1, tDPop, tBM, tBM0, tPar, gSub, tChain, tNot, tNotV, iList1, iTup1, iRng1, iRng2, List.set_cons_zero, List.set_cons_succ]
                  refine x_if ?_
                  try dsimp only [tSeq, tAsg, gName, tOp, tUn, tCB, tCons, tNil, tCall, tMethK1, tCallK1, tPar3, tRet, tRetN, tDrop, tTest, tB, tC, tNext, tAugS, tAug, sFld1, sFldAug1, tMeth1, tMake, tMakeK1, tSl, tPart, tNoPart, sDPut1, tDPop, tBM, tBM0, tPar, gSub, tChain, tNot, tNotV, iList1, iTup1, iRng1, iRng2, List.set_cons_zero, List.set_cons_succ]
                  refine x_var (by exact rfl) ?_
                  refine x_var (by exact rfl) ?_
                  refine ⟨_, _, _, _, _, _, _, _, _, rfl, S.pre [(0, 0), (0, 1), (0, 5), (0, 6)], (.inr ⟨_, rfl⟩), fun H F => ?_⟩
                  have S := S.stay F
                  refine ⟨_, rfl, ?_⟩
                  refine iteF ?_
                  exact ⟨_, _, _, _, _, _, _, _, rfl, by omega, by omega, hh, (.inr ⟨_, rfl⟩), hI, by omega, S.sub [0, 1, 2, 3, 4, 5, 6]⟩
                · refine x_var (by exact rfl) ?_
                  refine x_meth S 0 (by exact rfl) nk_Taker_ends ?_
                  refine x_var (by exact rfl) ?_
                  refine x_lenI S 4 (by exact rfl) ?_
                  refine x_ifE ?_
                  try dsimp only [tSeq, tAsg, gName, tOp, tUn, tCB, tCons, tNil, tCall, tMethK1, tCallK1, tPar3, tRet, tRetN, tDrop, tTest, tB, tC, tNext, tAugS, tAug, sFld1, sFldAug1, tMeth1, tMake, tMakeK1, tSl, tPart, tNoPart, sDPut1, tDPop, tBM, tBM0, tPar, gSub, tChain, tNot, tNotV, iList1, iTup1, iRng1, iRng2, List.set_cons_zero, List.set_cons_succ]
                  refine x_var (by exact rfl) ?_
                  refine x_ixF S 5 (by exact rfl) (by exact rfl) ?_
                  refine ⟨rfl, ?_⟩
                  refine ⟨_, rfl, ?_⟩
                  refine ited (fun h => nomatch h) (fun c11 => ?_)
                  refine x_var (by exact rfl) ?_
                  refine c_draw S 2 3 (by exact rfl) (by exact rfl) hh (by first | omega | decide | (simp only [len_insAt, List.length_map, List.length_append, List.length_cons, List.length_nil, List.length_take, List.length_drop] at *; omega)) (by first | omega | decide | (simp only [len_insAt, List.length_map, List.length_append, List.length_cons, List.length_nil, List.length_take, List.length_drop] at *; omega)) (by first | omega | decide | (simp only [len_insAt, List.length_map, List.length_append, List.length_cons, List.length_nil, List.length_take, List.length_drop] at *; omega)) (fun r8 cs9 H r8a r8b hh S => ?_)
                  simp only [List.set_cons_zero, List.set_cons_succ] at S
                  refine x_I0 ?_
                  refine ⟨rfl, ?_⟩
                  refine c_ends S 0 (by exact rfl) (fun H S => ?_)
                  simp only [List.set_cons_zero, List.set_cons_succ] at S
                  first | rw [if_neg (by intro z; cases z)] at S | rw [if_neg id] at S
                  try dsimp only [tSeq, tAsg, gName, tOp, tUn, tCB, tCons, tNil, tCall, tMethK1, tCallK1, tPar3, tRet, tRetN, tDrop, tTest, tB, tC, tNext, tAugS, tAug, sFld1, sFldAug1, tMeth1, tMake, tMakeK1, tSl, tPart, tNoPart, sDPut1, tDPop, tBM, tBM0, tPar, gSub, tChain, tNot, tNotV, iList1, iTup1, iRng1, iRng2, List.set_cons_zero, List.set_cons_succ]
                  refine x_ifE ?_
                  try dsimp only [tSeq, tAsg, gName, tOp, tUn, tCB, tCons, tNil, tCall, tMethK1, tCallK1, tPar3, tRet, tRetN, tDrop, tTest, tB, tC, tNext, tAugS, tAug, sFld1, sFldAug1, tMeth1, tMake, tMakeK1, tSl, tPart, tNoPart, sDPut1, tDPop, tBM, tBM0, tPar, gSub, tChain, tNot, tNotV, iList1, iTup1, iRng1, iRng2, List.set_cons_zero, List.set_cons_succ]
                  refine x_var (by exact rfl) ?_
                  refine x_ixF S 5 (by exact rfl) (by exact rfl) ?_
                  refine ⟨rfl, ?_⟩
                  refine ⟨_, rfl, ?_⟩
                  refine ited (fun h => nomatch h) (fun c12 => ?_)
                  refine x_var (by exact rfl) ?_
                  refine x_ixF S 5 (by exact rfl) (by exact rfl) ?_
                  refine x_var (by exact rfl) ?_
                  refine x_setL S 5 (by exact rfl) (by exact rfl) (fun H S => ?_)
                  simp only [List.set_cons_zero, List.set_cons_succ] at S
                  try dsimp only [tSeq, tAsg, gName, tOp, tUn, tCB, tCons, tNil, tCall, tMethK1, tCallK1, tPar3, tRet, tRetN, tDrop, tTest, tB, tC, tNext, tAugS, tAug, sFld1, sFldAug1, tMeth1, tMake, tMakeK1, tSl, tPart, tNoPart, sDPut1, tDPop, tBM, tBM0, tPar, gSub, tChain, tNot, tNotV, iList1, iTup1, iRng1, iRng2, List.set_cons_zero, List.set_cons_succ]
                  refine x_if ?_
                  try dsimp only [tSeq, tAsg, gName, tOp, tUn, tCB, tCons, tNil, tCall, tMethK1, tCallK1, tPar3, tRet, tRetN, tDrop, tTest, tB, tC, tNext, tAugS, tAug, sFld1, sFldAug1, tMeth1, tMake, tMakeK1, tSl, tPart, tNoPart, sDPut1, tDPop, tBM, tBM0, tPar, gSub, tChain, tNot, tNotV, iList1, iTup1, iRng1, iRng2, List.set_cons_zero, List.set_cons_succ]
                  refine x_var (by exact rfl) ?_
                  refine x_var (by exact rfl) ?_
                  refine ⟨_, _, _, _, _, _, _, _, _, rfl, S.pre [(0, 0), (0, 1), (0, 5), (0, 6)], he, fun H F => ?_⟩
                  have S := S.stay F
                  refine ⟨_, rfl, ?_⟩
                  refine iteF ?_
                  exact ⟨_, _, _, _, _, _, _, _, rfl, by omega, by omega, hh, he, hI, by omega, S.sub [0, 1, 2, 3, 4, 5, 6]⟩
          · rintro σ H ⟨n, cs, t, e, kk, q1, q2, q3, rfl, hn, hi40, hh, he, hI, hkk, S⟩
            try dsimp only [tSeq, tAsg, gName, tOp, tUn, tCB, tCons, tNil, tCall, tMethK1, tCallK1, tPar3, tRet, tRetN, tDrop, tTest, tB, tC, tNext, tAugS, tAug, sFld1, sFldAug1, tMeth1, tMake, tMakeK1, tSl, tPart, tNoPart, sDPut1, tDPop, tBM, tBM0, tPar, gSub, tChain, tNot, tNotV, iList1, iTup1, iRng1, iRng2, List.set_cons_zero, List.set_cons_succ]
            try dsimp only [tSeq, tAsg, gName, tOp, tUn, tCB, tCons, tNil, tCall, tMethK1, tCallK1, tPar3, tRet, tRetN, tDrop, tTest, tB, tC, tNext, tAugS, tAug, sFld1, sFldAug1, tMeth1, tMake, tMakeK1, tSl, tPart, tNoPart, sDPut1, tDPop, tBM, tBM0, tPar, gSub, tChain, tNot, tNotV, iList1, iTup1, iRng1, iRng2, List.set_cons_zero, List.set_cons_succ]
            exact k _
      · refine x_ifE ?_
        try dsimp only [tSeq, tAsg, gName, tOp, tUn, tCB, tCons, tNil, tCall, tMethK1, tCallK1, tPar3, tRet, tRetN, tDrop, tTest, tB, tC, tNext, tAugS, tAug, sFld1, sFldAug1, tMeth1, tMake, tMakeK1, tSl, tPart, tNoPart, sDPut1, tDPop, tBM, tBM0, tPar, gSub, tChain, tNot, tNotV, iList1, iTup1, iRng1, iRng2, List.set_cons_zero, List.set_cons_succ]
        refine x_and ?_
        try dsimp only [tSeq, tAsg, gName, tOp, tUn, tCB, tCons, tNil, tCall, tMethK1, tCallK1, tPar3, tRet, tRetN, tDrop, tTest, tB, tC, tNext, tAugS, tAug, sFld1, sFldAug1, tMeth1, tMake, tMakeK1, tSl, tPart, tNoPart, sDPut1, tDPop, tBM, tBM0, tPar, gSub, tChain, tNot, tNotV, iList1, iTup1, iRng1, iRng2, List.set_cons_zero, List.set_cons_succ]
        refine x_var (by exact rfl) ?_
        refine x_eq ?_
        refine ⟨_, rfl, ?_⟩
        refine iteq (fun c61 => ?_) (fun c61 => ?_)
        · refine x_var (by exact rfl) ?_
          refine c_draw S 0 1 (by exact rfl) (by exact rfl) hh (by first | omega | decide | (simp only [len_insAt, List.length_map, List.length_append, List.length_cons, List.length_nil, List.length_take, List.length_drop] at *; omega)) (by first | omega | decide | (simp only [len_insAt, List.length_map, List.length_append, List.length_cons, List.length_nil, List.length_take, List.length_drop] at *; omega)) (by first | omega | decide | (simp only [len_insAt, List.length_map, List.length_append, List.length_cons, List.length_nil, List.length_take, List.length_drop] at *; omega)) (fun r61 cs61 H r61a r61b hh S => ?_)
          simp only [List.set_cons_zero, List.set_cons_succ] at S
          refine x_eq ?_
          refine ⟨_, rfl, ?_⟩
          refine iteq (fun c62 => ?_) (fun c62 => ?_)
          · have hw4 := c61
            obtain rfl : w1 = 4 := c61
            refine c_mkTaker0 S (fun o61 xo61 d61 H S => ?_)
            exact KK _ _ ⟨_, _, _, _, _, rfl, by omega, hh, S.sub [1, 0, 2, 3]⟩
          · refine x_var (by exact rfl) ?_
            refine c_mkTaker S (fun o62 xo62 d62 H S => ?_)
            exact KK _ _ ⟨_, _, _, _, _, rfl, by omega, hh, S.sub [1, 0, 2, 3]⟩
        · refine iteF ?_
          refine x_var (by exact rfl) ?_
          refine c_mkTaker S (fun o63 xo63 d63 H S => ?_)
          exact KK _ _ ⟨_, _, _, _, _, rfl, by omega, hh, S.sub [1, 0, 2, 3]⟩
    · refine x_ifE ?_
      try dsimp only [tSeq, tAsg, gName, tOp, tUn, tCB, tCons, tNil, tCall, tMethK1, tCallK1, tPar3, tRet, tRetN, tDrop, tTest, tB, tC, tNext, tAugS, tAug, sFld1, sFldAug1, tMeth1, tMake, tMakeK1, tSl, tPart, tNoPart, sDPut1, tDPop, tBM, tBM0, tPar, gSub, tChain, tNot, tNotV, iList1, iTup1, iRng1, iRng2, List.set_cons_zero, List.set_cons_succ]
      refine x_var (by exact rfl) ?_
      refine x_lst S (by exact Nat.le_of_ble_eq_true rfl) (fun L51 H S => ?_)
      refine x_neSq (ys := []) (S.sq hs (by simp)) (S.sl 0 (by exact (by exact rfl))) ?_
      refine ⟨_, rfl, ?_⟩
      refine itend (fun c51 => ?_) (fun c51 => ?_)
      · refine x_var (by exact rfl) ?_
        refine x_listS S (S.sq hs (by simp)) (fun l1 H S => ?_)
        exact KK _ _ ⟨_, ns, rfl, ⟨c51, hl, Int.le_refl _⟩, S.sub [0]⟩
      · refine x_lst S (by exact Nat.le_of_ble_eq_true rfl) (fun L52 H S => ?_)
        exact KK _ _ ⟨_, [0], rfl, ⟨by simp, by decide, Int.le_refl _⟩, S.sub [0]⟩
end
end G

set_option linter.all false
set_option maxRecDepth 100000
set_option maxHeartbeats 4000000
namespace G
open PySem PySem.Spec PyProof.Rows L2
theorem all_mk {l : PySem.W.OpenLaw} {w : World} {K : PySem.W.Frag} {h : Heap} {mg : Str → Option Value} {fa C_Taker f1 f2 f3 f4 f5 f6 f7 f8 f9 f10 f11 f12 f13 f14 f15 f16 : Addr} (X : K.In h) (G : h.Ns mainGlobals mg) (hfa : mg "law" = some (.ref fa))
    {od1 an1 od2 an2 od3 an3 od4 an4 od5 an5 od6 an6 od7 an7 od8 an8 od9 an9 od10 an10 od11 an11 od12 an12 od13 an13 od14 an14 od15 an15 od16 an16 : Option Addr} {sl1 sl2 sl3 sl4 sl5 sl6 sl7 sl8 sl9 sl10 sl11 sl12 sl13 sl14 sl15 sl16 : Array (Option Value)}
    {D1 : Addr}
    {oc1 dc1 pm1 cd1 ct1 oc2 kV2 dc2 pm2 cd2 ct2 oc3 kV3 dc3 pm3 cd3 ct3 oc4 kV4 dc4 pm4 cd4 ct4 oc5 kV5 dc5 pm5 cd5 ct5 oc6 kV6 dc6 pm6 cd6 ct6 oc7 kV7 dc7 pm7 cd7 ct7 oc8 kV8 dc8 pm8 cd8 ct8 oc9 kV9 dc9 pm9 cd9 ct9 oc10 kV10 dc10 pm10 cd10 ct10 oc11 kV11 dc11 pm11 cd11 ct11 oc12 kV12 dc12 pm12 cd12 ct12 oc13 kV13 dc13 pm13 cd13 ct13 oc14 kV14 dc14 pm14 cd14 ct14 oc15 kV15 dc15 pm15 cd15 ct15 oc16 kV16 dc16 pm16 cd16 ct16 : Value} {tk1 : Tok}
    (g_Taker : PySem.W.nsIn K mainGlobals "Taker" = some (some (.ref C_Taker)))
    (pg_Taker : PySem.W.plainGet K C_Taker Str.empty = true)
    (hd_Taker : PySem.W.hasDictIn K C_Taker = true)
    (po_Taker : PySem.W.plainOver K C_Taker = true)
    (sa_Taker : PySem.W.findIn K (.ref C_Taker) "__setattr__" = some (some (.builtin "object.__setattr__")))
    (mk_Taker : PySem.W.makesIn K C_Taker = true)
    (kc_Taker : PySem.W.keepIn K (.ref C_Taker) = true)
    (na_Taker_wide : PySem.W.findIn K (.ref C_Taker) "wide" = some none)
    (na_Taker_taken : PySem.W.findIn K (.ref C_Taker) "taken" = some none)
    (na_Taker_kept : PySem.W.findIn K (.ref C_Taker) "kept" = some none)
    (na_Taker_end : PySem.W.findIn K (.ref C_Taker) "end" = some none)
    (m1 : PySem.W.findIn K (.ref C_Taker) "__init__" = some (some (.ref f1)))
    (i1 : PySem.W.isFn K (.ref f1) = true)
    (l1 : K.lookup f1 = some ⟨oc1, od1, .func (PySem.W.fnOf "__init__" "Taker.__init__" (defArgs s_Taker__init) (defBody s_Taker__init) (defScope s_Taker__init) .none (.ref D1) dc1 pm1 an1 cd1 ct1), sl1⟩)
    (c1 : PySem.W.codeIn K cd1 "Taker.__init__" = true)
    (k1 : PySem.W.keepIn K (.ref f1) = true)
    (d1 : PySem.W.nsIn K D1 "window" = some (some (.int 4 tk1)))
    (m2 : PySem.W.findIn K (.ref C_Taker) "came" = some (some (.ref f2)))
    (i2 : PySem.W.isFn K (.ref f2) = true)
    (l2 : K.lookup f2 = some ⟨oc2, od2, .func (PySem.W.fnOf "came" "Taker.came" (defArgs s_Taker_came) (defBody s_Taker_came) (defScope s_Taker_came) .none kV2 dc2 pm2 an2 cd2 ct2), sl2⟩)
    (c2 : PySem.W.codeIn K cd2 "Taker.came" = true)
    (k2 : PySem.W.keepIn K (.ref f2) = true)
    (m3 : PySem.W.findIn K (.ref C_Taker) "ends" = some (some (.ref f3)))
    (i3 : PySem.W.isFn K (.ref f3) = true)
    (l3 : K.lookup f3 = some ⟨oc3, od3, .func (PySem.W.fnOf "ends" "Taker.ends" (defArgs s_Taker_ends) (defBody s_Taker_ends) (defScope s_Taker_ends) .none kV3 dc3 pm3 an3 cd3 ct3), sl3⟩)
    (c3 : PySem.W.codeIn K cd3 "Taker.ends" = true)
    (k3 : PySem.W.keepIn K (.ref f3) = true)
    (m4 : PySem.W.findIn K (.ref C_Taker) "take" = some (some (.ref f4)))
    (i4 : PySem.W.isFn K (.ref f4) = true)
    (l4 : K.lookup f4 = some ⟨oc4, od4, .func (PySem.W.fnOf "take" "Taker.take" (defArgs s_Taker_take) (defBody s_Taker_take) (defScope s_Taker_take) .none kV4 dc4 pm4 an4 cd4 ct4), sl4⟩)
    (c4 : PySem.W.codeIn K cd4 "Taker.take" = true)
    (k4 : PySem.W.keepIn K (.ref f4) = true)
    (m5 : PySem.W.findIn K (.ref C_Taker) "told" = some (some (.ref f5)))
    (i5 : PySem.W.isFn K (.ref f5) = true)
    (l5 : K.lookup f5 = some ⟨oc5, od5, .func (PySem.W.fnOf "told" "Taker.told" (defArgs s_Taker_told) (defBody s_Taker_told) (defScope s_Taker_told) .none kV5 dc5 pm5 an5 cd5 ct5), sl5⟩)
    (c5 : PySem.W.codeIn K cd5 "Taker.told" = true)
    (k5 : PySem.W.keepIn K (.ref f5) = true)
    (m6 : PySem.W.findIn K (.ref C_Taker) "has_all" = some (some (.ref f6)))
    (i6 : PySem.W.isFn K (.ref f6) = true)
    (l6 : K.lookup f6 = some ⟨oc6, od6, .func (PySem.W.fnOf "has_all" "Taker.has_all" (defArgs s_Taker_has_all) (defBody s_Taker_has_all) (defScope s_Taker_has_all) .none kV6 dc6 pm6 an6 cd6 ct6), sl6⟩)
    (c6 : PySem.W.codeIn K cd6 "Taker.has_all" = true)
    (k6 : PySem.W.keepIn K (.ref f6) = true)
    (m7 : PySem.W.findIn K (.ref C_Taker) "is_ended" = some (some (.ref f7)))
    (i7 : PySem.W.isFn K (.ref f7) = true)
    (l7 : K.lookup f7 = some ⟨oc7, od7, .func (PySem.W.fnOf "is_ended" "Taker.is_ended" (defArgs s_Taker_is_ended) (defBody s_Taker_is_ended) (defScope s_Taker_is_ended) .none kV7 dc7 pm7 an7 cd7 ct7), sl7⟩)
    (c7 : PySem.W.codeIn K cd7 "Taker.is_ended" = true)
    (k7 : PySem.W.keepIn K (.ref f7) = true)
    (a8 : PySem.W.nsIn K mainGlobals "_law_draw" = some (some (.ref f8)))
    (l8 : K.lookup f8 = some ⟨oc8, od8, .func (PySem.W.fnOf "_law_draw" "_law_draw" (defArgs s_law_draw) (defBody s_law_draw) (defScope s_law_draw) .none kV8 dc8 pm8 an8 cd8 ct8), sl8⟩)
    (c8 : PySem.W.codeIn K cd8 "_law_draw" = true)
    (k8 : PySem.W.keepIn K (.ref f8) = true)
    (a9 : PySem.W.nsIn K mainGlobals "_law_is" = some (some (.ref f9)))
    (l9 : K.lookup f9 = some ⟨oc9, od9, .func (PySem.W.fnOf "_law_is" "_law_is" (defArgs s_law_is) (defBody s_law_is) (defScope s_law_is) .none kV9 dc9 pm9 an9 cd9 ct9), sl9⟩)
    (c9 : PySem.W.codeIn K cd9 "_law_is" = true)
    (k9 : PySem.W.keepIn K (.ref f9) = true)
    (a10 : PySem.W.nsIn K mainGlobals "_law_truth" = some (some (.ref f10)))
    (l10 : K.lookup f10 = some ⟨oc10, od10, .func (PySem.W.fnOf "_law_truth" "_law_truth" (defArgs s_law_truth) (defBody s_law_truth) (defScope s_law_truth) .none kV10 dc10 pm10 an10 cd10 ct10), sl10⟩)
    (c10 : PySem.W.codeIn K cd10 "_law_truth" = true)
    (k10 : PySem.W.keepIn K (.ref f10) = true)
    (a11 : PySem.W.nsIn K mainGlobals "_law_value" = some (some (.ref f11)))
    (l11 : K.lookup f11 = some ⟨oc11, od11, .func (PySem.W.fnOf "_law_value" "_law_value" (defArgs s_law_value) (defBody s_law_value) (defScope s_law_value) .none kV11 dc11 pm11 an11 cd11 ct11), sl11⟩)
    (c11 : PySem.W.codeIn K cd11 "_law_value" = true)
    (k11 : PySem.W.keepIn K (.ref f11) = true)
    (a12 : PySem.W.nsIn K mainGlobals "_law_wide" = some (some (.ref f12)))
    (l12 : K.lookup f12 = some ⟨oc12, od12, .func (PySem.W.fnOf "_law_wide" "_law_wide" (defArgs s_law_wide) (defBody s_law_wide) (defScope s_law_wide) .none kV12 dc12 pm12 an12 cd12 ct12), sl12⟩)
    (c12 : PySem.W.codeIn K cd12 "_law_wide" = true)
    (k12 : PySem.W.keepIn K (.ref f12) = true)
    (a13 : PySem.W.nsIn K mainGlobals "_law_right" = some (some (.ref f13)))
    (l13 : K.lookup f13 = some ⟨oc13, od13, .func (PySem.W.fnOf "_law_right" "_law_right" (defArgs s_law_right) (defBody s_law_right) (defScope s_law_right) .none kV13 dc13 pm13 an13 cd13 ct13), sl13⟩)
    (c13 : PySem.W.codeIn K cd13 "_law_right" = true)
    (k13 : PySem.W.keepIn K (.ref f13) = true)
    (a14 : PySem.W.nsIn K mainGlobals "_law_came" = some (some (.ref f14)))
    (l14 : K.lookup f14 = some ⟨oc14, od14, .func (PySem.W.fnOf "_law_came" "_law_came" (defArgs s_law_came) (defBody s_law_came) (defScope s_law_came) .none kV14 dc14 pm14 an14 cd14 ct14), sl14⟩)
    (c14 : PySem.W.codeIn K cd14 "_law_came" = true)
    (k14 : PySem.W.keepIn K (.ref f14) = true)
    (a15 : PySem.W.nsIn K mainGlobals "_law_taken" = some (some (.ref f15)))
    (l15 : K.lookup f15 = some ⟨oc15, od15, .func (PySem.W.fnOf "_law_taken" "_law_taken" (defArgs s_law_taken) (defBody s_law_taken) (defScope s_law_taken) .none kV15 dc15 pm15 an15 cd15 ct15), sl15⟩)
    (c15 : PySem.W.codeIn K cd15 "_law_taken" = true)
    (k15 : PySem.W.keepIn K (.ref f15) = true)
    (a16 : PySem.W.nsIn K mainGlobals "law" = some (some (.ref f16)))
    (l16 : K.lookup f16 = some ⟨oc16, od16, .func (PySem.W.fnOf "law" "law" (defArgs s_law) (defBody s_law) (defScope s_law) .none kV16 dc16 pm16 an16 cd16 ct16), sl16⟩)
    (c16 : PySem.W.codeIn K cd16 "law" = true)
    (k16 : PySem.W.keepIn K (.ref f16) = true)
    (z_len : PySem.W.nsIn K mainGlobals "len" = some none)
    (z_list : PySem.W.nsIn K mainGlobals "list" = some none)
    (z_range : PySem.W.nsIn K mainGlobals "range" = some none)
    (z_min : PySem.W.nsIn K mainGlobals "min" = some none)
    (z_max : PySem.W.nsIn K mainGlobals "max" = some none)
    (z_isinstance : PySem.W.nsIn K mainGlobals "isinstance" = some none)
    (z_int : PySem.W.nsIn K mainGlobals "int" = some none)
    (z_bool : PySem.W.nsIn K mainGlobals "bool" = some none)
    (z_tuple : PySem.W.nsIn K mainGlobals "tuple" = some none)
    : ∃ fd : FuncData, (∀ (s : Shared) (v : Value), BindsTo s fd ⟨[v], []⟩ [("_law_script", v)]) ∧ ∀ base : Heap, K.In base → base.Ns mainGlobals mg → FnOk l.prog w K mg base CX0 4 fa fd ["_law_script"] (spLaw K) := by
  have e := hfa.symm.trans (PySem.W.mg_of X G a16)
  cases e
  have cl_Taker : Cls K C_Taker := ⟨pg_Taker, hd_Taker, po_Taker, sa_Taker⟩
  have F_Taker__init := fun_mk (st := s_Taker__init) l1 c1 k1
  have M_Taker : Mk K C_Taker f1 := ⟨mk_Taker, m1, i1, kc_Taker⟩
  have F_Taker_came := fun_mk (st := s_Taker_came) l2 c2 k2
  have b_Taker_came := F_Taker_came.binds (ps := ["self", "place", "value"]) fun _ _ _ _ _ _ us hl => match us, hl with | [_, _, _], _ => rfl
  have me_Taker_came : L2.Meth K C_Taker "came" f2 := ⟨m2, i2, k2⟩
  have F_Taker_ends := fun_mk (st := s_Taker_ends) l3 c3 k3
  have b_Taker_ends := F_Taker_ends.binds (ps := ["self", "many"]) fun _ _ _ _ _ _ us hl => match us, hl with | [_, _], _ => rfl
  have me_Taker_ends : L2.Meth K C_Taker "ends" f3 := ⟨m3, i3, k3⟩
  have F_Taker_take := fun_mk (st := s_Taker_take) l4 c4 k4
  have b_Taker_take := F_Taker_take.binds (ps := ["self"]) fun _ _ _ _ _ _ us hl => match us, hl with | [_], _ => rfl
  have me_Taker_take : L2.Meth K C_Taker "take" f4 := ⟨m4, i4, k4⟩
  have F_Taker_told := fun_mk (st := s_Taker_told) l5 c5 k5
  have b_Taker_told := F_Taker_told.binds (ps := ["self"]) fun _ _ _ _ _ _ us hl => match us, hl with | [_], _ => rfl
  have me_Taker_told : L2.Meth K C_Taker "told" f5 := ⟨m5, i5, k5⟩
  have F_Taker_has_all := fun_mk (st := s_Taker_has_all) l6 c6 k6
  have b_Taker_has_all := F_Taker_has_all.binds (ps := ["self"]) fun _ _ _ _ _ _ us hl => match us, hl with | [_], _ => rfl
  have me_Taker_has_all : L2.Meth K C_Taker "has_all" f6 := ⟨m6, i6, k6⟩
  have F_Taker_is_ended := fun_mk (st := s_Taker_is_ended) l7 c7 k7
  have b_Taker_is_ended := F_Taker_is_ended.binds (ps := ["self"]) fun _ _ _ _ _ _ us hl => match us, hl with | [_], _ => rfl
  have me_Taker_is_ended : L2.Meth K C_Taker "is_ended" f7 := ⟨m7, i7, k7⟩
  have gC_Taker : mg "Taker" = some (.ref C_Taker) := PySem.W.mg_of X G g_Taker
  have F_law_draw := fun_mk (st := s_law_draw) l8 c8 k8
  have b_law_draw := F_law_draw.binds (ps := ["_law_hold", "_law_size"]) fun _ _ _ _ _ _ us hl => match us, hl with | [_, _], _ => rfl
  have g_law_draw : mg "_law_draw" = some (.ref f8) := PySem.W.mg_of X G a8
  have F_law_is := fun_mk (st := s_law_is) l9 c9 k9
  have b_law_is := F_law_is.binds (ps := ["_law_found", "_law_due"]) fun _ _ _ _ _ _ us hl => match us, hl with | [_, _], _ => rfl
  have g_law_is : mg "_law_is" = some (.ref f9) := PySem.W.mg_of X G a9
  have F_law_truth := fun_mk (st := s_law_truth) l10 c10 k10
  have b_law_truth := F_law_truth.binds (ps := ["_law_found", "_law_due"]) fun _ _ _ _ _ _ us hl => match us, hl with | [_, _], _ => rfl
  have g_law_truth : mg "_law_truth" = some (.ref f10) := PySem.W.mg_of X G a10
  have F_law_value := fun_mk (st := s_law_value) l11 c11 k11
  have b_law_value := F_law_value.binds (ps := ["_law_hold"]) fun _ _ _ _ _ _ us hl => match us, hl with | [_], _ => rfl
  have g_law_value : mg "_law_value" = some (.ref f11) := PySem.W.mg_of X G a11
  have F_law_wide := fun_mk (st := s_law_wide) l12 c12 k12
  have b_law_wide := F_law_wide.binds (ps := ["_law_hold"]) fun _ _ _ _ _ _ us hl => match us, hl with | [_], _ => rfl
  have g_law_wide : mg "_law_wide" = some (.ref f12) := PySem.W.mg_of X G a12
  have F_law_right := fun_mk (st := s_law_right) l13 c13 k13
  have b_law_right := F_law_right.binds (ps := ["_law_taker", "_law_model"]) fun _ _ _ _ _ _ us hl => match us, hl with | [_, _], _ => rfl
  have g_law_right : mg "_law_right" = some (.ref f13) := PySem.W.mg_of X G a13
  have F_law_came := fun_mk (st := s_law_came) l14 c14 k14
  have b_law_came := F_law_came.binds (ps := ["_law_hold", "_law_taker", "_law_model", "_law_pieces"]) fun _ _ _ _ _ _ us hl => match us, hl with | [_, _, _, _], _ => rfl
  have g_law_came : mg "_law_came" = some (.ref f14) := PySem.W.mg_of X G a14
  have F_law_taken := fun_mk (st := s_law_taken) l15 c15 k15
  have b_law_taken := F_law_taken.binds (ps := ["_law_taker", "_law_model"]) fun _ _ _ _ _ _ us hl => match us, hl with | [_, _], _ => rfl
  have g_law_taken : mg "_law_taken" = some (.ref f15) := PySem.W.mg_of X G a15
  have F_law := fun_mk (st := s_law) l16 c16 k16
  have b_law := F_law.binds (ps := ["_law_script"]) fun _ _ _ _ _ _ us hl => match us, hl with | [_], _ => rfl
  have z_len : mg "len" = none := PySem.W.mg_none_of X G z_len
  have z_list : mg "list" = none := PySem.W.mg_none_of X G z_list
  have z_range : mg "range" = none := PySem.W.mg_none_of X G z_range
  have z_min : mg "min" = none := PySem.W.mg_none_of X G z_min
  have z_max : mg "max" = none := PySem.W.mg_none_of X G z_max
  have z_isinstance : mg "isinstance" = none := PySem.W.mg_none_of X G z_isinstance
  have z_int : mg "int" = none := PySem.W.mg_none_of X G z_int
  have z_bool : mg "bool" = none := PySem.W.mg_none_of X G z_bool
  have z_tuple : mg "tuple" = none := PySem.W.mg_none_of X G z_tuple
  refine ⟨PySem.W.fnOf "law" "law" (defArgs s_law) (defBody s_law) (defScope s_law) .none kV16 dc16 pm16 an16 cd16 ct16, fun s v => .of_eq rfl, fun base _ _ => ?_⟩
  have T : TkCls K C_Taker := ⟨cl_Taker, na_Taker_wide, na_Taker_taken, na_Taker_kept, na_Taker_end⟩
  have FD : FunD K "__init__" "Taker.__init__" (defArgs s_Taker__init) (defBody s_Taker__init) (defScope s_Taker__init) [] [("window", V.int 4)] _ _ := ⟨⟨_, _, _, _, _, _, _, _, _, _, rfl, l1, c1, .inl ⟨rfl, rfl⟩, .inr ⟨_, rfl, fun q hq => by rw [List.mem_singleton.mp hq]; exact ⟨_, d1, _, rfl⟩⟩⟩, k1⟩
  obtain ⟨mv, KB⟩ := FD.kbinds0 (ps := ["self", "window"]) 1 ["window"] [] (fun us mv ws => us ++ ws) (by simp) (fun _ h => nomatch h) (fun r1 _ r2 => r1.append r2) (fun D doc pm an cdv ct us mv ws h1 h2 h3 => match us, ws, h1, h3 with | [_], [_], _, _ => rfl)
  have mk : MakK l.prog w K mg base CX0 1 "Taker" C_Taker ["window"] (spTkInit C_Taker) := ⟨_, _, _, _, M_Taker, ok_Taker__init F_Taker__init T, gC_Taker, KB⟩
  obtain ⟨ds0, VD, BD⟩ := FD.binds0 (ps := ["self", "window"]) 1 (by simp) rfl (fun D doc pm an cdv ct us ks h1 h2 => match us, ks, h1, h2 with | [_], [_], _, _ => ⟨_, _, _, _, _, _, rfl, rfl, rfl⟩)
  have mkd : MakD l.prog w K mg base CX0 1 "Taker" C_Taker [V.int 4] (spTkInit C_Taker) := ⟨_, _, _, ds0, M_Taker, ok_Taker__init F_Taker__init T, gC_Taker, BD, VD⟩
  have mcameK : MetK l.prog w K mg base CX0 1 C_Taker "came" ["value", "place"] [1, 0] (spCame C_Taker) := ⟨_, _, _, cl_Taker, me_Taker_came, ok_Taker_came F_Taker_came T, fun_kbn F_Taker_came 1 ["value", "place"] [1, 0] (fun _ _ _ _ _ _ us ws h1 h2 => match us, ws, h1, h2 with | [_], [_, _], _, _ => rfl)⟩
  have mendsK : MetK l.prog w K mg base CX0 1 C_Taker "ends" ["many"] [0] (spEnds C_Taker) := ⟨_, _, _, cl_Taker, me_Taker_ends, ok_Taker_ends F_Taker_ends T, fun_kbn F_Taker_ends 1 ["many"] [0] (fun _ _ _ _ _ _ us ws h1 h2 => match us, ws, h1, h2 with | [_], [_], _, _ => rfl)⟩
  have mtake : Met l.prog w K mg base CX0 1 C_Taker "take" (spTake C_Taker) := ⟨_, _, _, cl_Taker, me_Taker_take, ok_Taker_take F_Taker_take T, b_Taker_take⟩
  have mtold : Met l.prog w K mg base CX0 1 C_Taker "told" (spTold C_Taker) := ⟨_, _, _, cl_Taker, me_Taker_told, ok_Taker_told F_Taker_told T, b_Taker_told⟩
  have mhasall : Met l.prog w K mg base CX0 2 C_Taker "has_all" (spHasAll C_Taker) := ⟨_, _, _, cl_Taker, me_Taker_has_all, ok_Taker_has_all F_Taker_has_all T mtold, b_Taker_has_all⟩
  have misended : Met l.prog w K mg base CX0 1 C_Taker "is_ended" (spIsEnded C_Taker) := ⟨_, _, _, cl_Taker, me_Taker_is_ended, ok_Taker_is_ended F_Taker_is_ended T, b_Taker_is_ended⟩
  have cd : Cal l.prog w K mg base CX0 1 "_law_draw" spDraw := ⟨_, _, _, ok_draw F_law_draw z_len, g_law_draw, F_law_draw.kp, b_law_draw⟩
  have cv : Cal l.prog w K mg base CX0 2 "_law_value" spValue := ⟨_, _, _, ok_law_value F_law_value cd z_range, g_law_value, F_law_value.kp, b_law_value⟩
  have cw : Cal l.prog w K mg base CX0 2 "_law_wide" spWide := ⟨_, _, _, ok_law_wide F_law_wide cd, g_law_wide, F_law_wide.kp, b_law_wide⟩
  have cis : Cal l.prog w K mg base CX0 1 "_law_is" spIs := ⟨_, _, _, ok_law_is F_law_is z_isinstance z_int z_bool, g_law_is, F_law_is.kp, b_law_is⟩
  have ctr : Cal l.prog w K mg base CX0 1 "_law_truth" spTruth := ⟨_, _, _, ok_law_truth F_law_truth z_isinstance z_bool, g_law_truth, F_law_truth.kp, b_law_truth⟩
  have clr : Cal l.prog w K mg base CX0 3 "_law_right" (spRight C_Taker) := ⟨_, _, _, ok_law_right F_law_right mtold mhasall misended cis ctr z_isinstance z_tuple z_len, g_law_right, F_law_right.kp, b_law_right⟩
  have clc : Cal l.prog w K mg base CX0 2 "_law_came" (spLCame C_Taker) := ⟨_, _, _, ok_law_came F_law_came cd mcameK z_len z_range z_max z_min, g_law_came, F_law_came.kp, b_law_came⟩
  have clt : Cal l.prog w K mg base CX0 2 "_law_taken" (spLTaken C_Taker) := ⟨_, _, _, ok_law_taken F_law_taken mtake cis, g_law_taken, F_law_taken.kp, b_law_taken⟩
  exact ok_law F_law cd cv cw clc clt clr mk mkd mendsK z_len z_list z_range z_max z_min
end G

set_option linter.all false
set_option maxRecDepth 100000
set_option maxHeartbeats 4000000
open PySem PySem.W PyProof.Rows
set_option maxRecDepth 100000 in
set_option maxHeartbeats 0 in
theorem PySem.Challenge.cw_farasked_k10_takers_holds : PySem.Challenge.rw_farasked_k10_takers.Holds := by
  w_on; o_law; k_head; (case hw => w_witness2)
  k_fill
  refine L2.walk_of (l := PySem.Challenge.rw_farasked_k10_takers) (n := 63) (k := 4) (x := "_law_script") (CX := fun _ => L2.CX0) (sp := fun w => G.spLaw _) rfl (by decide) rfl ⟨rfl, by decide, by decide⟩ (fun w h Y => PySem.W.kIn_of Y) ?F (fun _ _ a ns hl _ hS => ⟨a, ns, rfl, hS, hl, fun _ => rfl⟩) (fun _ _ _ _ _ h => h)
  case F =>
    intro w mg fa h KX GN hmg
    refine' G.all_mk KX GN hmg ?g_Taker ?pg_Taker ?hd_Taker ?po_Taker ?sa_Taker ?mk_Taker ?kc_Taker ?na_Taker_wide ?na_Taker_taken ?na_Taker_kept ?na_Taker_end ?m1 ?i1 ?l1 ?c1 ?k1 ?d1 ?m2 ?i2 ?l2 ?c2 ?k2 ?m3 ?i3 ?l3 ?c3 ?k3 ?m4 ?i4 ?l4 ?c4 ?k4 ?m5 ?i5 ?l5 ?c5 ?k5 ?m6 ?i6 ?l6 ?c6 ?k6 ?m7 ?i7 ?l7 ?c7 ?k7 ?a8 ?l8 ?c8 ?k8 ?a9 ?l9 ?c9 ?k9 ?a10 ?l10 ?c10 ?k10 ?a11 ?l11 ?c11 ?k11 ?a12 ?l12 ?c12 ?k12 ?a13 ?l13 ?c13 ?k13 ?a14 ?l14 ?c14 ?k14 ?a15 ?l15 ?c15 ?k15 ?a16 ?l16 ?c16 ?k16 ?z_len ?z_list ?z_range ?z_min ?z_max ?z_isinstance ?z_int ?z_bool ?z_tuple
    (case g_Taker => k_is)
    (case pg_Taker => k_is)
    (case hd_Taker => k_is)
    (case po_Taker => k_is)
    (case sa_Taker => k_is)
    (case mk_Taker => k_is)
    (case kc_Taker => k_is)
    (case na_Taker_wide => k_is)
    (case na_Taker_taken => k_is)
    (case na_Taker_kept => k_is)
    (case na_Taker_end => k_is)
    (case m1 => k_is)
    (case i1 => k_is)
    (case l1 => k_is)
    (case c1 => k_is)
    (case k1 => k_is)
    (case d1 => k_is)
    (case m2 => k_is)
    (case i2 => k_is)
    (case l2 => k_is)
    (case c2 => k_is)
    (case k2 => k_is)
    (case m3 => k_is)
    (case i3 => k_is)
    (case l3 => k_is)
    (case c3 => k_is)
    (case k3 => k_is)
    (case m4 => k_is)
    (case i4 => k_is)
    (case l4 => k_is)
    (case c4 => k_is)
    (case k4 => k_is)
    (case m5 => k_is)
    (case i5 => k_is)
    (case l5 => k_is)
    (case c5 => k_is)
    (case k5 => k_is)
    (case m6 => k_is)
    (case i6 => k_is)
    (case l6 => k_is)
    (case c6 => k_is)
    (case k6 => k_is)
    (case m7 => k_is)
    (case i7 => k_is)
    (case l7 => k_is)
    (case c7 => k_is)
    (case k7 => k_is)
    (case a8 => k_is)
    (case l8 => k_is)
    (case c8 => k_is)
    (case k8 => k_is)
    (case a9 => k_is)
    (case l9 => k_is)
    (case c9 => k_is)
    (case k9 => k_is)
    (case a10 => k_is)
    (case l10 => k_is)
    (case c10 => k_is)
    (case k10 => k_is)
    (case a11 => k_is)
    (case l11 => k_is)
    (case c11 => k_is)
    (case k11 => k_is)
    (case a12 => k_is)
    (case l12 => k_is)
    (case c12 => k_is)
    (case k12 => k_is)
    (case a13 => k_is)
    (case l13 => k_is)
    (case c13 => k_is)
    (case k13 => k_is)
    (case a14 => k_is)
    (case l14 => k_is)
    (case c14 => k_is)
    (case k14 => k_is)
    (case a15 => k_is)
    (case l15 => k_is)
    (case c15 => k_is)
    (case k15 => k_is)
    (case a16 => k_is)
    (case l16 => k_is)
    (case c16 => k_is)
    (case k16 => k_is)
    (case z_len => k_is)
    (case z_list => k_is)
    (case z_range => k_is)
    (case z_min => k_is)
    (case z_max => k_is)
    (case z_isinstance => k_is)
    (case z_int => k_is)
    (case z_bool => k_is)
    (case z_tuple => k_is)

