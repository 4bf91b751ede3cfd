import PyProof.Rows.All
import Wide.All
import OpenK.AllK
import Wide.FinOn
import HandS.ForMost
import HandS.Wide
import HandS.Flow
import HandS.Defaults
import HandS.MakeKwOnly
import HandS.Codes
import HandS.More
import HandS.NoneIn
import HandS.Style
import HandS.IsInst
import KE.Datum
import HandS.Walk
import HandS.TupLen
import HandS.Zip
import HandS.Text
import HandS.RevTup
import HandS.Conv
import HandS.DictComp
import HandS.ExcOwn
import HandS.TryOnly
import HandS.WordsExc
import PySem.Challenge.RW_farasked_k11_whole_ways
set_option Elab.async false
set_option linter.all false
set_option maxRecDepth 100000
/-! what stands in the heap, as one list of cells -/
namespace G
open PySem PySem.Spec PyProof.Rows L2

/-- a cell: 0 read alone, 1 of the caller's and to be changed, 2 new here -/
abbrev Cell := Nat × Addr × HO
structure Sep (H0 : Hp) (ft : List Addr) (H : Hp) (l : List Cell) : Prop where
  nd : (l.map (·.2.1)).Nodup
  rd : ∀ c ∈ l, H c.2.1 = some c.2.2
  fr : ∀ b o, H0 b = some o → b ∉ ft → H b = some o
  wr : ∀ c ∈ l, c.1 = 1 → c.2.1 ∈ ft
  nw : ∀ c ∈ l, c.1 = 2 → H0 c.2.1 = none
  ex : ∀ b ∈ ft, ∃ o, H b = some o
section
variable {H0 H H' : Hp} {ft : List Addr} {l : List Cell} {t : Nat} {a p q b : Addr} {o o' u : HO}
theorem Sep.nil (ex : ∀ b ∈ ft, ∃ o, H b = some o) : Sep H ft H [] := ⟨List.nodup_nil, fun _ h => (nomatch h), fun _ _ h _ => h, fun _ h => (nomatch h), fun _ h => (nomatch h), ex⟩
theorem Sep.mem (S : Sep H0 ft H l) (i : Nat) {c : Cell} (h : l[i]? = some c) : c ∈ l := List.mem_of_getElem? h
theorem Sep.get (S : Sep H0 ft H l) (i : Nat) (h : l[i]? = some (t, a, o)) : H a = some o := S.rd _ (List.mem_of_getElem? h)
theorem Sep.new_none (S : Sep H0 ft H l) (i : Nat) (h : l[i]? = some (2, a, o)) : H0 a = none := S.nw _ (List.mem_of_getElem? h) rfl
theorem Sep.ne {t t' : Nat} (S : Sep H0 ft H l) (i j : Nat) (h : l[i]? = some (t, a, o)) (h' : l[j]? = some (t', b, u)) (d : i ≠ j) : a ≠ b := by
  intro e
  have h1 : (l.map (·.2.1))[i]? = some a := by rw [List.getElem?_map, h]; rfl
  have h2 : (l.map (·.2.1))[j]? = some a := by rw [List.getElem?_map, h', e]; rfl
  obtain ⟨x1, e1⟩ := List.getElem?_eq_some_iff.mp h1
  obtain ⟨x2, e2⟩ := List.getElem?_eq_some_iff.mp h2
  exact d ((List.getElem_inj S.nd).mp (e1.trans e2.symm))
theorem Sep.add (S : Sep H0 ft H l) (t : Nat) (ha : H a = some o) (hn : ∀ c ∈ l, c.2.1 ≠ a) (h1 : t = 1 → a ∈ ft) (h2 : t = 2 → H0 a = none) : Sep H0 ft H ((t, a, o) :: l) :=
  ⟨List.nodup_cons.mpr ⟨fun m => by obtain ⟨c, hc, e⟩ := List.mem_map.mp m; exact hn c hc e, S.nd⟩,
   fun c hc => (List.mem_cons.mp hc).elim (fun e => by rw [e]; exact ha) (S.rd c), S.fr,
   fun c hc => (List.mem_cons.mp hc).elim (fun e => by rw [e]; exact h1) (S.wr c),
   fun c hc => (List.mem_cons.mp hc).elim (fun e => by rw [e]; exact h2) (S.nw c), S.ex⟩
/-- what is not there was not there at the entry, where all that may be changed is there -/
theorem Sep.none0 (S : Sep H0 ft H l) (hp : H p = none) : H0 p = none := by
  cases e : H0 p with
  | none => rfl
  | some o =>
    by_cases m : p ∈ ft
    · obtain ⟨u, hu⟩ := S.ex p m
      rw [hp] at hu; cases hu
    · have := S.fr p o e m
      rw [hp] at this; cases this
theorem Sep.new (S : Sep H0 ft H l) (hp : H p = none) (o : HO) : Sep H0 ft (upd H p o) ((2, p, o) :: l) := by
  have h0 := S.none0 hp
  have hne : ∀ c ∈ l, c.2.1 ≠ p := fun c hc e => by
    have := S.rd c hc
    rw [e, hp] at this; cases this
  have S' : Sep H0 ft (upd H p o) l := ⟨S.nd, fun c hc => by rw [upd_ne (hne c hc)]; exact S.rd c hc, fun b u e m => by rw [upd_ne (ne_of_none e h0)]; exact S.fr b u e m, S.wr, S.nw, fun b m => by obtain ⟨u, hu⟩ := S.ex b m; exact ⟨u, by rw [upd_ne (ne_of_none hu hp)]; exact hu⟩⟩
  exact S'.add 2 upd_same hne (fun e => by cases e) fun _ => h0
theorem Sep.put (S : Sep H0 ft H l) (i : Nat) (o' : HO) (h : l[i]? = some (t, a, o)) (ht : t = 1 ∨ t = 2 := by first | exact .inl rfl | exact .inr rfl) : Sep H0 ft (upd H a o') (l.set i (t, a, o')) := by
  have hw : H0 a = none ∨ a ∈ ft := by
    rcases ht with e | e
    · exact .inr (S.wr _ (List.mem_of_getElem? h) e)
    · exact .inl (S.nw _ (List.mem_of_getElem? h) e)
  have hi : i < l.length := (List.getElem?_eq_some_iff.mp h).1
  have em : (l.set i (t, a, o')).map (·.2.1) = l.map (·.2.1) := by
    rw [List.map_set]
    have : (l.map (·.2.1))[i]? = some a := by rw [List.getElem?_map, h]; rfl
    obtain ⟨x, e⟩ := List.getElem?_eq_some_iff.mp this
    rw [← e]
    exact List.set_getElem_self x
  refine ⟨by rw [em]; exact S.nd, fun c hc => ?_, fun b u e m => ?_, fun c hc => ?_, fun c hc => ?_, fun b m => ?_⟩
  · rcases List.getElem?_of_mem hc with ⟨j, hj⟩
    by_cases e : i = j
    · subst e
      rw [List.getElem?_set_self hi] at hj
      cases hj
      exact upd_same
    · rw [List.getElem?_set_ne e] at hj
      have hne : c.2.1 ≠ a := S.ne (t := c.1) (o := c.2.2) j i hj h (Ne.symm e)
      rw [upd_ne hne]
      exact S.rd c (List.mem_of_getElem? hj)
  · have nb : b ≠ a := fun z => by
      rw [z] at e m
      rcases hw with k | k
      · rw [k] at e; cases e
      · exact m k
    rw [upd_ne nb]
    exact S.fr b u e m
  · rcases List.mem_or_eq_of_mem_set hc with hc | rfl
    · exact S.wr c hc
    · exact fun e => S.wr (t, a, o) (List.mem_of_getElem? h) e
  · rcases List.mem_or_eq_of_mem_set hc with hc | rfl
    · exact S.nw c hc
    · exact fun e => S.nw (t, a, o) (List.mem_of_getElem? h) e
  · obtain ⟨u, hu⟩ := S.ex b m
    by_cases e : b = a
    · subst e; exact ⟨_, upd_same⟩
    · exact ⟨u, by rw [upd_ne e]; exact hu⟩
/-- behind a call that changes nothing that was -/
theorem Sep.stay (S : Sep H0 ft H l) (F : ∀ b o, H b = some o → H' b = some o) : Sep H0 ft H' l :=
  ⟨S.nd, fun c hc => F _ _ (S.rd c hc), fun b o e m => F b o (S.fr b o e m), S.wr, S.nw, fun b m => let ⟨u, hu⟩ := S.ex b m; ⟨u, F b u hu⟩⟩
/-- behind a call that changes the i-th cell alone -/
theorem Sep.chg1 (S : Sep H0 ft H l) (i : Nat) (h : l[i]? = some (t, a, o)) (F : ∀ b u, H b = some u → b ≠ a → H' b = some u) (e : H' a = some o') (ht : t = 1 ∨ t = 2 := by first | exact .inl rfl | exact .inr rfl) :
    Sep H0 ft H' (l.set i (t, a, o')) := by
  have S1 := S.put i o' h ht
  refine S1.stay fun b u hb => ?_
  by_cases z : b = a
  · subst z; rw [upd_same] at hb; cases hb; exact e
  · rw [upd_ne z] at hb; exact F b u hb z
theorem Sep.chg2 {t' : Nat} {o2 o2' : HO} (S : Sep H0 ft H l) (i j : Nat) (h : l[i]? = some (t, a, o)) (h' : l[j]? = some (t', b, o2)) (d : i ≠ j) (F : ∀ c u, H c = some u → c ≠ a → c ≠ b → H' c = some u) (e : H' a = some o') (e2 : H' b = some o2')
    (ht : t = 1 ∨ t = 2 := by first | exact .inl rfl | exact .inr rfl) (ht' : t' = 1 ∨ t' = 2 := by first | exact .inl rfl | exact .inr rfl) : Sep H0 ft H' ((l.set i (t, a, o')).set j (t', b, o2')) := by
  have S1 := S.put i o' h ht
  have nab : a ≠ b := S.ne i j h h' d
  refine S1.chg1 j (by rw [List.getElem?_set_ne d]; exact h') (fun c u hc z => ?_) e2 ht'
  by_cases w : c = a
  · subst w; rw [upd_same] at hc; cases hc; exact e
  · rw [upd_ne w] at hc; exact F c u hc w z
theorem nodup_of {α : Type} (l : List α) (is : List Nat) : is.Nodup → l.Nodup → (is.filterMap (l[·]?)).Nodup := by
  intro h1 h2
  induction is with
  | nil => exact List.nodup_nil
  | cons i r ih =>
    obtain ⟨n1, n2⟩ := List.nodup_cons.mp h1
    cases e : l[i]? with
    | none => rw [List.filterMap_cons_none e]; exact ih n2
    | some x =>
      rw [List.filterMap_cons_some e]
      refine List.nodup_cons.mpr ⟨fun m => ?_, ih n2⟩
      obtain ⟨j, hj, ej⟩ := List.mem_filterMap.mp m
      obtain ⟨x1, e1⟩ := List.getElem?_eq_some_iff.mp e
      obtain ⟨x2, e2⟩ := List.getElem?_eq_some_iff.mp ej
      have := (List.getElem_inj h2).mp (e1.trans e2.symm)
      subst this
      exact n1 hj
/-- some of the cells, in another order -/
theorem Sep.sub (S : Sep H0 ft H l) (is : List Nat) (hn : is.Nodup := by decide) : Sep H0 ft H (is.filterMap (l[·]?)) := by
  have hm : ∀ c ∈ is.filterMap (l[·]?), c ∈ l := fun c hc => by
    obtain ⟨j, _, ej⟩ := List.mem_filterMap.mp hc
    exact List.mem_of_getElem? ej
  refine ⟨?_, fun c hc => S.rd c (hm c hc), S.fr, fun c hc => S.wr c (hm c hc), fun c hc => S.nw c (hm c hc), S.ex⟩
  have : (is.filterMap (l[·]?)).map (·.2.1) = is.filterMap ((l.map (·.2.1))[·]?) := by
    rw [List.map_filterMap]
    congr 1
    funext i
    rw [List.getElem?_map]
  rw [this]
  exact nodup_of _ is hn S.nd
theorem Sep.sq {K : PySem.W.Frag} {xs : List V} (S : Sep H0 ft H l) (h : SqL K H0 a xs) (ha : a ∉ ft) : SqL K H a xs := by
  rcases h with (h | ⟨o, h⟩) | h
  · exact .inl (.inl (S.fr _ _ h ha))
  · exact .inl (.inr ⟨o, S.fr _ _ h ha⟩)
  · exact .inr h
theorem Sep.sl {K : PySem.W.Frag} {xs : List V} (S : Sep H0 ft H l) (i : Nat) (h : l[i]? = some (t, a, .lst xs)) : SqL K H a xs := .of (S.get i h)
theorem Sep.st {K : PySem.W.Frag} {xs : List V} (S : Sep H0 ft H l) (i : Nat) (h : l[i]? = some (t, a, .tup xs)) : SqT K H a xs := .of (S.get i h)
theorem Sep.of0 : Sep H [] H [] := Sep.nil fun _ h => (nomatch h)
theorem Sep.of1 (h : H a = some o) : Sep H [a] H [(1, a, o)] := (Sep.nil fun b m => by rw [List.mem_singleton.mp m]; exact ⟨o, h⟩).add 1 h (fun _ z => nomatch z) (fun _ => List.mem_singleton_self a) (fun z => by cases z)
theorem Sep.of2 (h : H a = some o) (h' : H b = some u) (n : a ≠ b) : Sep H [a, b] H [(1, a, o), (1, b, u)] :=
  ((Sep.nil fun c m => (List.mem_cons.mp m).elim (fun e => by rw [e]; exact ⟨_, h⟩) fun m => by rw [List.mem_singleton.mp m]; exact ⟨_, h'⟩).add 1 h' (fun _ z => nomatch z) (fun _ => by simp) (fun z => by cases z)).add 1 h (fun c hc => by rw [List.mem_singleton.mp hc]; exact n.symm) (fun _ => by simp) (fun z => by cases z)
theorem Sep.out (S : Sep H0 ft H l) : ∀ b o, H0 b = some o → b ∉ ft → H b = some o := S.fr
theorem Sep.out1 (S : Sep H0 [a] H l) : ∀ b o, H0 b = some o → b ≠ a → H b = some o := fun b o e n => S.fr b o e (by simp [n])
theorem Sep.out2 (S : Sep H0 [a, b] H l) : ∀ c o, H0 c = some o → c ≠ a → c ≠ b → H c = some o := fun c o e n m => S.fr c o e (by simp [n, m])
end
/-! ### steps: what a reading asks, answered over the cells -/
section
variable {H0 H : Hp} {ft : List Addr} {l : List Cell} {t : Nat} {a p : Addr} {o : HO} {K : PySem.W.Frag} {σ : L2.St} {Q : VK} {v x y : V} {i j : Int}
theorem x_var {n : Nat} (h : σ[n]? = some (some v)) (q : Q v H) : tVar n σ H Q := ⟨v, h, q⟩
theorem x_ixF {xs : List V} (S : Sep H0 ft H l) (n : Nat) (h : l[n]? = some (t, p, .lst xs)) (ha : atI xs i = some v) (q : Q v H) : rIxL K (.ref p) (.int i) H Q := ⟨p, xs, i, v, rfl, rfl, S.sl n h, ha, q⟩
theorem x_ixT {xs : List V} (S : Sep H0 ft H l) (n : Nat) (h : l[n]? = some (t, p, .tup xs)) (ha : atI xs i = some v) (q : Q v H) : rIxT K (.ref p) (.int i) H Q := ⟨p, xs, i, v, rfl, rfl, S.st n h, ha, q⟩
theorem at_map {α : Type} {f : α → V} {cs : List α} {i : Int} (h0 : 0 ≤ i) (h : i < cs.length) : ∃ c, cs[i.toNat]? = some c ∧ atI (cs.map f) i = some (f c) := by
  have hl : i.toNat < cs.length := by omega
  refine ⟨cs[i.toNat], List.getElem?_eq_getElem hl, ?_⟩
  have e : ((i.toNat : Nat) : Int) = i := by omega
  have := atI_nat (xs := cs.map f) (j := i.toNat) (v := f cs[i.toNat]) (by rw [List.getElem?_map, List.getElem?_eq_getElem hl]; rfl)
  rw [e] at this
  exact this
theorem x_ixI {cs : List Int} (S : Sep H0 ft H l) (n : Nat) (h : l[n]? = some (t, p, .lst (cs.map V.int))) (h0 : 0 ≤ i) (h1 : i < cs.length) (q : ∀ c, cs[i.toNat]? = some c → Q (.int c) H) : rIxL K (.ref p) (.int i) H Q := by
  obtain ⟨c, hc, ha⟩ := at_map (f := V.int) h0 h1
  exact ⟨p, _, i, _, rfl, rfl, S.sl n h, ha, q c hc⟩
theorem x_ixS {cs : List Int} (hs : SqL K H p (cs.map V.int)) (h0 : 0 ≤ i) (h1 : i < cs.length) (q : ∀ c, cs[i.toNat]? = some c → Q (.int c) H) : rIxL K (.ref p) (.int i) H Q := by
  obtain ⟨c, hc, ha⟩ := at_map (f := V.int) h0 h1
  exact ⟨p, _, i, _, rfl, rfl, hs, ha, q c hc⟩
theorem x_setL {xs : List V} {k : Nat} {Qd : Hp → Prop} (S : Sep H0 ft H l) (n : Nat) (h : l[n]? = some (t, p, .lst xs)) (hj : ixN xs.length i = some k) (q : ∀ H', Sep H0 ft H' (l.set n (t, p, .lst (xs.set k v))) → Qd H')
    (ht : t = 1 ∨ t = 2 := by first | exact .inl rfl | exact .inr rfl) : rSetL (.ref p) (.int i) v H Qd := ⟨p, xs, i, k, rfl, rfl, S.get n h, hj, q _ (S.put n _ h ht)⟩
theorem ixN_in {n : Nat} (h0 : 0 ≤ i) (h : i < n) : ixN n i = some i.toNat := by unfold ixN; rw [if_pos h0, if_pos h]
theorem x_setI {cs : List Int} {Qd : Hp → Prop} (S : Sep H0 ft H l) (n : Nat) (h : l[n]? = some (t, p, .lst (cs.map V.int))) (h0 : 0 ≤ i) (h1 : i < cs.length) (q : ∀ H', Sep H0 ft H' (l.set n (t, p, .lst ((cs.set i.toNat j).map V.int))) → Qd H')
    (ht : t = 1 ∨ t = 2 := by first | exact .inl rfl | exact .inr rfl) : rSetL (.ref p) (.int i) (.int j) H Qd := by
  refine ⟨p, _, i, i.toNat, rfl, rfl, S.get n h, ixN_in h0 (by rw [List.length_map]; exact h1), ?_⟩
  have := S.put n (.lst ((cs.map V.int).set i.toNat (.int j))) h ht
  rw [← List.map_set] at this ⊢
  exact q _ this
def rLen (K : PySem.W.Frag) : List V → Hp → VK → Prop := fun xs H Q => ∃ p ys, xs = [.ref p] ∧ (SqL K H p ys ∨ SqT K H p ys) ∧ Q (.int ys.length) H
theorem cl_len {X : Cx} : CallR X (.builtin "len") (rLen X.K) := call_len_seq
theorem x_len {xs : List V} (S : Sep H0 ft H l) (n : Nat) (h : l[n]? = some (t, p, .lst xs)) (q : Q (.int xs.length) H) : rLen K [.ref p] H Q := ⟨p, xs, rfl, .inl (S.sl n h), q⟩
theorem x_lenI {cs : List Int} (S : Sep H0 ft H l) (n : Nat) (h : l[n]? = some (t, p, .lst (cs.map V.int))) (q : Q (.int cs.length) H) : rLen K [.ref p] H Q := ⟨p, _, rfl, .inl (S.sl n h), by rw [List.length_map]; exact q⟩
theorem x_lenT {xs : List V} (S : Sep H0 ft H l) (n : Nat) (h : l[n]? = some (t, p, .tup xs)) (q : Q (.int xs.length) H) : rLen K [.ref p] H Q := ⟨p, xs, rfl, .inr (S.st n h), q⟩
theorem x_lenS {cs : List Int} (hs : SqL K H p (cs.map V.int)) (q : Q (.int cs.length) H) : rLen K [.ref p] H Q := ⟨p, _, rfl, .inl hs, by rw [List.length_map]; exact q⟩
theorem x_I {C : Int → Int → Prop} {g : Int → Int → V} (c : C i j) (q : Q (g i j) H) : rI C g (.int i) (.int j) H Q := ⟨i, j, rfl, rfl, c, q⟩
theorem x_I0 {g : Int → Int → V} (q : Q (g i j) H) : rI0 g (.int i) (.int j) H Q := ⟨i, j, rfl, rfl, q⟩
theorem x_ip {f : Int → Int → Int} (q : Q (.int (f i j)) H) : ipI f (.int i) (.int j) H Q := ⟨i, j, rfl, rfl, q⟩
theorem x_U {g : Int → V} (q : Q (g i) H) : rU g (.int i) H Q := ⟨i, rfl, q⟩
theorem x_eq (q : Q (.bl (decide (x = y))) H) (s : scal x y = true := by rfl) : rEq x y H Q := ⟨s, q⟩
theorem x_ne (q : Q (.bl (!decide (x = y))) H) (s : scal x y = true := by rfl) : rNe x y H Q := ⟨s, q⟩
theorem x_bl {b : Bool} {R : Bool → Hp → Prop} (q : R b H) : ∃ k, V.bl b = .bl k ∧ R k H := ⟨b, rfl, q⟩
/-- a new object -/
theorem x_new (S : Sep H0 ft H l) (o : HO) {R : Addr → Hp → Prop} (q : ∀ p H', Sep H0 ft H' ((2, p, o) :: l) → R p H') : ∀ p, H p = none → R p (upd H p o) := fun p hp => q p _ (S.new hp o)
end
/-! ### more steps -/
section
variable {H0 H : Hp} {ft : List Addr} {l : List Cell} {t : Nat} {a p : Addr} {o : HO} {K : PySem.W.Frag} {σ : L2.St} {Q : VK} {v x y : V} {i j : Int}
theorem div_ok (h : 0 < j) (h2 : j < 2 ^ 200) : CDivW i j := wide_div (b := 200) h (by omega) (by decide) (by decide)
theorem x_if {tc : TT} {t u : TS} {D : Ends} (h : tc σ H fun b H1 => if b = true then t D σ H1 else u D σ H1) : tIfS tc t u D σ H := h
def ForJ (J : It) (g : TG) (tb : TS) (D : Ends) (σ : L2.St) (H : Hp) : Prop := ∃ W : Nat → Nat → L2.St → Hp → Prop, (∃ m, W 0 m σ H) ∧ ∀ i m σ H, W i m σ H →
  (J.stop i H ∧ D.nx σ H) ∨ (J.go i H ∧ ∃ N : L2.St → Hp → Prop, (∀ σ' H', N σ' H' → ∃ m', m' < m ∧ W (i + 1) m' σ' H') ∧ ∀ x H', J.yld i H x H' → g x σ H' fun σ2 H2 => tb { D with nx := N, ct := N, bk := D.nx } σ2 H2)
theorem x_for {wi : TI} {g : TG} {tb : TS} {D : Ends} (h : wi σ H fun J H1 => ForJ J g tb D σ H1) : tFor wi g tb D σ H := h
theorem forR {lo : Int} {n : Nat} {g : TG} {tb : TS} {D : Ends} (Pv : Nat → L2.St → Hp → Prop) (h0 : Pv 0 σ H)
    (hs : ∀ i σ H, i < n → Pv i σ H → g (.int (lo + i)) σ H fun σ2 H2 => tb { D with nx := Pv (i + 1), ct := Pv (i + 1), bk := D.nx } σ2 H2) (hd : ∀ σ H, Pv n σ H → D.nx σ H) : ForJ (Itr lo n) g tb D σ H := for_range Pv h0 hs hd
theorem forL {xs : List V} {g : TG} {tb : TS} {D : Ends} (Pv : Nat → L2.St → Hp → Prop) (h0 : Pv 0 σ H) (hl : ∀ i σ H, i ≤ xs.length → Pv i σ H → SqL K H a xs)
    (hs : ∀ i x σ H, xs[i]? = some x → Pv i σ H → g x σ H fun σ2 H2 => tb { D with nx := Pv (i + 1), ct := Pv (i + 1), bk := D.nx } σ2 H2) (hd : ∀ σ H, Pv xs.length σ H → D.nx σ H) : ForJ (Itl K a) g tb D σ H := for_list Pv h0 hl hs hd
def LcJ (J : It) (g : TG) (tt : TT) (te : TE) (vs : List Nat) (σ : L2.St) (H1 : Hp) (Q : VK) : Prop := ∀ D, H1 D = none → ∃ W : Nat → Nat → Hp → Prop, (∃ m, W 0 m (upd H1 D (.lst []))) ∧ ∀ i m H, W i m H →
  (J.stop i H ∧ Q (.ref D) H) ∨ (J.go i H ∧ ∃ Nx : Hp → Prop, (∀ H', Nx H' → ∃ m', m' < m ∧ W (i + 1) m' H') ∧ ∀ x H', J.yld i H x H' → g x (wipe σ vs) H' fun σ2 H2 => wipe σ2 vs = wipe σ vs ∧ tt σ2 H2 fun b H3 =>
    if b = true then te σ2 H3 fun y H4 => ∃ acc, H4 D = some (.lst acc) ∧ acc.length < sizeLine ∧ Nx (upd H4 D (.lst (acc ++ [y]))) else Nx H3)
theorem x_lc {wi : TI} {g : TG} {tt : TT} {te : TE} {vs : List Nat} (h : wi σ H fun J H1 => LcJ J g tt te vs σ H1 Q) : tLc wi g tt te vs σ H Q := h
/-- what a turn hands on is put behind the new list -/
def rLcA (D : Addr) (y : V) (H : Hp) (R : Hp → Prop) : Prop := ∃ acc, H D = some (.lst acc) ∧ acc.length < sizeLine ∧ R (upd H D (.lst (acc ++ [y])))
theorem lcR {lo : Int} {n : Nat} {g : TG} {tt : TT} {te : TE} {vs : List Nat} (S : Sep H0 ft H l) (h : ∀ D H1, Sep H0 ft H1 ((2, D, .lst []) :: l) → ∃ Pv : Nat → Hp → Prop, Pv 0 H1 ∧
    (∀ i H, i < n → Pv i H → g (.int (lo + i)) (wipe σ vs) H fun σ2 H2 => wipe σ2 vs = wipe σ vs ∧ tt σ2 H2 fun b H3 => if b = true then te σ2 H3 fun y H4 => rLcA D y H4 (Pv (i + 1)) else Pv (i + 1) H3) ∧
    ∀ H, Pv n H → Q (.ref D) H) : LcJ (Itr lo n) g tt te vs σ H Q := fun D hD =>
  let ⟨Pv, h0, hs, hd⟩ := h D _ (S.new hD (.lst []))
  lc_range (H1 := H) Pv h0 hs hd
theorem lcL {xs : List V} {g : TG} {tt : TT} {te : TE} {vs : List Nat} (S : Sep H0 ft H l) (h : ∀ D H1, Sep H0 ft H1 ((2, D, .lst []) :: l) → ∃ Pv : Nat → Hp → Prop, Pv 0 H1 ∧ (∀ i H, i ≤ xs.length → Pv i H → SqL K H a xs) ∧
    (∀ i x H, xs[i]? = some x → Pv i H → g x (wipe σ vs) H fun σ2 H2 => wipe σ2 vs = wipe σ vs ∧ tt σ2 H2 fun b H3 => if b = true then te σ2 H3 fun y H4 => rLcA D y H4 (Pv (i + 1)) else Pv (i + 1) H3) ∧
    ∀ H, Pv xs.length H → Q (.ref D) H) : LcJ (Itl K a) g tt te vs σ H Q := fun D hD =>
  let ⟨Pv, h0, hl, hs, hd⟩ := h D _ (S.new hD (.lst []))
  lc_list (H1 := H) Pv h0 hl hs hd
theorem x_lcapp {xs : List V} {R : Hp → Prop} (S : Sep H0 ft H l) (n : Nat) (h : l[n]? = some (t, p, .lst xs)) (hl : xs.length < 100000) (q : ∀ H', Sep H0 ft H' (l.set n (t, p, .lst (xs ++ [v]))) → R H') (ht : t = 1 ∨ t = 2 := by first | exact .inl rfl | exact .inr rfl) :
    rLcA p v H R := ⟨xs, S.get n h, Nat.lt_of_lt_of_le hl (by decide), q _ (S.put n _ h ht)⟩
theorem x_lcappI {cs : List Int} {R : Hp → Prop} (S : Sep H0 ft H l) (n : Nat) (h : l[n]? = some (t, p, .lst (cs.map V.int))) (hl : cs.length < 100000) (q : ∀ H', Sep H0 ft H' (l.set n (t, p, .lst ((cs ++ [i]).map V.int))) → R H') (ht : t = 1 ∨ t = 2 := by first | exact .inl rfl | exact .inr rfl) :
    rLcA p (.int i) H R := x_lcapp S n h (by rw [List.length_map]; exact hl) (fun H' S' => q H' (by rw [List.map_append]; exact S')) ht
theorem elem_of {α : Type} {f : α → V} {xs : List α} {n : Nat} {y : V} (h : (xs.map f)[n]? = some y) : ∃ z, xs[n]? = some z ∧ y = f z := by
  rw [List.getElem?_map] at h
  cases e : xs[n]? with
  | none => rw [e] at h; cases h
  | some z => rw [e] at h; exact ⟨z, rfl, (Option.some.inj h).symm⟩
theorem filter_snoc_pos {α : Type} {p : α → Bool} {xs : List α} {z : α} (h : p z = true) : xs.filter p ++ [z] = (xs ++ [z]).filter p := by rw [List.filter_append, List.filter_cons_of_pos h, List.filter_nil]
theorem filter_snoc_neg {α : Type} {p : α → Bool} {xs : List α} {z : α} (h : p z = false) : xs.filter p = (xs ++ [z]).filter p := by rw [List.filter_append, List.filter_cons_of_neg (by rw [h]; exact Bool.false_ne_true), List.filter_nil, List.append_nil]
theorem take_snoc {α : Type} {xs : List α} {n : Nat} {z : α} (h : xs[n]? = some z) : xs.take (n + 1) = xs.take n ++ [z] := by rw [List.take_add_one, h]; rfl
theorem lt_of_get {α : Type} {xs : List α} {n : Nat} {z : α} (h : xs[n]? = some z) : n < xs.length := (List.getElem?_eq_some_iff.mp h).1
theorem x_ifE {tt : TT} {ta tb : TE} (h : tt σ H fun c H1 => if c = true then ta σ H1 Q else tb σ H1 Q) : tIf tt ta tb σ H Q := h
/-- what follows a value is shown once -/
theorem x_ifx {tt : TT} {ta tb : TE} (R : V → Hp → Prop) (k : ∀ v H', R v H' → Q v H') (h : (∀ v H', R v H' → Q v H') → tIf tt ta tb σ H Q) : tIf tt ta tb σ H Q := h k
/-- what follows an if is shown once -/
theorem x_ifS {tc : TT} {t u : TS} {D : Ends} (R : L2.St → Hp → Prop) (k : ∀ σ H', R σ H' → D.nx σ H') (h : (∀ σ H', R σ H' → D.nx σ H') → tIfS tc t u D σ H) : tIfS tc t u D σ H := h k
theorem x_andV {ta tb : TE} (h : ta σ H fun x H1 => ∃ c, x = .bl c ∧ if c = true then tb σ H1 Q else Q (.bl false) H1) : tAndV ta tb σ H Q := h
theorem x_orV {ta tb : TE} (h : ta σ H fun x H1 => ∃ c, x = .bl c ∧ if c = true then Q (.bl true) H1 else tb σ H1 Q) : tOrV ta tb σ H Q := h
theorem x_and {t u : TT} {R : Bool → Hp → Prop} (h : t σ H fun c H1 => if c = true then u σ H1 R else R false H1) : tAnd t u σ H R := h
theorem x_or {t u : TT} {R : Bool → Hp → Prop} (h : t σ H fun c H1 => if c = true then R true H1 else u σ H1 R) : tOr t u σ H R := h
theorem x_turn {G : L2.St → Hp → Prop} {R : (L2.St → Hp → Prop) → Prop} (h : R G) : ∃ N : L2.St → Hp → Prop, (∀ σ' H', N σ' H' → G σ' H') ∧ R N := ⟨_, fun _ _ z => z, h⟩
theorem x_while {tc : TT} {tb : TS} {D : Ends} (W : Nat → L2.St → Hp → Prop) (m : Nat) (w : W m σ H) (h : ∀ m σ H, W m σ H → tc σ H fun b H1 => if b = true then ∃ N : L2.St → Hp → Prop, (∀ σ' H', N σ' H' → ∃ m', m' < m ∧ W m' σ' H') ∧ tb { D with nx := N, ct := N, bk := D.nx } σ H1 else D.nx σ H1) :
    tWhile tc tb D σ H := ⟨W, ⟨m, w⟩, h⟩
theorem x_part {R : Option Int → Hp → Prop} (q : R (some i) H) : ∃ j, V.int i = .int j ∧ R (some j) H := ⟨i, rfl, q⟩
theorem x_slL {xs : List V} {lo hi : Option Int} (S : Sep H0 ft H l) (n : Nat) (h : l[n]? = some (t, p, .lst xs)) (q : ∀ r H', Sep H0 ft H' ((2, r, .lst (cutV xs lo hi)) :: l) → Q (.ref r) H') : rSlL K (.ref p) lo hi H Q := ⟨p, xs, rfl, S.sl n h, x_new S _ q⟩
/-- a slice of a list of ints -/
def cutI {α : Type} (xs : List α) (lo hi : Option Int) : List α := (xs.drop (HT.sIx xs.length 0 lo)).take (HT.sIx xs.length xs.length hi - HT.sIx xs.length 0 lo)
theorem cutV_map {α : Type} (f : α → V) (xs : List α) (lo hi : Option Int) : cutV (xs.map f) lo hi = (cutI xs lo hi).map f := by
  unfold cutV cutI
  rw [List.length_map, ← List.map_drop, ← List.map_take]
theorem x_slI {cs : List Int} {lo hi : Option Int} (S : Sep H0 ft H l) (n : Nat) (h : l[n]? = some (t, p, .lst (cs.map V.int))) (q : ∀ r H', Sep H0 ft H' ((2, r, .lst ((cutI cs lo hi).map V.int)) :: l) → Q (.ref r) H') : rSlL K (.ref p) lo hi H Q :=
  ⟨p, _, rfl, S.sl n h, by rw [cutV_map]; exact x_new S _ q⟩
theorem cutI_nat {α : Type} (xs : List α) {i j : Int} (h0 : 0 ≤ i) (h1 : i ≤ j) (h2 : j ≤ xs.length) : cutI xs (some i) (some j) = (xs.drop i.toNat).take (j.toNat - i.toNat) := by
  unfold cutI
  have e1 : i = (i.toNat : Int) := by omega
  have e2 : j = (j.toNat : Int) := by omega
  rw [e1, e2, HT.sIx_nat, HT.sIx_nat, Nat.min_eq_left (by omega), Nat.min_eq_left (by omega), Int.toNat_natCast, Int.toNat_natCast]
def rMax2 : List V → Hp → VK → Prop := fun xs H Q => ∃ i j, xs = [.int i, .int j] ∧ Q (.int (max i j)) H
def rMin2 : List V → Hp → VK → Prop := fun xs H Q => ∃ i j, xs = [.int i, .int j] ∧ Q (.int (min i j)) H
theorem cl_max {X : Cx} (hc : X.calm = true) : CallR X (.builtin "max") rMax2 := fun pins s σ H xs us Q I r ⟨i, j, e, q⟩ => call_max2 hc pins s σ H xs us Q I r ⟨i, j, e, by
  have : (if j > i then j else i) = max i j := by split <;> omega
  rw [this]; exact q⟩
theorem cl_min {X : Cx} (hc : X.calm = true) : CallR X (.builtin "min") rMin2 := fun pins s σ H xs us Q I r ⟨i, j, e, q⟩ => call_min2 hc pins s σ H xs us Q I r ⟨i, j, e, by
  have : (if j < i then j else i) = min i j := by split <;> omega
  rw [this]; exact q⟩
theorem x_max (q : Q (.int (max i j)) H) : rMax2 [.int i, .int j] H Q := ⟨i, j, rfl, q⟩
theorem x_min (q : Q (.int (min i j)) H) : rMin2 [.int i, .int j] H Q := ⟨i, j, rfl, q⟩
/-- what the rules ask, under names -/
def rIL (K : PySem.W.Frag) : V → Hp → (It → Hp → Prop) → Prop := fun x H R => ∃ a, x = .ref a ∧ (∃ xs, SqL K H a xs) ∧ R (Itl K a) H
def rIT (K : PySem.W.Frag) : V → Hp → (It → Hp → Prop) → Prop := fun x H R => ∃ a, x = .ref a ∧ (∃ xs, SqT K H a xs) ∧ R (Itt K a) H
def iList1 (K : PySem.W.Frag) (tl : TE) : TI := fun σ H R => tl σ H fun x H1 => rIL K x H1 R
def iTup1 (K : PySem.W.Frag) (tl : TE) : TI := fun σ H R => tl σ H fun x H1 => rIT K x H1 R
theorem pi_list1 {X : Cx} {tg e : Expr} {tl : TE} (h : PE X e tl) : PI X tg e (iList1 X.K tl) := pi_list h
theorem pi_tup1 {X : Cx} {tg e : Expr} {tl : TE} (h : PE X e tl) : PI X tg e (iTup1 X.K tl) := pi_tup h

def rLst : List V → Hp → VK → Prop := fun xs H Q => xs.length ≤ sizeLine ∧ ∀ p, H p = none → Q (.ref p) (upd H p (.lst xs))
def rTup : List V → Hp → VK → Prop := fun xs H Q => xs.length ≤ sizeLine ∧ ∀ p, H p = none → Q (.ref p) (upd H p (.tup xs))
theorem pe_lst1 {X : Cx} {es : List Expr} {t : TA} {pos : Pos} (h : PA X es t) : PE X (.List es pos) (tCB rLst t) := pe_lst h
theorem pe_tup1 {X : Cx} {es : List Expr} {t : TA} {pos : Pos} {x1} (h : PA X es t) : PE X (.Tuple es x1 pos) (tCB rTup t) := pe_tup h
def rFld (K : PySem.W.Frag) (f : Str) : V → Hp → VK → Prop := fun x H Q => ∃ a C dx fs v, x = .ref a ∧ H a = some (.ins C dx fs) ∧ Cls K C ∧ NoAttr K C f ∧ fs.lookup f = some v ∧ Q v H
def rFldA (K : PySem.W.Frag) (f : Str) : V → Hp → (Addr → Addr → V → Prop) → Prop := fun x H R => ∃ a C dx fs v, x = .ref a ∧ H a = some (.ins C dx fs) ∧ Cls K C ∧ NoAttr K C f ∧ fs.lookup f = some v ∧ R a C v
def rPutA (f : Str) (a C : Addr) : V → Hp → (Hp → Prop) → Prop := fun z H R => ∃ dx fs, H a = some (.ins C dx fs) ∧ fs.length < 1000 ∧ R (upd H a (.ins C dx (putF f z fs)))
def rSFld (K : PySem.W.Frag) (f : Str) : V → V → Hp → (Hp → Prop) → Prop := fun x y H R => ∃ a C dx fs, x = .ref a ∧ H a = some (.ins C dx fs) ∧ Cls K C ∧ NoAttr K C f ∧ fs.length < 1000 ∧ R (upd H a (.ins C dx (putF f y fs)))
def sFld1 (K : PySem.W.Frag) (ta tv : TE) (f : Str) : TS := fun D σ H => tv σ H fun y H1 => ta σ H1 fun x H2 => rSFld K f x y H2 fun H3 => D.nx σ H3
def sFldAug1 (K : PySem.W.Frag) (ta tv : TE) (rd : V → V → Hp → VK → Prop) (f : Str) : TS := fun D σ H => ta σ H fun x H1 => rFldA K f x H1 fun a C v => tv σ H1 fun y H2 => rd v y H2 fun z H3 => rPutA f a C z H3 fun H4 => D.nx σ H4
def rMe (C : Addr) (m : Str) : V → Hp → Prop → Prop := fun x H R => ∃ a dx fs, x = .ref a ∧ H a = some (.ins C dx fs) ∧ fs.lookup m = none ∧ R
def tMeth1 (C : Addr) (m : Str) (sp : Sp) (dvs : List V) (E : XK) (ta : TE) (t : TA) : TE := fun σ H Q => ta σ H fun x H1 => rMe C m x H1 (t σ H1 fun vs H2 => sp (x :: (vs ++ dvs)) H2 Q E)
def rDIn : V → V → Hp → VK → Prop := fun y x H Q => ∃ a o, x = .ref a ∧ DGet H a y o ∧ Q (.bl o.isSome) H
def rDNi : V → V → Hp → VK → Prop := fun y x H Q => ∃ a o, x = .ref a ∧ DGet H a y o ∧ Q (.bl (!o.isSome)) H
def rDGet : V → V → Hp → VK → Prop := fun x y H Q => ∃ a v, x = .ref a ∧ DGet H a y (some v) ∧ Q v H
def rDPut : V → V → V → Hp → (Hp → Prop) → Prop := fun x y v H R => ∃ a H4, x = .ref a ∧ DPut H a y v H4 ∧ R H4
def sDPut1 (td ty tv : TE) : TS := fun D σ H => tv σ H fun v H1 => td σ H1 fun x H2 => ty σ H2 fun y H3 => rDPut x y v H3 fun H4 => D.nx σ H4
def rDPop (a : Addr) : V → Hp → VK → Prop := fun y H Q => ∃ kvs k v, H a = some (.dK kvs) ∧ y = kV k ∧ valV kvs k = some v ∧ Q v (upd H a (.dK (dropK kvs k)))
def rIsD : V → Hp → (Addr → Prop) → Prop := fun x H R => ∃ a, x = .ref a ∧ IsD H a ∧ R a
def tDPop (td ty : TE) : TE := fun σ H Q => td σ H fun x H1 => rIsD x H1 fun a => ty σ H1 fun y H2 => rDPop a y H2 Q
section
variable {X : Cx} {CX : CXT} {k j : Nat} {C : Addr} {f m : Str} {sp : Sp} {E : XK} {p pos pos' apos tpos cpos : Pos} {e i value : Expr} {es : List Expr} {td ty tv : TE} {ta : TE} {t : TA}
theorem pe_fld1 (he : PE X e ta) (hb : attributeBase e f X.env (eval e X.env) = eval e X.env) : PE X (.Attribute e f pos) (tUn (rFld X.K f) ta) := pe_fld he hb
theorem ps_fld1 (ha : PE X e ta) (hv : PE X value tv) (hs : swapsWith value (some (.Attribute e f pos')) pos.line X.env = pure false) : PS X (.Assign [.Attribute e f pos'] value pos) (sFld1 X.K ta tv f) := ps_fld ha hv hs
theorem ps_fldaug1 {op : Operator} {rd : V → V → Hp → VK → Prop} (ha : PE X e ta) (hv : PE X value tv) (hop : InOp X op rd) : PS X (.AugAssign (.Attribute e f tpos) op value pos) (sFldAug1 X.K ta tv rd f) := ps_fldaug ha hv hop
theorem pc_din1 (hu : X.A.units + 1 < cLine) (hi : PE X i ty) (ho : PE X e td) : PC X .In i e (tOp rDIn ty td) := pc_din hu hi ho
theorem pc_dni1 (hu : X.A.units + 1 < cLine) (hi : PE X i ty) (ho : PE X e td) : PC X .NotIn i e (tOp rDNi ty td) := pc_dnotin hu hi ho
theorem pe_dget1v (hu : X.A.units + 1 < cLine) (ho : PE X e td) (hi : PE X i ty) (hs : NoSl i) : PE X (.Subscript e i pos) (tOp rDGet td ty) := pe_dget hu ho hi hs
theorem ps_dput1 (hu : X.A.units + 1 < cLine) (ho : PE X e td) (hi : PE X i ty) (hv : PE X value tv) (hs : swapsWith value (some (.Subscript e i pos')) pos.line X.env = pure false) : PS X (.Assign [.Subscript e i pos'] value pos) (sDPut1 td ty tv) := ps_dput hu ho hi hv hs
theorem pe_dpop (ho : PE X e td) (he : PE X i ty) (m : M1 X e "pop" apos i cpos) : PE X (.Call (.Attribute e "pop" apos) [i] [] cpos) (tDPop td ty) := pe_dpop1 ho he m
end
theorem x_lst {xs : List V} (S : Sep H0 ft H l) (hl : xs.length ≤ 100000) (q : ∀ p H', Sep H0 ft H' ((2, p, .lst xs) :: l) → Q (.ref p) H') : rLst xs H Q := ⟨Nat.le_trans hl (by decide), x_new S _ q⟩
theorem x_tup {xs : List V} (S : Sep H0 ft H l) (hl : xs.length ≤ 100000) (q : ∀ p H', Sep H0 ft H' ((2, p, .tup xs) :: l) → Q (.ref p) H') : rTup xs H Q := ⟨Nat.le_trans hl (by decide), x_new S _ q⟩
theorem x_dnew (S : Sep H0 ft H l) (q : ∀ p H', Sep H0 ft H' ((2, p, .dK []) :: l) → Q (.ref p) H') : tDNewK σ H Q := x_new S _ q
def rListOf (K : PySem.W.Frag) : List V → Hp → VK → Prop := fun xs H Q => ∃ p ys, xs = [.ref p] ∧ (SqL K H p ys ∨ SqT K H p ys) ∧ ∀ l, H l = none → Q (.ref l) (upd H l (.lst ys))
theorem cl_list {X : Cx} : CallR X (.type "list") (rListOf X.K) := call_list_of
theorem x_listS {xs : List V} (S : Sep H0 ft H l) (hs : SqL K H p xs) (q : ∀ r H', Sep H0 ft H' ((2, r, .lst xs) :: l) → Q (.ref r) H') : rListOf K [.ref p] H Q := ⟨p, xs, rfl, .inl hs, x_new S _ q⟩
/-- isinstance -/
theorem x_isi {A B : String} {b : Bool} (ty : TyX K H x (.type A)) (h : kitB A B = some b) (q : Q (.bl b) H) : rIsi K [x, .ty B] H Q := ⟨x, .ty B, .type A, .type B, b, rfl, .ty B, ty, kit_ty h, q⟩
theorem cl_isiK {X : Cx} (K : PySem.W.Frag) (h : X.K = K := by rfl) : CallR X (.builtin "isinstance") (rIsi K) := by subst h; exact call_isi
theorem ty_int : TyX K H (.int i) (.type "int") := .base (.int i)
theorem ty_bl {b : Bool} : TyX K H (.bl b) (.type "bool") := .base (.bl b)
theorem ty_str {z : Str} : TyX K H (.str z) (.type "str") := .base (.str z)
theorem ty_non : TyX K H .non (.type "NoneType") := .base .non
theorem ty_tup {xs : List V} (S : Sep H0 ft H l) (n : Nat) (h : l[n]? = some (t, p, .tup xs)) : TyX K H (.ref p) (.type "tuple") := .base (.tup (S.get n h))
theorem ty_lst {xs : List V} (S : Sep H0 ft H l) (n : Nat) (h : l[n]? = some (t, p, .lst xs)) : TyX K H (.ref p) (.type "list") := .base (.lst (S.get n h))
theorem ty_dK {kvs : List (Key × V)} (S : Sep H0 ft H l) (n : Nat) (h : l[n]? = some (t, p, .dK kvs)) : TyX K H (.ref p) (.type "dict") := .base (.dK (S.get n h))
theorem ki_int_int : kitB "int" "int" = some true := by decide +kernel
theorem ki_int_bool : kitB "int" "bool" = some false := by decide +kernel
theorem ki_int_str : kitB "int" "str" = some false := by decide +kernel
theorem ki_int_tuple : kitB "int" "tuple" = some false := by decide +kernel
theorem ki_bool_bool : kitB "bool" "bool" = some true := by decide +kernel
theorem ki_bool_int : kitB "bool" "int" = some true := by decide +kernel
theorem ki_tuple_tuple : kitB "tuple" "tuple" = some true := by decide +kernel
theorem ki_list_list : kitB "list" "list" = some true := by decide +kernel
theorem ki_dict_dict : kitB "dict" "dict" = some true := by decide +kernel
theorem ki_str_str : kitB "str" "str" = some true := by decide +kernel
theorem ki_str_int : kitB "str" "int" = some false := by decide +kernel
theorem ki_NoneType_int : kitB "NoneType" "int" = some false := by decide +kernel
/-! the rules over the written part K, said -/
section
variable {X : Cx} {e : Expr} {tl : TE} {tg : Expr} {f : Str} {pos : Pos}
theorem cl_lenK (K : PySem.W.Frag) (h : X.K = K := by rfl) : CallR X (.builtin "len") (rLen K) := by subst h; exact cl_len
theorem cl_listK (K : PySem.W.Frag) (h : X.K = K := by rfl) : CallR X (.type "list") (rListOf K) := by subst h; exact cl_list
theorem ix_listK (K : PySem.W.Frag) (h : X.K = K := by rfl) : IxR X (rIxL K) := by subst h; exact ix_list
theorem ix_tupK (K : PySem.W.Frag) (h : X.K = K := by rfl) : IxR X (rIxT K) := by subst h; exact ix_tup
theorem sl_listK (K : PySem.W.Frag) (h : X.K = K := by rfl) : SlR X (rSlL K) := by subst h; exact sl_list
theorem sl_tupK (K : PySem.W.Frag) (h : X.K = K := by rfl) : SlR X (rSlT K) := by subst h; exact sl_tup
theorem op_eqDK (K : PySem.W.Frag) (hu : X.A.units + 64 < cLine) (h : X.K = K := by rfl) : OpR X (compareOp .Eq) (rEqD K) := by subst h; exact op_eqD hu
theorem op_neDK (K : PySem.W.Frag) (hu : X.A.units + 64 < cLine) (h : X.K = K := by rfl) : OpR X (compareOp .NotEq) (rNeD K) := by subst h; exact op_neD hu
theorem pe_fldK (K : PySem.W.Frag) (he : PE X e tl) (hb : attributeBase e f X.env (eval e X.env) = eval e X.env := by rfl) (h : X.K = K := by rfl) : PE X (.Attribute e f pos) (tUn (rFld K f) tl) := by subst h; exact pe_fld1 he hb
theorem pi_listK (K : PySem.W.Frag) (he : PE X e tl) (h : X.K = K := by rfl) : PI X tg e (iList1 K tl) := by subst h; exact pi_list1 he
theorem pi_tupK (K : PySem.W.Frag) (he : PE X e tl) (h : X.K = K := by rfl) : PI X tg e (iTup1 K tl) := by subst h; exact pi_tup1 he
end
theorem x_ilist {xs : List V} {R : It → Hp → Prop} (S : Sep H0 ft H l) (n : Nat) (h : l[n]? = some (t, p, .lst xs)) (q : R (Itl K p) H) : rIL K (.ref p) H R := ⟨p, rfl, ⟨xs, S.sl n h⟩, q⟩
theorem x_itup {xs : List V} {R : It → Hp → Prop} (S : Sep H0 ft H l) (n : Nat) (h : l[n]? = some (t, p, .tup xs)) (q : R (Itt K p) H) : rIT K (.ref p) H R := ⟨p, rfl, ⟨xs, S.st n h⟩, q⟩
/-- dicts -/
theorem x_din {kvs : List (Key × V)} {k : Key} (S : Sep H0 ft H l) (n : Nat) (h : l[n]? = some (t, p, .dK kvs)) (q : Q (.bl (valV kvs k).isSome) H) : rDIn (kV k) (.ref p) H Q := ⟨p, _, rfl, DGet.k (S.get n h), q⟩
theorem x_dni {kvs : List (Key × V)} {k : Key} (S : Sep H0 ft H l) (n : Nat) (h : l[n]? = some (t, p, .dK kvs)) (q : Q (.bl (!(valV kvs k).isSome)) H) : rDNi (kV k) (.ref p) H Q := ⟨p, _, rfl, DGet.k (S.get n h), q⟩
theorem x_dget {kvs : List (Key × V)} {k : Key} (S : Sep H0 ft H l) (n : Nat) (h : l[n]? = some (t, p, .dK kvs)) (hv : valV kvs k = some v) (q : Q v H) : rDGet (.ref p) (kV k) H Q := ⟨p, v, rfl, by rw [← hv]; exact DGet.k (S.get n h), q⟩
theorem x_dput {kvs : List (Key × V)} {k : Key} {R : Hp → Prop} (S : Sep H0 ft H l) (n : Nat) (h : l[n]? = some (t, p, .dK kvs)) (hl : kvs.length < 100000) (q : ∀ H', Sep H0 ft H' (l.set n (t, p, .dK (putK kvs k v))) → R H')
    (ht : t = 1 ∨ t = 2 := by first | exact .inl rfl | exact .inr rfl) : rDPut (.ref p) (kV k) v H R := ⟨p, _, rfl, DPut.k (S.get n h) (Nat.lt_of_lt_of_le hl (by decide)), q _ (S.put n _ h ht)⟩
theorem x_isD {kvs : List (Key × V)} {R : Addr → Prop} (S : Sep H0 ft H l) (n : Nat) (h : l[n]? = some (t, p, .dK kvs)) (q : R p) : rIsD (.ref p) H R := ⟨p, rfl, .inl ⟨_, .inl (S.get n h)⟩, q⟩
theorem x_dpop {kvs : List (Key × V)} {k : Key} (S : Sep H0 ft H l) (n : Nat) (h : l[n]? = some (t, p, .dK kvs)) (hv : valV kvs k = some v) (q : ∀ H', Sep H0 ft H' (l.set n (t, p, .dK (dropK kvs k))) → Q v H')
    (ht : t = 1 ∨ t = 2 := by first | exact .inl rfl | exact .inr rfl) : rDPop p (kV k) H Q := ⟨kvs, k, v, S.get n h, rfl, hv, q _ (S.put n _ h ht)⟩
/-- fields -/
theorem x_fld {C dx : Addr} {fs : List (Str × V)} {f : Str} (S : Sep H0 ft H l) (n : Nat) (h : l[n]? = some (t, p, .ins C dx fs)) (c : Cls K C) (na : NoAttr K C f) (hf : fs.lookup f = some v) (q : Q v H) : rFld K f (.ref p) H Q := ⟨p, C, dx, fs, v, rfl, S.get n h, c, na, hf, q⟩
theorem x_fldA {C dx : Addr} {fs : List (Str × V)} {f : Str} {R : Addr → Addr → V → Prop} (S : Sep H0 ft H l) (n : Nat) (h : l[n]? = some (t, p, .ins C dx fs)) (c : Cls K C) (na : NoAttr K C f) (hf : fs.lookup f = some v) (q : R p C v) : rFldA K f (.ref p) H R := ⟨p, C, dx, fs, v, rfl, S.get n h, c, na, hf, q⟩
theorem x_sfld {C dx : Addr} {fs fs' : List (Str × V)} {f : Str} {R : Hp → Prop} (S : Sep H0 ft H l) (n : Nat) (h : l[n]? = some (t, p, .ins C dx fs)) (c : Cls K C) (na : NoAttr K C f) (e : putF f v fs = fs') (hl : fs.length < 1000) (q : ∀ H', Sep H0 ft H' (l.set n (t, p, .ins C dx fs')) → R H')
    (ht : t = 1 ∨ t = 2 := by first | exact .inl rfl | exact .inr rfl) : rSFld K f (.ref p) v H R :=
  ⟨p, C, dx, fs, rfl, S.get n h, c, na, hl, by rw [e]; exact q _ (S.put n _ h ht)⟩
theorem x_augf {C dx : Addr} {fs fs' : List (Str × V)} {f : Str} {R : Hp → Prop} (S : Sep H0 ft H l) (n : Nat) (h : l[n]? = some (t, p, .ins C dx fs)) (e : putF f v fs = fs') (hl : fs.length < 1000) (q : ∀ H', Sep H0 ft H' (l.set n (t, p, .ins C dx fs')) → R H')
    (ht : t = 1 ∨ t = 2 := by first | exact .inl rfl | exact .inr rfl) : rPutA f p C v H R :=
  ⟨dx, fs, S.get n h, hl, by rw [e]; exact q _ (S.put n _ h ht)⟩
theorem x_meth {C dx : Addr} {fs : List (Str × V)} {m : Str} {R : Prop} (S : Sep H0 ft H l) (n : Nat) (h : l[n]? = some (t, p, .ins C dx fs)) (hl : fs.lookup m = none) (q : R) : rMe C m (.ref p) H R := ⟨p, dx, fs, rfl, S.get n h, hl, q⟩
theorem x_add (q : Q (.int (i + j)) H) : rAdd (.int i) (.int j) H Q := ⟨i, j, rfl, rfl, q⟩
theorem x_sub (q : Q (.int (i - j)) H) : rSub (.int i) (.int j) H Q := ⟨i, j, rfl, rfl, q⟩
/-- lists' methods -/
theorem x_app {xs : List V} (S : Sep H0 ft H l) (n : Nat) (h : l[n]? = some (t, p, .lst xs)) (hl : xs.length < 100000) (q : ∀ H', Sep H0 ft H' (l.set n (t, p, .lst (xs ++ [v]))) → Q .non H') (ht : t = 1 ∨ t = 2 := by first | exact .inl rfl | exact .inr rfl) :
    rAppend (.ref p) [v] H Q := ⟨p, xs, v, rfl, rfl, S.get n h, Nat.lt_of_lt_of_le hl (by decide), q _ (S.put n _ h ht)⟩
theorem x_ty {xs : List V} (S : Sep H0 ft H l) (n : Nat) (h : l[n]? = some (t, p, .lst xs)) : tyV K "list" (.ref p) H := .inl ⟨rfl, xs, S.sl n h⟩
def rInsert : V → List V → Hp → VK → Prop := fun x vs H Q => ∃ (l : Addr) (xs : List V) (i : Int) (y : V), x = .ref l ∧ vs = [.int i, y] ∧ H l = some (.lst xs) ∧ xs.length < sizeLine ∧ 0 ≤ i ∧ i < 2 ^ 63 ∧ Q .non (upd H l (.lst (xs.take i.toNat ++ [y] ++ xs.drop i.toNat)))
theorem mt_ins {X : Cx} : MtR X "list.insert" rInsert := mt_insert
theorem x_ins {xs : List V} (S : Sep H0 ft H l) (n : Nat) (h : l[n]? = some (t, p, .lst xs)) (hl : xs.length < 100000) (h0 : 0 ≤ i) (h1 : i < 2 ^ 63) (q : ∀ H', Sep H0 ft H' (l.set n (t, p, .lst (xs.take i.toNat ++ [v] ++ xs.drop i.toNat))) → Q .non H')
    (ht : t = 1 ∨ t = 2 := by first | exact .inl rfl | exact .inr rfl) : rInsert (.ref p) [.int i, v] H Q := ⟨p, xs, i, v, rfl, rfl, S.get n h, Nat.lt_of_lt_of_le hl (by decide), h0, h1, q _ (S.put n _ h ht)⟩
/-- a list of ints with one put in -/
def insAt {α : Type} (ys : List α) (i : Int) (v : α) : List α := ys.take i.toNat ++ [v] ++ ys.drop i.toNat
theorem mem_insAt {α : Type} {ys : List α} {i : Int} {v x : α} : x ∈ insAt ys i v ↔ x = v ∨ x ∈ ys := by
  unfold insAt
  rw [List.append_assoc, List.mem_append, List.mem_append, List.mem_singleton]
  constructor
  · rintro (h | h | h)
    · exact .inr (List.mem_of_mem_take h)
    · exact .inl h
    · exact .inr (List.mem_of_mem_drop h)
  · rintro (h | h)
    · exact .inr (.inl h)
    · rw [← List.take_append_drop i.toNat ys] at h
      rcases List.mem_append.mp h with h | h
      · exact .inl h
      · exact .inr (.inr h)
theorem len_insAt {α : Type} {ys : List α} {i : Int} {v : α} : (insAt ys i v).length = ys.length + 1 := by
  unfold insAt
  rw [List.length_append, List.length_append, List.length_take, List.length_drop, List.length_singleton]
  omega
theorem insAt_map {α : Type} (f : α → V) (ys : List α) (i : Int) (v : α) : (ys.map f).take i.toNat ++ [f v] ++ (ys.map f).drop i.toNat = (insAt ys i v).map f := by
  unfold insAt
  rw [List.map_append, List.map_append, List.map_take, List.map_drop, List.map_singleton]
theorem x_insI {cs : List Int} (S : Sep H0 ft H l) (n : Nat) (h : l[n]? = some (t, p, .lst (cs.map V.int))) (hl : cs.length < 100000) (h0 : 0 ≤ i) (h1 : i < 2 ^ 63) (q : ∀ H', Sep H0 ft H' (l.set n (t, p, .lst ((insAt cs i j).map V.int))) → Q .non H')
    (ht : t = 1 ∨ t = 2 := by first | exact .inl rfl | exact .inr rfl) : rInsert (.ref p) [.int i, .int j] H Q := by
  refine x_ins S n h (by rw [List.length_map]; exact hl) h0 h1 (fun H' S' => q H' ?_) ht
  rw [insAt_map] at S'
  exact S'
/-- data compared -/
theorem dp_ints {ns : List Int} : DpAll K H (ns.map V.int) (ns.map PyData.int) := by
  induction ns with
  | nil => exact .nil
  | cons n r ih => exact .cons (.int n) ih
theorem lay_ints : ∀ ns : List Int, PyData.canLayAll0 (ns.map PyData.int) = true
  | [] => rfl
  | n :: r => lay_ints r
theorem dep_ints : ∀ ns : List Int, PyData.depthAll (ns.map PyData.int) = 0
  | [] => rfl
  | n :: r => by rw [List.map_cons, PyData.depthAll, dep_ints r]; rfl
theorem sh_list (ns : List Int) : SeqAt.shaped (.list (ns.map PyData.int)) = true := by
  unfold SeqAt.shaped
  rw [show PyData.canLay0 (.list (ns.map PyData.int)) = true from lay_ints ns, PyData.depth, dep_ints]
  rfl
theorem sh_tup (ns : List Int) : SeqAt.shaped (.tuple (ns.map PyData.int)) = true := by
  unfold SeqAt.shaped
  rw [show PyData.canLay0 (.tuple (ns.map PyData.int)) = true from lay_ints ns, PyData.depth, dep_ints]
  rfl
theorem eqv_list (ns ms : List Int) : PyData.eqv (.list (ns.map PyData.int)) (.list (ms.map PyData.int)) = decide (ns = ms) := PySem.W.Datum.eqv (α := List Int) ns ms
theorem eqv_tup (ns ms : List Int) : PyData.eqv (.tuple (ns.map PyData.int)) (.tuple (ms.map PyData.int)) = decide (ns = ms) := by
  have := PySem.W.Datum.eqv (α := PySem.W.Tup Int) ⟨ns⟩ ⟨ms⟩
  rw [show PyData.eqv (.tuple (ns.map PyData.int)) (.tuple (ms.map PyData.int)) = decide ((⟨ns⟩ : PySem.W.Tup Int) = ⟨ms⟩) from this]
  exact decide_eq_decide.mpr ⟨fun e => congrArg PySem.W.Tup.items e, fun e => by rw [e]⟩
theorem x_neSq {q : Addr} {xs ys : List Int} (hx : SqL K H p (xs.map V.int)) (hy : SqL K H q (ys.map V.int)) (k : Q (.bl (!decide (xs = ys))) H) : rNeD K (.ref p) (.ref q) H Q :=
  ⟨_, _, .lst hx dp_ints, .lst hy dp_ints, sh_list xs, sh_list ys, by rw [eqv_list]; exact k⟩
theorem x_neL {q : Addr} {xs ys : List Int} {t' : Nat} (S : Sep H0 ft H l) (n m : Nat) (h : l[n]? = some (t, p, .lst (xs.map V.int))) (h' : l[m]? = some (t', q, .lst (ys.map V.int))) (k : Q (.bl (!decide (xs = ys))) H) : rNeD K (.ref p) (.ref q) H Q :=
  x_neSq (S.sl n h) (S.sl m h') k
theorem x_eqP {q : Addr} {a b c d : Int} {t' : Nat} (S : Sep H0 ft H l) (n m : Nat) (h : l[n]? = some (t, p, .tup [.int a, .int b])) (h' : l[m]? = some (t', q, .tup [.int c, .int d])) (k : Q (.bl (decide (([a, b] : List Int) = [c, d]))) H) : rEqD K (.ref p) (.ref q) H Q :=
  ⟨_, _, .tup (S.st n h) (dp_ints (ns := [a, b])), .tup (S.st m h') (dp_ints (ns := [c, d])), sh_tup _, sh_tup _, by rw [eqv_tup]; exact k⟩
theorem x_neP {q : Addr} {a b c d : Int} {t' : Nat} (S : Sep H0 ft H l) (n m : Nat) (h : l[n]? = some (t, p, .tup [.int a, .int b])) (h' : l[m]? = some (t', q, .tup [.int c, .int d])) (k : Q (.bl (!decide (([a, b] : List Int) = [c, d]))) H) : rNeD K (.ref p) (.ref q) H Q :=
  ⟨_, _, .tup (S.st n h) (dp_ints (ns := [a, b])), .tup (S.st m h') (dp_ints (ns := [c, d])), sh_tup _, sh_tup _, by rw [eqv_tup]; exact k⟩
end
/-! ### defs as facts -/
structure Cal (P : Program) (w : World) (K : PySem.W.Frag) (mg : Str → Option Value) (base : Heap) (CX : CXT) (k : Nat) (x : Str) (sp : Sp) : Prop where
  ex : ∃ (f : Addr) (fd : FuncData) (ps : List Str), FnOk P w K mg base CX k f fd ps sp ∧ mg x = some (.ref f) ∧ PySem.W.keepIn K (.ref f) = true ∧ Binds K fd ps []
structure Met (P : Program) (w : World) (K : PySem.W.Frag) (mg : Str → Option Value) (base : Heap) (CX : CXT) (k : Nat) (C : Addr) (m : Str) (sp : Sp) : Prop where
  ex : ∃ (f : Addr) (fd : FuncData) (ps : List Str), Cls K C ∧ L2.Meth K C m f ∧ FnOk P w K mg base CX k f fd ps sp ∧ Binds K fd ps []
/-- C(k = v, ..): all keyword-only, no other parameters -/
structure MakK (P : Program) (w : World) (K : PySem.W.Frag) (mg : Str → Option Value) (base : Heap) (CX : CXT) (k : Nat) (x : Str) (C : Addr) (ks : List Str) (sp : Sp) : Prop where
  ex : ∃ (f : Addr) (fd : FuncData) (ps : List Str) (g : List Value → List Value → List Value), Mk K C f ∧ FnOk P w K mg base CX k f fd ps sp ∧ mg x = some (.ref C) ∧ KBn K fd ps 1 ks g (fun vs zs => vs ++ zs)
section
variable {X : Cx} {CX : CXT} {k j : Nat} {C : Addr} {x m : Str} {sp : Sp} {E : XK} {p pos apos : Pos} {e o : Expr} {es : List Expr} {kws : List Keyword} {ks : List Str} {ta : TE} {t tk : TA}
theorem pe_c (c : Cal X.prog X.w X.K X.mg X.base CX k x sp) (hr : Room j X.A) (hk : k ≤ j) (hg : Gl X x) (hx : Passes CX X E) (ha : PA X (e :: es) t)
    (hdb : (x == ("__debug__" : Str)) = false := by decide) (he : starEach (e :: es) X.env = (false, eval e X.env) :: starEach es X.env := by rfl) (hpl : (backTo pos (starEach es X.env)).any (·.1) = false := by rfl) :
    PE X (.Call (.Name x p) (e :: es) [] pos) (tCall sp [] E t) := by
  obtain ⟨f, fd, ps, F, hm, kp, b⟩ := c.ex
  exact pe_call F (hr.mono hk) hg hm kp b .nil hx ha hdb he hpl
theorem pe_mt {pl : Sem Bool} (c : Met X.prog X.w X.K X.mg X.base CX k C m sp) (hr : Room j X.A) (hk : k ≤ j) (hx : Passes CX X E) (he : PE X o ta) (ha : PA X (e :: es) t)
    (hst : starEach (e :: es) X.env = (false, eval e X.env) :: starEach es X.env := by rfl) (hpl : (backTo pos (starEach es X.env)).any (·.1) = false := by rfl)
    (ht : eval (.Call (.Attribute o m apos) (e :: es) [] pos) X.env = (do
      let ov ← eval o X.env
      standAt apos.atName
      let (f, first) ← holding [ov] (getMethod ov m pl)
      callWith pos f first (backTo pos (starEach (e :: es) X.env)) (backToKw pos (keywordEach [] X.env))) := by rfl) :
    PE X (.Call (.Attribute o m apos) (e :: es) [] pos) (tMeth1 C m sp [] E ta t) := by
  obtain ⟨f, fd, ps, hc, hm, F, b⟩ := c.ex
  exact pe_meth (pl := pl) he hc hm F (hr.mono hk) b .nil hx ha hst hpl ht
theorem pe_mt0 {pl : Sem Bool} (c : Met X.prog X.w X.K X.mg X.base CX k C m sp) (hr : Room j X.A) (hk : k ≤ j) (hx : Passes CX X E) (he : PE X o ta)
    (ht : eval (.Call (.Attribute o m apos) [] [] pos) X.env = (do
      let ov ← eval o X.env
      standAt apos.atName
      let (f, first) ← holding [ov] (getMethod ov m pl)
      callWith pos f first (backTo pos (starEach [] X.env)) (backToKw pos (keywordEach [] X.env))) := by rfl) :
    PE X (.Call (.Attribute o m apos) [] [] pos) (tMeth1 C m sp [] E ta tNil) := by
  obtain ⟨f, fd, ps, hc, hm, F, b⟩ := c.ex
  exact pe_meth0 (pl := pl) he hc hm F (hr.mono hk) b .nil hx ht
def rMkK (C : Addr) (n m : Nat) (sp : Sp) (gV : List V → List V → List V) (E : XK) : List V → List V → Hp → VK → Prop := fun vs zs H Q => vs.length = n ∧ zs.length = m ∧ ∀ x dx, H x = none → H dx = none → dx ≠ x →
  sp (gV (.ref x :: vs) zs) (upd (upd H dx (.own x)) x (.ins C dx [])) (fun v H3 => v = .non ∧ Q (.ref x) H3) E
def tMakeK1 (C : Addr) (n m : Nat) (sp : Sp) (gV : List V → List V → List V) (E : XK) (t tk : TA) : TE := fun σ H Q => t σ H fun vs H1 => tk σ H1 fun zs H2 => rMkK C n m sp gV E vs zs H2 Q
theorem pe_mkK (c : MakK X.prog X.w X.K X.mg X.base CX k x C ks sp) (hr : Room j X.A) (hk : k + 1 ≤ j) (hg : Gl X x) (hx : Passes CX X E) (hkw : PK X kws tk)
    (hall : (backToKw pos (keywordEach kws X.env)).all (·.1.isSome) = true := by rfl) (hks : (backToKw pos (keywordEach kws X.env)).filterMap (·.1) = ks := by rfl) (hdb : (x == ("__debug__" : Str)) = false := by decide)
    (hpl : ((backTo pos (starEach [] X.env)).any (·.1) || (backToKw pos (keywordEach kws X.env)).any (·.1.isNone)) = false := by rfl) :
    PE X (.Call (.Name x p) [] kws pos) (tMakeK1 C 0 ks.length sp (fun vs zs => vs ++ zs) E tNil tk) := by
  obtain ⟨f, fd, ps, g, M, F, hm, b⟩ := c.ex
  exact pe_makeK0 M F (hr.mono hk) hg hm b hx hkw hall hks hdb hpl
end
/-! ### calls by keywords -/
/-- the keywords' values in the parameters' order -/
def kwp (is : List Nat) {α : Type} (ws : List α) : List α := is.filterMap (ws[·]?)
theorem kwp_vals : ∀ (is : List Nat) {zs : List V} {ws : List Value}, L2.Vals zs ws → L2.Vals (kwp is zs) (kwp is ws)
  | [], _, _, _ => .nil
  | i :: r, zs, ws, h => by
    unfold kwp
    cases e : zs[i]? with
    | none =>
      rw [List.filterMap_cons_none e, List.filterMap_cons_none (h.none_of e)]
      exact kwp_vals r h
    | some v =>
      obtain ⟨u, e2, rv⟩ := h.get e
      rw [List.filterMap_cons_some e, List.filterMap_cons_some e2]
      exact .cons rv (kwp_vals r h)
/-- o.m(k = v, ..) -/
structure MetK (P : Program) (w : World) (K : PySem.W.Frag) (mg : Str → Option Value) (base : Heap) (CX : CXT) (k : Nat) (C : Addr) (m : Str) (ks : List Str) (is : List Nat) (sp : Sp) : Prop where
  ex : ∃ (f : Addr) (fd : FuncData) (ps : List Str), Cls K C ∧ L2.Meth K C m f ∧ FnOk P w K mg base CX k f fd ps sp ∧ KBn K fd ps 1 ks (fun us ws => us ++ kwp is ws) (fun vs zs => vs ++ kwp is zs)
/-- f(k = v, ..) -/
structure CalK (P : Program) (w : World) (K : PySem.W.Frag) (mg : Str → Option Value) (base : Heap) (CX : CXT) (k : Nat) (x : Str) (ks : List Str) (is : List Nat) (sp : Sp) : Prop where
  ex : ∃ (f : Addr) (fd : FuncData) (ps : List Str), FnOk P w K mg base CX k f fd ps sp ∧ mg x = some (.ref f) ∧ PySem.W.keepIn K (.ref f) = true ∧ KBn K fd ps 0 ks (fun us ws => us ++ kwp is ws) (fun vs zs => vs ++ kwp is zs)
def tMethK1 (C : Addr) (m : Str) (n : Nat) (is : List Nat) (sp : Sp) (E : XK) (ta : TE) (tk : TA) : TE := fun σ H Q => ta σ H fun x H1 => rMe C m x H1 (tk σ H1 fun zs H2 => zs.length = n ∧ sp ([x] ++ kwp is zs) H2 Q E)
def tCallK1 (n : Nat) (is : List Nat) (sp : Sp) (E : XK) (tk : TA) : TE := fun σ H Q => tk σ H fun zs H2 => zs.length = n ∧ sp ([] ++ kwp is zs) H2 Q E
section
variable {X : Cx} {CX : CXT} {k j : Nat} {C : Addr} {x m : Str} {sp : Sp} {E : XK} {p pos apos : Pos} {e o : Expr} {kws : List Keyword} {ks : List Str} {is : List Nat} {ta : TE} {t tk : TA}
theorem pe_mtK {pl : Sem Bool} (c : MetK X.prog X.w X.K X.mg X.base CX k C m ks is sp) (hr : Room j X.A) (hk : k ≤ j) (hx : Passes CX X E) (he : PE X o ta) (hkw : PK X kws tk)
    (hall : (backToKw pos (keywordEach kws X.env)).all (·.1.isSome) = true := by rfl) (hks : (backToKw pos (keywordEach kws X.env)).filterMap (·.1) = ks := by rfl)
    (hpl : ((backTo pos (starEach [] X.env)).any (·.1) || (backToKw pos (keywordEach kws X.env)).any (·.1.isNone)) = false := by rfl)
    (ht : eval (.Call (.Attribute o m apos) [] kws pos) X.env = (do
      let ov ← eval o X.env
      standAt apos.atName
      let (f, first) ← holding [ov] (getMethod ov m pl)
      callWith pos f first (backTo pos (starEach [] X.env)) (backToKw pos (keywordEach kws X.env))) := by rfl) :
    PE X (.Call (.Attribute o m apos) [] kws pos) (tMethK1 C m ks.length is sp E ta tk) := by
  obtain ⟨f, fd, ps, c1, hm, F, b⟩ := c.ex
  refine ⟨fun pins s σ H Q I h => ?_⟩
  refine PySem.W.methodCall_KW (pl := pl) (thn (he.run pins s σ H _ I h) fun u s1 ⟨x, H1, I1, rx, a, dx, fs, ex, ea, l, q⟩ => ?_) ht
  subst ex
  obtain rfl : u = Value.ref a := rx
  refine getmeth_ok I1 ea c1 hm l ?_
  refine PySem.W.callWith_KW0 (first := [.ref a]) (h₀ := X.base) I.ok.mod.kin hm.kp hall (thn (hkw.run pos pins s1 σ H1 _ I1 q) fun ws s2 ⟨zs, H2, I2, rz, l2, q2⟩ => ⟨I2.kIn, ?_⟩) hpl
  rw [hks]
  exact run_fnN (us := [.ref a]) (vs := [.ref a]) F (hr.mono hk) b hx I2 (.cons rfl .nil) rz rfl l2 q2
theorem pe_ck (c : CalK X.prog X.w X.K X.mg X.base CX k x ks is sp) (hr : Room j X.A) (hk : k ≤ j) (hg : Gl X x) (hx : Passes CX X E) (hkw : PK X kws tk)
    (hall : (backToKw pos (keywordEach kws X.env)).all (·.1.isSome) = true := by rfl) (hks : (backToKw pos (keywordEach kws X.env)).filterMap (·.1) = ks := by rfl) (hdb : (x == ("__debug__" : Str)) = false := by decide)
    (hpl : ((backTo pos (starEach [] X.env)).any (·.1) || (backToKw pos (keywordEach kws X.env)).any (·.1.isNone)) = false := by rfl) :
    PE X (.Call (.Name x p) [] kws pos) (tCallK1 ks.length is sp E tk) := by
  obtain ⟨f, fd, ps, F, hm, kp, b⟩ := c.ex
  refine ⟨fun pins s σ H Q I h => ?_⟩
  refine wpAny_Call_Name_kw (ld_glob I hg hm ?_ hdb)
  refine PySem.W.callWith_KW0 (h₀ := X.base) I.ok.mod.kin kp hall (thn (hkw.run pos pins s σ H _ I h) fun ws s2 ⟨zs, H2, I2, rz, l2, q2⟩ => ⟨I2.kIn, ?_⟩) hpl
  rw [hks]
  exact run_fnN (us := []) (vs := []) F (hr.mono hk) b hx I2 .nil rz rfl l2 q2
end
/-- C(): every keyword-only parameter by its default -/
structure MakD (P : Program) (w : World) (K : PySem.W.Frag) (mg : Str → Option Value) (base : Heap) (CX : CXT) (k : Nat) (x : Str) (C : Addr) (dvs : List V) (sp : Sp) : Prop where
  ex : ∃ (f : Addr) (fd : FuncData) (ps : List Str) (ds : List Value), Mk K C f ∧ FnOk P w K mg base CX k f fd ps sp ∧ mg x = some (.ref C) ∧ Binds K fd ps ds ∧ L2.Vals dvs ds
def rMk0 (C : Addr) (sp : Sp) (dvs : List V) (E : XK) : Hp → VK → Prop := fun H Q => ∀ x dx, H x = none → H dx = none → dx ≠ x → sp (.ref x :: ([] ++ dvs)) (upd (upd H dx (.own x)) x (.ins C dx [])) (fun v H2 => v = .non ∧ Q (.ref x) H2) E
def tMk0 (C : Addr) (sp : Sp) (dvs : List V) (E : XK) : TE := fun _ H Q => rMk0 C sp dvs E H Q
theorem pe_mkD {X : Cx} {CX : CXT} {k j : Nat} {C : Addr} {x : Str} {sp : Sp} {E : XK} {p pos : Pos} {dvs : List V} (c : MakD X.prog X.w X.K X.mg X.base CX k x C dvs sp) (hr : Room j X.A) (hk : k + 1 ≤ j) (hg : Gl X x) (hx : Passes CX X E) (hdb : (x == ("__debug__" : Str)) = false := by decide) :
    PE X (.Call (.Name x p) [] [] pos) (tMk0 C sp dvs E) := by
  obtain ⟨f, fd, ps, ds, M, F, hm, b, d⟩ := c.ex
  exact pe_make0 M F (hr.mono hk) hg hm b d hx hdb
section
variable {H0 H : Hp} {ft : List Addr} {l : List Cell} {t : Nat} {a p C : Addr} {o : HO} {c : Cell}
theorem Sep.drop1 (S : Sep H0 ft H (c :: l)) : Sep H0 ft H l :=
  ⟨(List.nodup_cons.mp S.nd).2, fun d h => S.rd d (List.mem_cons_of_mem _ h), S.fr, fun d h => S.wr d (List.mem_cons_of_mem _ h), fun d h => S.nw d (List.mem_cons_of_mem _ h), S.ex⟩
theorem Sep.drop2 {d : Cell} (S : Sep H0 ft H (d :: c :: l)) : Sep H0 ft H (d :: l) := by
  obtain ⟨n1, n2⟩ := List.nodup_cons.mp S.nd
  exact ⟨List.nodup_cons.mpr ⟨fun h => n1 (List.mem_cons_of_mem _ h), (List.nodup_cons.mp n2).2⟩, fun e h => S.rd e ((List.mem_cons.mp h).elim (fun z => z ▸ List.mem_cons_self) fun h => List.mem_cons_of_mem _ (List.mem_cons_of_mem _ h)), S.fr,
    fun e h => S.wr e ((List.mem_cons.mp h).elim (fun z => z ▸ List.mem_cons_self) fun h => List.mem_cons_of_mem _ (List.mem_cons_of_mem _ h)),
    fun e h => S.nw e ((List.mem_cons.mp h).elim (fun z => z ▸ List.mem_cons_self) fun h => List.mem_cons_of_mem _ (List.mem_cons_of_mem _ h)), S.ex⟩
/-- a new instance, ahead of its __init__ -/
theorem Sep.made {x dx : Addr} (S : Sep H0 ft H l) (hx : H x = none) (hd : H dx = none) (n : dx ≠ x) : Sep H0 ft (upd (upd H dx (.own x)) x (.ins C dx [])) ((2, x, .ins C dx []) :: l) :=
  ((S.new hd (.own x)).new (by rw [upd_ne n.symm]; exact hx) (.ins C dx [])).drop2
/-- a new cell that a call has laid -/
theorem Sep.got {H' : Hp} {l' : List Cell} (S : Sep H0 ft H l) (S' : Sep H0 ft H' l') (e : l'.map (·.2.1) = l.map (·.2.1)) (hn : H p = none) (hp : H' p = some o) : Sep H0 ft H' ((2, p, o) :: l') := by
  refine S'.add 2 hp (fun c hc z => ?_) (fun e => by cases e) fun _ => S.none0 hn
  have : c.2.1 ∈ l.map (·.2.1) := by rw [← e]; exact List.mem_map.mpr ⟨c, hc, rfl⟩
  obtain ⟨d, hd, ed⟩ := List.mem_map.mp this
  have := S.rd d hd
  rw [ed, z, hn] at this; cases this
theorem map_set {i : Nat} {o' : HO} (h : l[i]? = some (t, a, o)) : (l.set i (t, a, o')).map (·.2.1) = l.map (·.2.1) := by
  rw [List.map_set]
  have : (l.map (·.2.1))[i]? = some a := by rw [List.getElem?_map, h]; rfl
  obtain ⟨x, e⟩ := List.getElem?_eq_some_iff.mp this
  rw [← e]
  exact List.set_getElem_self x
end
/-- tests -/
theorem ited {p A B : Prop} [Decidable p] (h1 : p → A) (h2 : ¬ p → B) : if decide p = true then A else B := by
  by_cases h : p
  · rw [decide_eq_true h, if_pos rfl]; exact h1 h
  · rw [decide_eq_false h, if_neg Bool.false_ne_true]; exact h2 h
theorem itend {p A B : Prop} [Decidable p] (h1 : ¬ p → A) (h2 : p → B) : if (!decide p) = true then A else B := by
  by_cases h : p
  · rw [decide_eq_true h]; exact h2 h
  · rw [decide_eq_false h]; exact h1 h
theorem iteq {i j : Int} {A B : Prop} (h1 : i = j → A) (h2 : i ≠ j → B) : if decide (V.int i = V.int j) = true then A else B := ited (fun h => h1 (V.int.inj h)) fun h => h2 fun e => h (by rw [e])
theorem itne {i j : Int} {A B : Prop} (h1 : i ≠ j → A) (h2 : i = j → B) : if (!decide (V.int i = V.int j)) = true then A else B := itend (fun h => h1 fun e => h (by rw [e])) fun h => h2 (V.int.inj h)
theorem iteb {b : Bool} {A B : Prop} (h1 : b = true → A) (h2 : b = false → B) : if b = true then A else B := by
  cases b with
  | true => rw [if_pos rfl]; exact h1 rfl
  | false => rw [if_neg Bool.false_ne_true]; exact h2 rfl
theorem itnb {b : Bool} {A B : Prop} (h1 : b = false → A) (h2 : b = true → B) : if (!b) = true then A else B := by
  cases b with
  | true => exact ite2 (fun h => nomatch h) fun _ => h2 rfl
  | false => exact ite2 (fun _ => h1 rfl) fun h => absurd rfl h
theorem itnn {b : Bool} {A B : Prop} (h : if b = true then A else B) : if (!(!b)) = true then A else B := by rw [Bool.not_not]; exact h
theorem iteSome {v : Option V} {A B : Prop} (h1 : ∀ w, v = some w → A) (h2 : v = none → B) : if v.isSome = true then A else B := by
  cases v with
  | none => exact ite2 (fun h => nomatch h) fun _ => h2 rfl
  | some w => exact ite2 (fun _ => h1 w rfl) fun h => absurd rfl h
theorem iteNone {v : Option V} {A B : Prop} (h1 : v = none → A) (h2 : ∀ w, v = some w → B) : if (!v.isSome) = true then A else B := by
  cases v with
  | none => exact ite2 (fun _ => h1 rfl) fun h => absurd rfl h
  | some w => exact ite2 (fun h => nomatch h) fun _ => h2 w rfl
theorem mul_bd {a b A B : Int} (h0 : 0 ≤ a) (h1 : a < A) (h2 : 0 ≤ b) (h3 : b < B) : 0 ≤ a * b ∧ a * b < A * B :=
  ⟨Int.mul_nonneg h0 h2, Int.lt_of_le_of_lt (Int.mul_le_mul_of_nonneg_left (Int.le_of_lt h3) h0) (Int.mul_lt_mul_of_pos_right h1 (by omega))⟩
theorem pos_lt {x y : Int} (h : 0 < x) : y % x < x := Int.emod_lt_of_pos y h
theorem mod_nn {x y : Int} (h : 0 < x) : 0 ≤ y % x := Int.emod_nonneg y (by omega)
/-! ### calls that change several cells -/
section
variable {H0 H H' : Hp} {ft ft' : List Addr} {l l' : List Cell}
/-- the cells ahead of a call, tagged anew -/
theorem Sep.retag (S : Sep H0 ft H l) (e : l'.map (·.2) = l.map (·.2)) (h1 : ∀ c ∈ l', c.1 = 1 → c.2.1 ∈ ft') (h2 : ∀ c ∈ l', c.1 ≠ 2) (h3 : ∀ b ∈ ft', b ∈ l'.map (·.2.1)) : Sep H ft' H l' := by
  have em : l'.map (·.2.1) = l.map (·.2.1) := by
    have := congrArg (List.map Prod.fst) e
    rw [List.map_map, List.map_map] at this
    exact this
  have rd : ∀ c ∈ l', H c.2.1 = some c.2.2 := fun c hc => by
    have : c.2 ∈ l.map (·.2) := by rw [← e]; exact List.mem_map.mpr ⟨c, hc, rfl⟩
    obtain ⟨d, hd, ed⟩ := List.mem_map.mp this
    have := S.rd d hd
    rw [ed] at this
    exact this
  refine ⟨by rw [em]; exact S.nd, rd, fun _ _ h _ => h, h1, fun c hc z => absurd z (h2 c hc), fun b hb => ?_⟩
  obtain ⟨c, hc, rfl⟩ := List.mem_map.mp (h3 b hb)
  exact ⟨_, rd c hc⟩
/-- the cells that a call is given: (tag, index) -/
def preL (l : List Cell) (is : List (Nat × Nat)) : List Cell := is.filterMap fun u => l[u.2]?.map fun c => (u.1, c.2)
theorem Sep.pre (S : Sep H0 ft H l) (is : List (Nat × Nat)) (hn : (is.map (·.2)).Nodup := by decide) (ht : (is.all fun u => decide (u.1 ≤ 1)) = true := by decide) : Sep H (((preL l is).filter (·.1 = 1)).map (·.2.1)) H (preL l is) := by
  refine (S.sub (is.map (·.2)) hn).retag ?_ ?_ ?_ ?_
  · unfold preL
    rw [List.map_filterMap, List.map_filterMap, List.filterMap_map]
    congr 1
    funext u
    show Option.map _ (Option.map _ l[u.2]?) = Option.map _ l[u.2]?
    cases l[u.2]? <;> rfl
  · intro c hc e
    exact List.mem_map.mpr ⟨c, List.mem_filter.mpr ⟨hc, decide_eq_true e⟩, rfl⟩
  · intro c hc e
    obtain ⟨u, hu, eu⟩ := List.mem_filterMap.mp hc
    obtain ⟨d, _, rfl⟩ := Option.map_eq_some_iff.mp eu
    have := of_decide_eq_true (List.all_eq_true.mp ht u hu)
    have e : u.1 = 2 := e
    omega
  · intro b hb
    obtain ⟨c, hc, rfl⟩ := List.mem_map.mp hb
    exact List.mem_map.mpr ⟨c, (List.mem_filter.mp hc).1, rfl⟩
/-- the cells behind it: (index, cell) -/
theorem Sep.chgs : ∀ (us : List (Nat × Cell)) {H : Hp} {l : List Cell}, Sep H0 ft H l → (∀ u ∈ us, ∃ o, l[u.1]? = some (u.2.1, u.2.2.1, o)) → (∀ u ∈ us, u.2.1 = 1 ∨ u.2.1 = 2) → (us.map (·.1)).Nodup →
    (∀ b o, H b = some o → b ∉ us.map (·.2.2.1) → H' b = some o) → (∀ u ∈ us, H' u.2.2.1 = some u.2.2.2) → Sep H0 ft H' (us.foldl (fun l u => l.set u.1 u.2) l)
  | [], _, _, S, _, _, _, F, _ => S.stay fun b o e => F b o e (fun z => nomatch z)
  | (i, t, a, o') :: r, H, l, S, hi, ht, hn, F, he => by
    obtain ⟨o, ho⟩ := hi _ List.mem_cons_self
    obtain ⟨n1, n2⟩ := List.nodup_cons.mp hn
    refine Sep.chgs r (S.put i o' ho (ht _ List.mem_cons_self)) (fun u hu => ?_) (fun u hu => ht u (List.mem_cons_of_mem _ hu)) n2 (fun b u hb hm => ?_) (fun u hu => he u (List.mem_cons_of_mem _ hu))
    · obtain ⟨v, hv⟩ := hi u (List.mem_cons_of_mem _ hu)
      exact ⟨v, by rw [List.getElem?_set_ne (fun z => n1 (List.mem_map.mpr ⟨u, hu, z.symm⟩))]; exact hv⟩
    · by_cases z : b = a
      · subst z
        rw [upd_same] at hb
        cases hb
        exact he _ List.mem_cons_self
      · rw [upd_ne z] at hb
        exact F b u hb (fun m => (List.mem_cons.mp m).elim z hm)
end
theorem fun_kbn {K : PySem.W.Frag} {x qual : Str} {st : Stmt} {f : Addr} {fd : FuncData} (F : L2.Fun K x qual st f fd) (n : Nat) (ks : List Str) (is : List Nat) {ps : List Str}
    (h : ∀ (kV doc pm : Value) (an : Option Addr) (cdv ct : Value) (us ws : List Value), us.length = n → ws.length = ks.length → bindArgs (PySem.W.fnOf x qual (defArgs st) (defBody st) (defScope st) .none kV doc pm an cdv ct) ⟨us, ks.zip ws⟩ = pure (ps.zip (us ++ kwp is ws))) :
    KBn K fd ps n ks (fun us ws => us ++ kwp is ws) (fun vs zs => vs ++ kwp is zs) := by
  obtain ⟨oc, od, kV, doc, pm, an, cdv, ct, osl, rfl, lk, hcd⟩ := F.ex
  exact ⟨fun s us ws _ l1 l2 => .of_eq (h kV doc pm an cdv ct us ws l1 l2), fun r1 r2 => r1.append (kwp_vals is r2)⟩
/-! ### rules that the layer lacks -/
section
variable {X : Cx}
theorem get_list : PGet X (rIxL X.K) := by
  intro pins s σ H x y v u Q I rx ry h
  obtain ⟨p, xs, i, z, rfl, rfl, hq, he, q⟩ := h
  cases rx
  obtain ⟨t, rfl⟩ := ry
  obtain ⟨its, r, pl, hz⟩ := I.list hq
  obtain ⟨j, h1, h2, h3, h4, h5⟩ := atI_get he
  obtain ⟨w, ew, rw'⟩ := r.get h2
  have hl := r.length
  have hn := line63
  have fin : EP X pins σ Q w s := ⟨z, H, I, rw', q⟩
  by_cases h0 : 0 ≤ i
  · have hj : i.toNat = j := by
      rw [seqIndex_of h0 h5] at h1
      exact Option.some.inj h1
    exact wpAny_getItem_list pl.isList h0 (by omega) (by rw [hj]; simpa using ew) fin
  · have hj : (i + (its.toArray.size : Int)).toNat = j := by
      rw [seqIndex_neg (by omega) h4] at h1
      rw [List.size_toArray, ← hl]
      exact Option.some.inj h1
    exact wpAny_getItem_list_neg pl.isList (by omega) (by rw [List.size_toArray] <;> omega) (by omega) (by rw [hj]; simpa using ew) fin
end
end G

set_option linter.all false
set_option maxRecDepth 100000
/-! walks, locked dicts, dicts with tuple keys, more methods -/
namespace G
open PySem PySem.Spec PyProof.Rows L2
section
variable {H0 H : Hp} {ft : List Addr} {l : List Cell} {t : Nat} {a p : Addr} {o u : HO} {K : PySem.W.Frag} {σ : L2.St} {Q : VK} {v x y z : V} {i j : Int}
theorem x_join (te : TE) (R : V → Hp → Prop) (k : ∀ v H', R v H' → Q v H') (h : (∀ v H', R v H' → Q v H') → te σ H Q) : te σ H Q := h k
theorem x_orT {ta tb : TE} (h : ta σ H fun x H1 => ∃ k, TruV K x H1 k ∧ if k = true then Q x H1 else tb σ H1 Q) : tOrT K ta tb σ H Q := h
theorem forW {J : It} {n : Nat} {G : Hp → Prop} {Y : Nat → Hp → V → Hp → Prop} (w : Walk J n G Y) {g : TG} {tb : TS} {D : Ends} (Pv : Nat → L2.St → Hp → Prop) (h0 : Pv 0 σ H) (hG : ∀ i σ H, i ≤ n → Pv i σ H → G H)
    (hs : ∀ i x σ H H', i < n → Pv i σ H → Y i H x H' → g x σ H' fun σ2 H2 => tb { D with nx := Pv (i + 1), ct := Pv (i + 1), bk := D.nx } σ2 H2) (hd : ∀ σ H, Pv n σ H → D.nx σ H) : ForJ J g tb D σ H := for_it w Pv h0 hG hs hd
theorem lcW {J : It} {n : Nat} {G : Hp → Prop} {Y : Nat → Hp → V → Hp → Prop} (w : Walk J n G Y) {g : TG} {tt : TT} {te : TE} {vs : List Nat} (S : Sep H0 ft H l)
    (h : ∀ D H1, Sep H0 ft H1 ((2, D, .lst []) :: l) → ∃ Pv : Nat → Hp → Prop, Pv 0 H1 ∧ (∀ i H, i ≤ n → Pv i H → G H) ∧
      (∀ i x H H', i < n → Pv i H → Y i H x H' → g x (wipe σ vs) H' fun σ2 H2 => wipe σ2 vs = wipe σ vs ∧ tt σ2 H2 fun b H3 => if b = true then te σ2 H3 fun y H4 => rLcA D y H4 (Pv (i + 1)) else Pv (i + 1) H3) ∧
      ∀ H, Pv n H → Q (.ref D) H) : LcJ J g tt te vs σ H Q := fun D hD =>
  let ⟨Pv, h0, hG, hs, hd⟩ := h D _ (S.new hD (.lst []))
  lc_it w (H1 := H) Pv h0 hG hs hd
theorem pg_tupK {X : Cx} {pos : Pos} {es : List Expr} {k : Nat} {t : TGs} (K : PySem.W.Frag) (n : Nat) (hc : X.calm = true) (h : PGs X es t) (hn : (assignEach es X.env).length = n := by rfl) (hst : (assignEach es X.env).findIdx? (·.1) = none := by rfl) (e : X.K = K := by rfl) : PG X (.Tuple es k pos) (gTup K n t) := by
  subst e; exact pg_tup hc h hn hst
def tNevE : TE := fun _ _ _ => False
theorem pe_never {X : Cx} {e : Expr} : PE X e tNevE := ⟨fun _ _ _ _ _ _ h => h.elim⟩
def tNevT : TT := fun _ _ _ => False
theorem pt_never {X : Cx} {e : Expr} : PT X e tNevT := ⟨fun _ _ _ _ _ _ h => h.elim⟩
/-! a dict that is walked stands locked -/
def rUnl (p : Addr) (od : Obj) (u : HO) (H : Hp) (R : Hp → Prop) : Prop := H p = some (.frz od u) ∧ R (upd H p u)
theorem x_lockE {te : TE} (S : Sep H0 ft H l) (n : Nat) (h : l[n]? = some (t, p, u)) (mu : Mut (some u)) (q : ∀ od H', Sep H0 ft H' (l.set n (t, p, .frz od u)) → te σ H' fun v H2 => rUnl p od u H2 (Q v))
    (ht : t = 1 ∨ t = 2 := by first | exact .inl rfl | exact .inr rfl) : tLockE te σ H Q := ⟨p, u, S.get n h, mu, fun od => q od _ (S.put n _ h ht)⟩
theorem x_unl {od : Obj} {R : Hp → Prop} (S : Sep H0 ft H l) (n : Nat) (h : l[n]? = some (t, p, .frz od u)) (q : ∀ H', Sep H0 ft H' (l.set n (t, p, u)) → R H') (ht : t = 1 ∨ t = 2 := by first | exact .inl rfl | exact .inr rfl) : rUnl p od u H R :=
  ⟨S.get n h, q _ (S.put n _ h ht)⟩
def lockD (p : Addr) (od : Obj) (u : HO) (D : Ends) : Ends := ⟨fun σ' H' => rUnl p od u H' (D.nx σ'), fun v H' => rUnl p od u H' (D.rt v), fun σ' H' => rUnl p od u H' (D.bk σ'), fun σ' H' => rUnl p od u H' (D.ct σ')⟩
theorem x_lockS {ts : TS} {D : Ends} (S : Sep H0 ft H l) (n : Nat) (h : l[n]? = some (t, p, u)) (mu : Mut (some u)) (q : ∀ od H', Sep H0 ft H' (l.set n (t, p, .frz od u)) → ts (lockD p od u D) σ H')
    (ht : t = 1 ∨ t = 2 := by first | exact .inl rfl | exact .inr rfl) : tLock ts D σ H := ⟨p, u, S.get n h, mu, fun od => q od _ (S.put n _ h ht)⟩
def rKeys : V → Hp → (It → Hp → Prop) → Prop := fun x H R => ∃ d o, x = .ref d ∧ ((∃ kvs, H d = some (.frz o (.dK kvs)) ∧ R (Itk d o kvs) H) ∨ ∃ kvs, H d = some (.frz o (.dT kvs)) ∧ R (Itkt d o kvs) H)
def iKeys1 (td : TE) : TI := fun σ H R => td σ H fun x H1 => rKeys x H1 R
theorem pi_keys1 {X : Cx} {tg e : Expr} {td : TE} (he : PE X e td) : PI X tg e (iKeys1 td) := pi_keys he
theorem x_ikeysT {od : Obj} {kvs : List (List Key × V)} {R : It → Hp → Prop} (S : Sep H0 ft H l) (n : Nat) (h : l[n]? = some (t, p, .frz od (.dT kvs))) (q : R (Itkt p od kvs) H) : rKeys (.ref p) H R := ⟨p, od, rfl, .inr ⟨kvs, S.get n h, q⟩⟩
theorem x_ikeys {od : Obj} {kvs : List (Key × V)} {R : It → Hp → Prop} (S : Sep H0 ft H l) (n : Nat) (h : l[n]? = some (t, p, .frz od (.dK kvs))) (q : R (Itk p od kvs) H) : rKeys (.ref p) H R := ⟨p, od, rfl, .inl ⟨kvs, S.get n h, q⟩⟩
def rEnum (K : PySem.W.Frag) : List V → Hp → (It → Hp → Prop) → Prop := fun vs H R => ∃ a xs, vs = [.ref a] ∧ SqL K H a xs ∧ R (Ite K a) H
def iEnum1 (K : PySem.W.Frag) (ta : TA) : TI := fun σ H R => ta σ H fun vs H1 => rEnum K vs H1 R
theorem pi_enumK {X : Cx} {e : Expr} {ta : TA} {p pos tpos : Pos} {elts : List Expr} {kk : Nat} (K : PySem.W.Frag) (hg : Gl X "enumerate") (hm : X.mg "enumerate" = none) (ha : PA X [e] ta) (hs : starEach [e] X.env = [(false, eval e X.env)] := by rfl) (h : X.K = K := by rfl) :
    PI X (.Tuple elts kk tpos) (.Call (.Name "enumerate" p) [e] [] pos) (iEnum1 K ta) := by subst h; exact pi_enum hg hm ha hs
theorem x_enum {xs : List V} {R : It → Hp → Prop} (S : Sep H0 ft H l) (n : Nat) (h : l[n]? = some (t, p, .lst xs)) (q : R (Ite K p) H) : rEnum K [.ref p] H R := ⟨p, xs, rfl, S.sl n h, q⟩
/-! dicts with tuple keys -/
def rDNewT : Hp → VK → Prop := fun H Q => ∀ p, H p = none → Q (.ref p) (upd H p (.dT []))
def tDNewT1 : TE := fun _ H Q => rDNewT H Q
theorem pe_dnewT1 {X : Cx} {pos : Pos} : PE X (.Dict [] [] pos) tDNewT1 := pe_dnewT
theorem x_dnewT (S : Sep H0 ft H l) (q : ∀ p H', Sep H0 ft H' ((2, p, .dT []) :: l) → Q (.ref p) H') : rDNewT H Q := x_new S _ q
theorem x_dputT {t' : Nat} {b : Addr} {kvs : List (List Key × V)} {xs : List V} {R : Hp → Prop} (k : List Key) (S : Sep H0 ft H l) (n m : Nat) (h : l[n]? = some (t, p, .dT kvs)) (h' : l[m]? = some (t', b, .tup xs)) (hl : kvs.length < 100000) (q : ∀ H', Sep H0 ft H' (l.set n (t, p, .dT (putK kvs k v))) → R H')
    (e : xs = k.map kV := by rfl) (ht : t = 1 ∨ t = 2 := by first | exact .inl rfl | exact .inr rfl) : rDPut (.ref p) (.ref b) v H R := by
  subst e; exact ⟨p, _, rfl, DPut.t (S.get n h) (S.get m h') (Nat.lt_of_lt_of_le hl (by decide)), q _ (S.put n _ h ht)⟩
theorem x_dinT {t' : Nat} {b : Addr} {kvs : List (List Key × V)} {xs : List V} (k : List Key) (S : Sep H0 ft H l) (n m : Nat) (h : l[n]? = some (t, p, .dT kvs)) (h' : l[m]? = some (t', b, .tup xs)) (q : Q (.bl (valV kvs k).isSome) H) (e : xs = k.map kV := by rfl) : rDIn (.ref b) (.ref p) H Q := by
  subst e; exact ⟨p, _, rfl, DGet.t (S.get n h) (S.get m h'), q⟩
theorem x_dniT {t' : Nat} {b : Addr} {kvs : List (List Key × V)} {xs : List V} (k : List Key) (S : Sep H0 ft H l) (n m : Nat) (h : l[n]? = some (t, p, .dT kvs)) (h' : l[m]? = some (t', b, .tup xs)) (q : Q (.bl (!(valV kvs k).isSome)) H) (e : xs = k.map kV := by rfl) : rDNi (.ref b) (.ref p) H Q := by
  subst e; exact ⟨p, _, rfl, DGet.t (S.get n h) (S.get m h'), q⟩
/-! d.get -/
def rDG (y z : V) (a : Addr) (H : Hp) (Q : VK) : Prop := ∃ o, DGet H a y o ∧ Q (o.getD z) H
def tDG1 (td ty : TE) : TE := fun σ H Q => td σ H fun x H1 => rIsD x H1 fun a => ty σ H1 fun y H2 => rDG y .non a H2 Q
def tDG2 (td ty tx : TE) : TE := fun σ H Q => td σ H fun x H1 => rIsD x H1 fun a => ty σ H1 fun y H2 => tx σ H2 fun z H3 => rDG y z a H3 Q
section
variable {X : Cx} {td ty tx : TE} {oe e f : Expr} {apos cpos : Pos}
theorem pe_dg1 (hu : X.A.units + 1 < cLine) (ho : PE X oe td) (he : PE X e ty) (m : M1 X oe "get" apos e cpos) : PE X (.Call (.Attribute oe "get" apos) [e] [] cpos) (tDG1 td ty) := pe_dget1 hu ho he m
theorem pe_dg2 (hu : X.A.units + 1 < cLine) (ho : PE X oe td) (he : PE X e ty) (hf : PE X f tx) (m : M2 X oe "get" apos e f cpos) : PE X (.Call (.Attribute oe "get" apos) [e, f] [] cpos) (tDG2 td ty tx) := pe_dget2 hu ho he hf m
end
theorem x_dg {kvs : List (Key × V)} {k : Key} (S : Sep H0 ft H l) (n : Nat) (h : l[n]? = some (t, p, .dK kvs)) (q0 : valV kvs k = none → Q z H) (q1 : ∀ v, valV kvs k = some v → Q v H) : rDG (kV k) z p H Q := by
  refine ⟨_, DGet.k (k := k) (S.get n h), ?_⟩
  cases e : valV kvs k with
  | none => exact q0 e
  | some v => exact q1 v e
theorem x_dgT {t' : Nat} {b : Addr} {kvs : List (List Key × V)} {xs : List V} (k : List Key) (S : Sep H0 ft H l) (n m : Nat) (h : l[n]? = some (t, p, .dT kvs)) (h' : l[m]? = some (t', b, .tup xs)) (q0 : valV kvs k = none → Q z H) (q1 : ∀ v, valV kvs k = some v → Q v H) (e : xs = k.map kV := by rfl) : rDG (.ref b) z p H Q := by
  subst e
  refine ⟨_, DGet.t (k := k) (S.get n h) (S.get m h'), ?_⟩
  cases e : valV kvs k with
  | none => exact q0 e
  | some v => exact q1 v e
theorem x_isDT {kvs : List (List Key × V)} {R : Addr → Prop} (S : Sep H0 ft H l) (n : Nat) (h : l[n]? = some (t, p, .dT kvs)) (q : R p) : rIsD (.ref p) H R := ⟨p, rfl, .inr ⟨_, .inl (S.get n h)⟩, q⟩
/-! more calls -/
def rAbs : List V → Hp → VK → Prop := fun xs H Q => ∃ i, xs = [.int i] ∧ Q (.int (if i < 0 then -i else i)) H
theorem cl_abs {X : Cx} : CallR X (.builtin "abs") rAbs := call_abs
theorem x_abs (q : Q (.int (i.natAbs : Int)) H) : rAbs [.int i] H Q := ⟨i, rfl, by
  have : (if i < 0 then -i else i) = (i.natAbs : Int) := by split <;> omega
  rw [this]; exact q⟩
theorem cl_maxK {X : Cx} (K : PySem.W.Frag) (hc : X.calm = true) (h : X.K = K := by rfl) : CallR X (.builtin "max") (rMax K) := by subst h; exact cr_max hc
theorem x_maxL {ns : List Int} (S : Sep H0 ft H l) (n : Nat) (h : l[n]? = some (t, p, .lst (ns.map V.int))) (hl : 0 < ns.length) (q : ∀ m, m ∈ ns → (∀ y, y ∈ ns → y ≤ m) → Q (.int m) H) : rMax K [.ref p] H Q := ⟨p, ns, rfl, S.sl n h, hl, q⟩
theorem cl_sortedK {X : Cx} (K : PySem.W.Frag) (h : X.K = K := by rfl) : CallR X (.builtin "sorted") (rSorted K) := by subst h; exact cr_sorted
theorem x_sorted {ns : List Int} (S : Sep H0 ft H l) (n : Nat) (h : l[n]? = some (t, p, .lst (ns.map V.int))) (hl : ns.length < 64) (q : ∀ (ns' : List Int) r H', ns'.Perm ns → ns'.Pairwise (· ≤ ·) → Sep H0 ft H' ((2, r, .lst (ns'.map V.int)) :: l) → Q (.ref r) H') : rSorted K [.ref p] H Q :=
  ⟨p, ns, rfl, S.sl n h, hl, fun ns' r hp hw hr => q ns' r _ hp hw (S.new hr _)⟩
theorem x_cat {q1 : Addr} {t' : Nat} {xs ys : List V} (S : Sep H0 ft H l) (n m : Nat) (h : l[n]? = some (t, p, .lst xs)) (h' : l[m]? = some (t', q1, .lst ys)) (hl : xs.length + ys.length ≤ 100000) (q : ∀ r H', Sep H0 ft H' ((2, r, .lst (xs ++ ys)) :: l) → Q (.ref r) H') : rCat (.ref p) (.ref q1) H Q :=
  ⟨p, q1, xs, ys, rfl, rfl, S.get n h, S.get m h', Nat.le_trans hl (by decide), x_new S _ q⟩
theorem x_rev {xs : List V} (S : Sep H0 ft H l) (n : Nat) (h : l[n]? = some (t, p, .lst xs)) (q : ∀ H', Sep H0 ft H' (l.set n (t, p, .lst xs.reverse)) → Q .non H') (ht : t = 1 ∨ t = 2 := by first | exact .inl rfl | exact .inr rfl) : rReverse (.ref p) [] H Q := ⟨p, xs, rfl, rfl, S.get n h, q _ (S.put n _ h ht)⟩
theorem x_clear {xs : List V} (S : Sep H0 ft H l) (n : Nat) (h : l[n]? = some (t, p, .lst xs)) (q : ∀ H', Sep H0 ft H' (l.set n (t, p, .lst [])) → Q .non H') (ht : t = 1 ∨ t = 2 := by first | exact .inl rfl | exact .inr rfl) : rClear (.ref p) [] H Q := ⟨p, xs, rfl, rfl, S.get n h, q _ (S.put n _ h ht)⟩
theorem x_appI {cs : List Int} (S : Sep H0 ft H l) (n : Nat) (h : l[n]? = some (t, p, .lst (cs.map V.int))) (hl : cs.length < 100000) (q : ∀ H', Sep H0 ft H' (l.set n (t, p, .lst ((cs ++ [i]).map V.int))) → Q .non H') (ht : t = 1 ∨ t = 2 := by first | exact .inl rfl | exact .inr rfl) :
    rAppend (.ref p) [.int i] H Q := x_app S n h (by rw [List.length_map]; exact hl) (fun H' S' => q H' (by rw [List.map_append]; exact S')) ht
/-! a list of which the script's cells are read -/
theorem x_slS {cs : List Int} {lo hi : Option Int} (hs : SqL K H p (cs.map V.int)) (S : Sep H0 ft H l) (q : ∀ r H', Sep H0 ft H' ((2, r, .lst ((cutI cs lo hi).map V.int)) :: l) → Q (.ref r) H') : rSlL K (.ref p) lo hi H Q :=
  ⟨p, _, rfl, hs, by rw [cutV_map]; exact x_new S _ q⟩
theorem len_cutI {α : Type} (xs : List α) (lo hi : Option Int) : (cutI xs lo hi).length ≤ xs.length := by
  unfold cutI
  rw [List.length_take, List.length_drop]
  omega
theorem cutV_from {xs : List V} {i : Int} (h0 : 0 ≤ i) : cutV xs (some i) none = xs.drop i.toNat := by
  unfold cutV
  have e : i = (i.toNat : Int) := by omega
  rw [e, HT.sIx_nat, Int.toNat_natCast]
  have e2 : HT.sIx xs.length xs.length none = xs.length := by unfold HT.sIx; simp
  rw [e2]
  by_cases hl : i.toNat ≤ xs.length
  · rw [Nat.min_eq_left hl, List.take_of_length_le (by rw [List.length_drop]; exact Nat.le_refl _)]
  · rw [Nat.min_eq_right (by omega), List.drop_length, List.take_nil, List.drop_eq_nil_of_le (by omega)]
end
end G

set_option linter.all false
set_option maxRecDepth 100000
/-! dicts with fixed keys, displays, a tail of cells -/
namespace G
open PySem PySem.Spec PyProof.Rows L2
section
variable {H0 H H' : Hp} {ft : List Addr} {l l' o' : List Cell} {t : Nat} {a p : Addr} {o u : HO} {K : PySem.W.Frag} {σ : L2.St} {Q : VK} {v x y z : V} {i j : Int}
def rDsE (p : Addr) (ps : List (V × V)) (H : Hp) (Q : VK) : Prop := H p = some (.dK []) ∧ ∃ kvs : List (Key × V), ps = kvs.map (fun kv => (kV kv.1, kv.2)) ∧ kvs.length ≤ 15 ∧ Q (.ref p) (upd H p (.dK (mergeK [] kvs)))
theorem x_disp {trs : List (TE × TE)} (S : Sep H0 ft H l) (q : ∀ p H', Sep H0 ft H' ((2, p, .dK []) :: l) → tPairs trs σ H' fun ps H2 => rDsE p ps H2 Q) : tDisp trs σ H Q := fun p hp => q p _ (S.new hp _)
theorem x_dispE {kvs kvs' : List (Key × V)} {ps : List (V × V)} (S : Sep H0 ft H l) (n : Nat) (h : l[n]? = some (t, p, .dK [])) (e : ps = kvs.map (fun kv => (kV kv.1, kv.2))) (hl : kvs.length ≤ 15) (hm : mergeK [] kvs = kvs') (q : ∀ H', Sep H0 ft H' (l.set n (t, p, .dK kvs')) → Q (.ref p) H')
    (ht : t = 1 ∨ t = 2 := by first | exact .inl rfl | exact .inr rfl) : rDsE p ps H Q := ⟨S.get n h, kvs, e, hl, by rw [hm]; exact q _ (S.put n _ h ht)⟩
theorem x_dputR {kvs kvs' : List (Key × V)} {k : Key} {R : Hp → Prop} (S : Sep H0 ft H l) (n : Nat) (h : l[n]? = some (t, p, .dK kvs)) (e : putK kvs k v = kvs') (hl : kvs.length < 100000) (q : ∀ H', Sep H0 ft H' (l.set n (t, p, .dK kvs')) → R H')
    (ht : t = 1 ∨ t = 2 := by first | exact .inl rfl | exact .inr rfl) : rDPut (.ref p) (kV k) v H R := x_dput S n h hl (fun H' S' => q H' (by rw [← e]; exact S')) ht
theorem x_pop0 {xs : List V} (S : Sep H0 ft H l) (n : Nat) (h : l[n]? = some (t, p, .lst (x :: xs))) (q : ∀ H', Sep H0 ft H' (l.set n (t, p, .lst xs)) → Q x H') (ht : t = 1 ∨ t = 2 := by first | exact .inl rfl | exact .inr rfl) : rPopAt (.ref p) [.int 0] H Q :=
  ⟨p, _, 0, 0, x, rfl, rfl, S.get n h, by decide, by decide, by unfold seqIndex?; simp, rfl, q _ (S.put n _ h ht)⟩
/-- some of the first n cells, in another order, ahead of the others -/
theorem Sep.subT (S : Sep H0 ft H l) (n : Nat) (is : List Nat) (hn : is.Nodup := by decide) (hb : (is.all fun i => decide (i < n)) = true := by decide) : Sep H0 ft H (is.filterMap (l[·]?) ++ l.drop n) := by
  have hm : ∀ c ∈ is.filterMap (l[·]?) ++ l.drop n, c ∈ l := fun c hc => by
    rcases List.mem_append.mp hc with hc | hc
    · obtain ⟨j, _, ej⟩ := List.mem_filterMap.mp hc
      exact List.mem_of_getElem? ej
    · exact List.mem_of_mem_drop hc
  refine ⟨?_, fun c hc => S.rd c (hm c hc), S.fr, fun c hc => S.wr c (hm c hc), fun c hc => S.nw c (hm c hc), S.ex⟩
  have e1 : (is.filterMap (l[·]?)).map (·.2.1) = is.filterMap ((l.map (·.2.1))[·]?) := by
    rw [List.map_filterMap]
    congr 1
    funext i
    rw [List.getElem?_map]
  rw [List.map_append, List.map_drop, e1]
  refine List.nodup_append.mpr ⟨nodup_of _ is hn S.nd, List.Sublist.nodup (List.drop_sublist _ _) S.nd, fun b hb1 c hc1 e => ?_⟩
  subst e
  obtain ⟨i, hi, ei⟩ := List.mem_filterMap.mp hb1
  have hin : i < n := of_decide_eq_true (List.all_eq_true.mp hb i hi)
  obtain ⟨j, hj⟩ := List.mem_iff_getElem?.mp hc1
  rw [List.getElem?_drop] at hj
  obtain ⟨x1, e1'⟩ := List.getElem?_eq_some_iff.mp ei
  obtain ⟨x2, e2'⟩ := List.getElem?_eq_some_iff.mp hj
  have := (List.getElem_inj S.nd).mp (e1'.trans e2'.symm)
  omega
/-- what a def with two cells of its own is given -/
theorem Sep.give3 {t1 t2 t3 : Nat} {p q r : Addr} {o1 o2 o3 : HO} (S : Sep H0 ft H l) (i j k : Nat) (hi : l[i]? = some (t1, p, o1)) (hj : l[j]? = some (t2, q, o2)) (hk : l[k]? = some (t3, r, o3)) (hn : [i, j, k].Nodup) : Sep H [p, q] H [(1, p, o1), (1, q, o2), (0, r, o3)] := by
  have h := S.sub [i, j, k] hn
  simp only [List.filterMap_cons, hi, hj, hk, List.filterMap_nil] at h
  refine h.retag rfl ?_ ?_ ?_
  · simp
  · simp
  · simp
theorem x_ilistS {xs : List V} {R : It → Hp → Prop} (hs : SqL K H p xs) (q : R (Itl K p) H) : rIL K (.ref p) H R := ⟨p, rfl, ⟨xs, hs⟩, q⟩
def AllP {α : Type} (p : α → Prop) : List α → Prop
  | [] => True
  | a :: r => p a ∧ AllP p r
theorem AllP.all {α : Type} {p : α → Prop} : ∀ {us : List α}, AllP p us → ∀ u ∈ us, p u
  | a :: r, ⟨h, hr⟩, u, hu => (List.mem_cons.mp hu).elim (fun e => e ▸ h) fun m => AllP.all hr u m
theorem fold_addr {us : List (Nat × Cell)} : ∀ {l : List Cell}, (∀ u ∈ us, ∃ o, l[u.1]? = some (u.2.1, u.2.2.1, o)) → (us.map (·.1)).Nodup → (us.foldl (fun l u => l.set u.1 u.2) l).map (·.2.1) = l.map (·.2.1) := by
  induction us with
  | nil => intro l _ _; rfl
  | cons u us ih =>
    intro l hi hn
    obtain ⟨n1, n2⟩ := List.nodup_cons.mp hn
    rw [List.foldl_cons, ih (fun v hv => ?_) n2]
    · obtain ⟨o, ho⟩ := hi u List.mem_cons_self
      exact map_set ho
    · obtain ⟨o, ho⟩ := hi v (List.mem_cons_of_mem _ hv)
      exact ⟨o, by rw [List.getElem?_set_ne (fun z => n1 (List.mem_map.mpr ⟨v, hv, z.symm⟩))]; exact ho⟩
/-- new cells beside those that are -/
theorem Sep.join {ft' : List Addr} {m : List Cell} (S : Sep H0 ft H l) (S1 : Sep H0 ft H' l') (e : l'.map (·.2.1) = l.map (·.2.1)) (S' : Sep H ft' H' (m ++ o')) (hm : ∀ c ∈ m, c.1 = 2) : Sep H0 ft H' (m ++ l') := by
  have hd : ∀ c ∈ m, H c.2.1 = none := fun c hc => S'.nw c (List.mem_append_left _ hc) (hm c hc)
  have nd' := S'.nd
  rw [List.map_append] at nd'
  refine ⟨?_, fun c hc => (List.mem_append.mp hc).elim (fun h => S'.rd c (List.mem_append_left _ h)) (S1.rd c), S1.fr, fun c hc e1 => (List.mem_append.mp hc).elim (fun h => by rw [hm c h] at e1; cases e1) (fun h => S1.wr c h e1),
    fun c hc e1 => (List.mem_append.mp hc).elim (fun h => S.none0 (hd c h)) (fun h => S1.nw c h e1), S1.ex⟩
  rw [List.map_append]
  refine List.nodup_append.mpr ⟨(List.nodup_append.mp nd').1, S1.nd, fun a ha b hb z => ?_⟩
  subst z
  obtain ⟨c, hc, rfl⟩ := List.mem_map.mp ha
  rw [e] at hb
  obtain ⟨d, hd2, ed⟩ := List.mem_map.mp hb
  have := S.rd d hd2
  rw [ed, hd c hc] at this
  cases this
/-- behind a call: n new cells and the changed ones are told by the callee's own list -/
theorem Sep.call {L : List Cell} (S : Sep H0 ft H l) (n : Nat) (us : List (Nat × Cell)) (hi : AllP (fun u : Nat × Cell => ∃ o, l[u.1]? = some (u.2.1, u.2.2.1, o) ∧ (u.2.1 = 1 ∨ u.2.1 = 2)) us) (hn : (us.map (·.1)).Nodup) (S' : Sep H (us.map (·.2.2.1)) H' L)
    (e : L.drop n = us.map (fun u => (1, u.2.2)) := by rfl) (hm : AllP (fun c : Cell => c.1 = 2) (L.take n) := by first | trivial | exact ⟨rfl, trivial⟩ | exact ⟨rfl, rfl, trivial⟩ | exact ⟨rfl, rfl, rfl, trivial⟩ | exact ⟨rfl, rfl, rfl, rfl, trivial⟩) : Sep H0 ft H' (L.take n ++ us.foldl (fun l u => l.set u.1 u.2) l) := by
  have hi1 : ∀ u ∈ us, ∃ o, l[u.1]? = some (u.2.1, u.2.2.1, o) := fun u hu => let ⟨o, h, _⟩ := hi.all u hu; ⟨o, h⟩
  have S1 := S.chgs us hi1 (fun u hu => let ⟨_, _, h⟩ := hi.all u hu; h) hn S'.fr (fun u hu => by
    have : ((1, u.2.2) : Cell) ∈ L := List.mem_of_mem_drop (i := n) (by rw [e]; exact List.mem_map.mpr ⟨u, hu, rfl⟩)
    exact S'.rd (1, u.2.2) this)
  rw [← List.take_append_drop n L] at S'
  exact S.join S1 (fold_addr hi1 hn) S' hm.all
end
end G

set_option linter.all false
set_option maxRecDepth 100000
/-! texts -/
namespace G
open PySem PySem.Spec PyProof.Rows L2
theorem len_app (a b : Str) : (a ++ b).length = a.length + b.length := by
  show (a.cps ++ b.cps).size = _
  rw [Array.size_append]; rfl
theorem len_join0 : ∀ ys : List Str, (Txt.join "" ys).length = (ys.map (·.length)).sum := by
  intro ys
  rw [TL.join_eq]
  induction ys with
  | nil => rfl
  | cons y r ih =>
    cases r with
    | nil => show y.length = y.length + 0; omega
    | cons z r =>
      show (y ++ ("" : Str) ++ Str.join "" (z :: r)).length = _
      rw [len_app, len_app, ih]
      rfl
theorem len_cut8 (z : Str) : (cutS z none (some 8)).length = min z.length 8 := by
  unfold cutS
  have e1 : HT.sIx z.length 0 none = 0 := by unfold HT.sIx; simp
  have e2 : HT.sIx z.length z.length (some 8) = min 8 z.length := HT.sIx_nat z.length z.length 8
  rw [e1, e2]
  show ((z.cps.toList.drop 0).take (min 8 z.length - 0)).toArray.size = _
  rw [List.size_toArray, List.length_take, List.drop_zero, Array.length_toList, Nat.sub_zero]
  show min (min 8 z.length) z.length = _
  omega
theorem inV_str (s : Str) (ss : List Str) : inV (.str s) (ss.map V.str) = decide (s ∈ ss) := by
  unfold inV
  induction ss with
  | nil => rfl
  | cons a r ih =>
    rw [List.map_cons, List.any_cons, ih]
    show ((a == s) || decide (s ∈ r)) = _
    by_cases h : s = a
    · subst h; simp
    · have : (a == s) = false := by
        apply Bool.eq_false_iff.mpr
        intro e
        exact h (eq_of_beq e).symm
      rw [this, Bool.false_or]
      exact decide_eq_decide.mpr ⟨fun m => List.mem_cons_of_mem _ m, fun m => (List.mem_cons.mp m).elim (fun e => absurd e h) id⟩
theorem flat_strs (ss : List Str) : (ss.map V.str).all flatV = true := List.all_eq_true.mpr fun v hv => by obtain ⟨s, _, rfl⟩ := List.mem_map.mp hv; rfl
section
variable {H0 H H' : Hp} {ft : List Addr} {l : List Cell} {t : Nat} {a p : Addr} {K : PySem.W.Frag} {σ : L2.St} {Q : VK} {v x y z : V} {i j : Int}
theorem op_inK {X : Cx} (K : PySem.W.Frag) (h : X.K = K := by rfl) : OpR X (compareOp .In) (rIn K false) := by subst h; exact op_in_seq
theorem op_niK {X : Cx} (K : PySem.W.Frag) (h : X.K = K := by rfl) : OpR X (compareOp .NotIn) (rIn K true) := by subst h; exact op_notIn_seq
theorem x_inS {s : Str} {ss : List Str} (S : Sep H0 ft H l) (n : Nat) (h : l[n]? = some (t, p, .lst (ss.map V.str))) (q : Q (.bl (decide (s ∈ ss))) H) : rIn K false (.str s) (.ref p) H Q :=
  ⟨p, _, rfl, .inl (S.sl n h), rfl, flat_strs ss, by rw [inV_str]; exact q⟩
theorem x_niS {s : Str} {ss : List Str} (S : Sep H0 ft H l) (n : Nat) (h : l[n]? = some (t, p, .lst (ss.map V.str))) (q : Q (.bl (!decide (s ∈ ss))) H) : rIn K true (.str s) (.ref p) H Q :=
  ⟨p, _, rfl, .inl (S.sl n h), rfl, flat_strs ss, by rw [inV_str]; exact q⟩
def rAddS : V → V → Hp → VK → Prop := fun x y H Q => ∃ i j, x = .str i ∧ y = .str j ∧ i.length + j.length ≤ sizeLine ∧ Q (.str (i ++ j)) H
theorem op_addS {X : Cx} : OpR X (binaryOp .Add) rAddS := op_add_str
theorem x_addS {a b : Str} (h : a.length + b.length ≤ 100000) (q : Q (.str (a ++ b)) H) : rAddS (.str a) (.str b) H Q := ⟨a, b, rfl, rfl, Nat.le_trans h (by decide), q⟩
theorem x_slStr {s : Str} {lo hi : Option Int} (h : s.length ≤ 100000) (q : Q (.str (cutS s lo hi)) H) : rSlS (.str s) lo hi H Q := ⟨s, rfl, Nat.le_trans h (by decide), q⟩
def rJoin (K : PySem.W.Frag) : V → List V → Hp → VK → Prop := fun x xs H Q => ∃ a p, ∃ ys : List Str, x = .str a ∧ xs = [.ref p] ∧ (SqL K H p (ys.map V.str) ∨ SqT K H p (ys.map V.str)) ∧ (ys.map (·.length)).sum + ys.length * a.length ≤ 16777216 ∧ Q (.str (Txt.join a ys)) H
theorem mt_joinK {X : Cx} (K : PySem.W.Frag) (h : X.K = K := by rfl) : MtR X "str.join" (rJoin K) := by subst h; exact mt_join
theorem x_joinS {s : Str} {ys : List Str} (S : Sep H0 ft H l) (n : Nat) (h : l[n]? = some (t, p, .lst (ys.map V.str))) (hl : (ys.map (·.length)).sum + ys.length * s.length ≤ 16777216) (q : Q (.str (Txt.join s ys)) H) : rJoin K (.str s) [.ref p] H Q := ⟨s, p, ys, rfl, rfl, .inl (S.sl n h), hl, q⟩
theorem x_lcappS {ss : List Str} {s : Str} {R : Hp → Prop} (S : Sep H0 ft H l) (n : Nat) (h : l[n]? = some (t, p, .lst (ss.map V.str))) (hl : ss.length < 100000) (q : ∀ H', Sep H0 ft H' (l.set n (t, p, .lst ((ss ++ [s]).map V.str))) → R H') (ht : t = 1 ∨ t = 2 := by first | exact .inl rfl | exact .inr rfl) :
    rLcA p (.str s) H R := x_lcapp S n h (by rw [List.length_map]; exact hl) (fun H' S' => q H' (by rw [List.map_append]; exact S')) ht
theorem x_appS {ss : List Str} {s : Str} (S : Sep H0 ft H l) (n : Nat) (h : l[n]? = some (t, p, .lst (ss.map V.str))) (hl : ss.length < 100000) (q : ∀ H', Sep H0 ft H' (l.set n (t, p, .lst ((ss ++ [s]).map V.str))) → Q .non H') (ht : t = 1 ∨ t = 2 := by first | exact .inl rfl | exact .inr rfl) :
    rAppend (.ref p) [.str s] H Q := x_app S n h (by rw [List.length_map]; exact hl) (fun H' S' => q H' (by rw [List.map_append]; exact S')) ht
def rStr : V → Hp → (It → Hp → Prop) → Prop := fun v H R => ∃ x, v = .str x ∧ R (Its x) H
def iStr1 (te : TE) : TI := fun σ H R => te σ H fun v H1 => rStr v H1 R
theorem pi_str1 {X : Cx} {tg e : Expr} {te : TE} (he : PE X e te) : PI X tg e (iStr1 te) := pi_str he
theorem x_istr {s : Str} {R : It → Hp → Prop} (q : R (Its s) H) : rStr (.str s) H R := ⟨s, rfl, q⟩
end
/-- small letters alone -/
def Low (s : Str) : Prop := ∀ c ∈ s.cps.toList, 97 ≤ c ∧ c ≤ 122
/-- a name: one to eight small letters -/
structure OkN (s : Str) : Prop where
  l1 : 1 ≤ s.length
  l8 : s.length ≤ 8
  low : Low s
def IsN (v : V) : Prop := ∃ s, v = .str s ∧ OkN s
theorem Low.app {a b : Str} (h : Low a) (h' : Low b) : Low (a ++ b) := fun c hc => by
  have : c ∈ a.cps.toList ++ b.cps.toList := by
    rw [← Array.toList_append]; exact hc
  exact (List.mem_append.mp this).elim (h c) (h' c)
theorem Low.cut {z : Str} {lo hi : Option Int} (h : Low z) : Low (cutS z lo hi) := fun c hc => by
  unfold cutS at hc
  exact h c (List.mem_of_mem_drop (List.mem_of_mem_take hc))
theorem Low.join : ∀ {ys : List Str}, (∀ y ∈ ys, Low y) → Low (Txt.join "" ys) := by
  intro ys h
  rw [TL.join_eq]
  induction ys with
  | nil => exact fun c hc => by cases hc
  | cons y r ih =>
    cases r with
    | nil => exact h y List.mem_cons_self
    | cons z r => exact ((h y List.mem_cons_self).app (fun c hc => by cases hc)).app (ih fun w hw => h w (List.mem_cons_of_mem _ hw))
theorem lay_strs : ∀ {ss : List Str}, (∀ s ∈ ss, Low s) → PyData.canLayAll0 (ss.map PyData.str) = true
  | [], _ => rfl
  | s :: r, h => by
    rw [List.map_cons, PyData.canLayAll0, lay_strs fun w hw => h w (List.mem_cons_of_mem _ hw), Bool.and_true]
    show PyData.strOk s = true
    have := h s List.mem_cons_self
    unfold PyData.strOk
    rw [← Array.all_toList]
    exact List.all_eq_true.mpr fun c hc => decide_eq_true (by have := (this c hc).2; omega)
theorem dep_strs : ∀ ss : List Str, PyData.depthAll (ss.map PyData.str) = 0
  | [] => rfl
  | n :: r => by rw [List.map_cons, PyData.depthAll, dep_strs r]; rfl
theorem sh_strs {ss : List Str} (h : ∀ s ∈ ss, Low s) : SeqAt.shaped (.list (ss.map PyData.str)) = true := by
  unfold SeqAt.shaped
  rw [show PyData.canLay0 (.list (ss.map PyData.str)) = true from lay_strs h, PyData.depth, dep_strs]
  rfl
theorem eqv_strs (ns ms : List Str) : PyData.eqv (.list (ns.map PyData.str)) (.list (ms.map PyData.str)) = decide (ns = ms) := PySem.W.Datum.eqv (α := List Str) ns ms
theorem dp_strs {K : PySem.W.Frag} {H : Hp} : ∀ {ss : List Str}, DpAll K H (ss.map V.str) (ss.map PyData.str)
  | [] => .nil
  | s :: r => .cons (.str s) dp_strs
theorem x_neS {K : PySem.W.Frag} {H0 H : Hp} {ft : List Addr} {l : List Cell} {t t' : Nat} {p q : Addr} {ss ts : List Str} {Q : VK} (S : Sep H0 ft H l) (n m : Nat) (h : l[n]? = some (t, p, .lst (ss.map V.str))) (h' : l[m]? = some (t', q, .lst (ts.map V.str))) (hs : ∀ s ∈ ss, Low s) (ht : ∀ s ∈ ts, Low s) (k : Q (.bl (!decide (ss = ts))) H) : rNeD K (.ref p) (.ref q) H Q :=
  ⟨_, _, .lst (S.sl n h) dp_strs, .lst (S.sl m h') dp_strs, sh_strs hs, sh_strs ht, by rw [eqv_strs]; exact k⟩
theorem at0 {α : Type} {x : α} {xs : List α} : atI (x :: xs) 0 = some x := by
  have := atI_nat (xs := x :: xs) (j := 0) (v := x) rfl
  exact this
theorem sum_ones : ∀ {ys : List Str}, (∀ s ∈ ys, s.length = 1) → (ys.map (·.length)).sum = ys.length
  | [], _ => rfl
  | y :: r, h => by rw [List.map_cons, List.sum_cons, h y List.mem_cons_self, sum_ones fun s m => h s (List.mem_cons_of_mem _ m), List.length_cons]; omega
end G

set_option linter.all false
set_option maxRecDepth 100000
set_option maxHeartbeats 2000000
/-! a, *rest = a tuple -/
namespace G
open PySem PySem.Spec PyProof.Rows
theorem nolen_ti : typeLookup (.type "tuple_iterator") "__len__" = pure none := by rw [typeLookup_type, builtinLookup_eq_fast]; kernel_rfl
theorem hint_ti : typeLookup (.type "tuple_iterator") "__length_hint__" = pure (some (.builtin "tuple_iterator.__length_hint__")) := by rw [typeLookup_type, builtinLookup_eq_fast]; kernel_rfl
section
variable {prog : Program} {w : World} {A : Around} {E : Value → Shared → Prop} {s : Shared}
theorem walks_shift {I : Addr} {fp wr : List Addr} {n k : Nat} {P : Nat → Value → Prop} {St : Nat → Heap → Prop} (W : Walks prog w A I fp wr n P St) (hk : k ≤ n) : Walks prog w A I fp wr (n - k) (fun i v => P (k + i) v) (fun i h => St (k + i) h) where
  sub := W.sub
  frame := fun i h h' st hf => W.frame (k + i) h h' st hf
  item := fun i s Q E hi st hQ => W.item (k + i) s Q E (by omega) st hQ
  done := fun s Q E st hQ => W.done s Q E (by have e : k + (n - k) = n := by omega
                                              rw [e] at st; exact st) hQ
  self := fun i s Q E st hQ => W.self (k + i) s Q E st hQ
theorem collect_ti {it t : Addr} {items : Array Value} {k : Nat} {Q : List Value → Shared → Prop} (hh : A.handled = none) (hit : s.heap.IsTupleIter it t k) (ht : s.heap.IsTuple t items) (hne : t ≠ it) (hk : k ≤ items.size) (hn : items.size ≤ sizeLine)
    (hQ : ∀ (h' : Heap) (tk : Nat) (acc : Array Value), (∀ b o, b ≠ it → s.heap.get? b = some o → h'.get? b = some o) → ItemsOf (fun i v => items[k + i]? = some v) acc (items.size - k) → Q acc.toList { s with heap := h', toks := tk }) :
    wpAny (model prog w) A (collect (.ref it)) Q E s := by
  have W := (walks_shift (Walks.tuple (prog := prog) (w := w) (A := A.in1) hh it t hne items) hk).toS
  obtain ⟨oi, hoi, hci, _⟩ := id hit
  obtain ⟨ol, hol, _⟩ := id ht
  have hSi : s.heap.objs.size ≠ it := Nat.ne_of_gt (Heap.lt_size hoi)
  have hSl : s.heap.objs.size ≠ t := Nat.ne_of_gt (Heap.lt_size hol)
  have hSf : s.heap.objs.size ∉ [it, t] := by simp only [List.mem_cons, List.not_mem_nil, or_false, not_or]; exact ⟨hSi, hSl⟩
  unfold collect
  refine wpAny_bind (wpAny_runValue (codeAny_builtin F.entry_proto_collect ?_))
  rw [Around.under_plainId F.plain_proto_collect _]
  show wpAny _ A.in1 (newList [] >>= fun l' => again (.builtin "list.__iadd__" ⟨[l', .ref it], []⟩)) _ _ s
  refine wpAny_bind (wpAny_newObj_type ?_)
  refine wpAny_pure ⟨plainId_quiet F.plain_list_iadd _, codeAny_builtin F.entry_list_iadd ?_⟩
  rw [Around.under_plainId F.plain_list_iadd _]
  have hS₁ : (s.heap.push { cls := .type "list", data := .seq ([] : List Value).toArray }).get? s.heap.objs.size = some { cls := .type "list", data := .seq ([] : List Value).toArray } := Heap.get?_push_size _ rfl
  have hit1 : (s.heap.push { cls := .type "list", data := .seq ([] : List Value).toArray }).IsTupleIter it t k := hit.at fun o e => Heap.get?_push_of_some _ e
  have ht1 : (s.heap.push { cls := .type "list", data := .seq ([] : List Value).toArray }).IsTuple t items := ht.at fun o e => Heap.get?_push_of_some _ e
  have hT : ({ s with heap := s.heap.push { cls := .type "list", data := .seq ([] : List Value).toArray } } : Shared).TypeIs (.ref it) "tuple_iterator" := ⟨oi, Heap.get?_push_of_some _ hoi, hci⟩
  have h1 : Builtin.List.listSameRef (.ref s.heap.objs.size) (.ref it) = false := by simp [Builtin.List.listSameRef, hSi]
  show wpAny _ A.in1 (Builtin.List.listExtendWith (.ref s.heap.objs.size) (.ref it) (.ref s.heap.objs.size)) _ _ _
  unfold Builtin.List.listExtendWith
  refine wpAny_bind (wpAny_typeOf hT ?_)
  rw [if_neg (by rw [h1]; decide)]
  refine wpAny_bind (wpAny_pyIter_tupleiter (s := { s with heap := s.heap.push { cls := .type "list", data := .seq ([] : List Value).toArray } }) hit1 ?_)
  refine wpAny_bind (wpAny_holding ?_)
  unfold Builtin.List.listLengthHint
  refine wpAny_bind (wpAny_specialOf hT nolen_ti ?_)
  show wpAny _ A.in1 (specialOf (Value.ref it) (Str.ofString "__length_hint__") >>= _) _ _ _
  refine wpAny_bind (wpAny_specialOf hT hint_ti ?_)
  generalize hid : ("tuple_iterator.__length_hint__" : String) = id0
  wp_delta
  rw [show splitId id0 = some ("tuple_iterator", "__length_hint__") from by subst hid; decide +kernel]
  subst hid
  refine wpAny_bind (wpAny_isInstance (b := true) hT (by rw [isSubtype_type]; kernel_rfl) ?_)
  refine wpAny_pure ?_
  rw [if_neg (by decide)]
  refine wpAny_pure ⟨plainId_quiet F.plain_extend_loop _, codeAny_extend_loopS W (by omega) _ hSf _ (items.size - k) 0 _ _ _ rfl (Nat.zero_le _) ⟨hit1, ht1⟩ hS₁ (ItemsOf.nil _) fun s' acc' c' hm hS' hacc => ?_⟩
  show wpAny _ A (load s.heap.objs.size >>= _) _ _ s'
  refine wpAny_bind (wpAny_load hS' ?_)
  refine wpAny_pure ?_
  rw [Moved.eq_with hm]
  refine hQ s'.heap s'.toks acc' (fun b o hb e => hm.heap b o (fun hmem => ?_) (Heap.get?_push_of_some _ e)) hacc
  rcases List.mem_cons.mp hmem with e' | hmem
  · exact absurd (Heap.lt_size e) (by rw [e']; exact Nat.lt_irrefl _)
  · exact hb (List.mem_singleton.mp hmem)
theorem unpackItems_star {t : Addr} {items : Array Value} {k : Nat} {Q : List Value → Shared → Prop} (hh : A.handled = none) (ht : IsTup s.heap t items) (hk : k ≤ items.size) (hn : items.size ≤ sizeLine)
    (hQ : ∀ (h' : Heap) (tk : Nat), Heap.ExtBut s.heap.objs.size s.heap h' → Q (items.toList.take k ++ [.ref h'.objs.size]) { s with heap := h'.push { cls := .type "list", data := .seq (items.toList.drop k).toArray }, toks := tk }) : wpAny (model prog w) A (unpackItems (.ref t) (k + 1) (some k)) Q E s := by
  have hlt : t ≠ s.heap.objs.size := by obtain ⟨o, ho, _⟩ := ht; exact Nat.ne_of_lt (Heap.lt_size ho)
  unfold unpackItems
  refine wpAny_bind ?_
  · unfold notIterableAtAll
    refine wpAny_bind (wpAny_specialOf ht.typeIs slot_tuple_iter.lookup ?_)
    refine wpAny_pure ?_
    simp only [Bool.false_eq_true, if_false]
    refine wpAny_bind (wpAny_holding (iter_tuple ht ?_))
    refine wpAny_bind (wpAny_holding (draw_tuple hlt k 0 _ _ ⟨_, Heap.get?_push_size _ rfl, rfl, rfl⟩ (ht.push _) (by omega) fun h₁ hit₁ hs₁ => ?_))
    rw [List.drop_zero]
    have hl1 : (items.toList.take k).length = k := by rw [List.length_take, Array.length_toList]; omega
    rw [if_neg (by rw [hl1]; omega)]
    have ht₁ : IsTup h₁ t items := (ht.push _).extBut hs₁.extBut hlt
    rw [Nat.zero_add] at hit₁
    refine wpAny_bind (wpAny_holding (collect_ti hh (s := { s with heap := h₁ }) (k := k) hit₁ ht₁ hlt hk hn fun h₂ tk acc hx hacc => ?_))
    have hall : acc.toList = items.toList.drop k := by
      apply List.ext_getElem?
      intro j
      rw [List.getElem?_drop]
      by_cases hj : j < acc.size
      · have e1 : acc.toList[j]? = some acc[j] := by rw [Array.getElem?_toList, Array.getElem?_eq_getElem hj]
        have := hacc.2 j acc[j] (Array.getElem?_eq_getElem hj)
        rw [e1, Array.getElem?_toList, this]
      · have hs := hacc.1
        rw [List.getElem?_eq_none (by rw [Array.length_toList]; omega), List.getElem?_eq_none (by rw [Array.length_toList]; omega)]
    rw [hall]
    rw [show k + 1 - 1 - k = 0 by omega]
    rw [if_neg (by omega), Nat.sub_zero, List.take_length, List.drop_length]
    refine wpAny_bind (wpAny_newList ?_)
    refine wpAny_pure ?_
    rw [List.append_nil]
    exact hQ h₂ tk fun b o hb e => hx b o hb (hs₁.extBut b o hb (Heap.get?_push_of_some _ e))
end
end G
namespace L2
open PySem PySem.Spec PyProof.Rows
section
variable {X : Cx} {pos : Pos}
/-- (a, .., *rest) = a tuple -/
def gStar (K : PySem.W.Frag) (k : Nat) (t : TGs) : TG := fun v σ H Q => ∃ a xs, v = .ref a ∧ SqT K H a xs ∧ k ≤ xs.length ∧ ∀ r, H r = none → t (xs.take k ++ [.ref r]) σ (upd H r (.lst (xs.drop k))) Q
theorem vals_take : ∀ {xs : List V} {us : List Value} (k : Nat), Vals xs us → Vals (xs.take k) (us.take k)
  | _, _, 0, _ => .nil
  | _, _, _ + 1, .nil => .nil
  | _, _, k + 1, .cons r h => .cons r (vals_take k h)
theorem vals_drop : ∀ {xs : List V} {us : List Value} (k : Nat), Vals xs us → Vals (xs.drop k) (us.drop k)
  | _, _, 0, h => h
  | _, _, _ + 1, .nil => .nil
  | _, _, k + 1, .cons _ h => vals_drop k h
theorem pgs_star {e : Expr} {p : Pos} {t : TG} (h1 : PG X e t) : PGs X [.Starred e p] (gCons t gNil) := by
  refine ⟨fun pins s σ H vs us Q I r h => ?_⟩
  obtain ⟨v, vr, e1, h⟩ := h
  subst e1
  cases r with
  | cons r rr =>
    show wpAny _ _ (assignInOrder [assign e X.env] _) _ _ _
    refine assignInOrder_cons (thn (h1.run pins s σ H _ _ _ I r h) fun _ s1 ⟨σ1, H1, I1, q1⟩ => ?_)
    obtain ⟨e2, q1⟩ := q1
    subst e2
    cases rr
    exact assignInOrder_nil ⟨σ1, H1, I1, q1⟩
theorem pg_star {es : List Expr} {j : Nat} {t : TGs} (K : PySem.W.Frag) (k : Nat) (hc : X.calm = true) (h : PGs X es t) (hn : (assignEach es X.env).length = k + 1 := by rfl) (hst : (assignEach es X.env).findIdx? (·.1) = some k := by rfl) (hK : X.K = K := by rfl) : PG X (.Tuple es j pos) (gStar K k t) := by
  subst hK
  refine ⟨fun pins s σ H v u Q I r hw => ?_⟩
  obtain ⟨a, xs, e1, hq, hl, hw⟩ := hw
  subst e1
  cases r
  obtain ⟨its, rv, ht, hz⟩ := I.tuple hq
  rw [PyProof.Rows.assign_Tuple]
  refine wpAny_bind (wpAny_standAt ?_)
  unfold unpack
  rw [hn, hst]
  have hlen := rv.length
  refine wpAny_bind (wpAny_holding (G.unpackItems_star (I.ok.hd hc) ht (by rw [List.size_toArray]; omega) (by rw [List.size_toArray]; omega) fun h' tk hx => ?_))
  have I1 : Inv X pins σ H { s with heap := h', toks := tk } := I.kept (t' := tk) fun b o e => hx b o (Nat.ne_of_lt (Heap.lt_size e)) e
  have I2 := I1.lnew (ys := xs.drop k) (its := its.drop k) (t' := tk) (vals_drop k rv) (by rw [List.length_drop]; omega)
  exact h.run pins _ σ _ (xs.take k ++ [.ref h'.objs.size]) _ Q I2 ((vals_take k rv).append (show Vals [V.ref h'.objs.size] [Value.ref h'.objs.size] from .cons rfl .nil)) (hw _ I1.fresh)
end
end L2

set_option linter.all false
set_option maxRecDepth 100000
/-! cells in a tail; star targets over the cells -/
namespace G
open PySem PySem.Spec PyProof.Rows L2
section
variable {H0 H H' : Hp} {ft : List Addr} {l l' m T : List Cell} {t : Nat} {a p : Addr} {o u : HO} {K : PySem.W.Frag} {σ : L2.St} {Q : VK} {v x y z : V} {i j : Int}
theorem Sep.perm (S : Sep H0 ft H l) (p : l'.Perm l) : Sep H0 ft H l' :=
  ⟨(p.map _).nodup_iff.mpr S.nd, fun c hc => S.rd c (p.mem_iff.mp hc), S.fr, fun c hc => S.wr c (p.mem_iff.mp hc), fun c hc => S.nw c (p.mem_iff.mp hc), S.ex⟩
/-- the new ones go behind the first n -/
theorem Sep.tail (S : Sep H0 ft H (m ++ l)) (n : Nat) : Sep H0 ft H (l.take n ++ (m ++ l.drop n)) := by
  refine S.perm ?_
  have h := List.perm_append_comm_assoc (l.take n) m (l.drop n)
  rw [List.take_append_drop] at h
  exact h
theorem Sep.callM (S : Sep H0 ft H l) (us : List (Nat × Cell)) (hi : AllP (fun u : Nat × Cell => ∃ o, l[u.1]? = some (u.2.1, u.2.2.1, o) ∧ (u.2.1 = 1 ∨ u.2.1 = 2)) us) (hn : (us.map (·.1)).Nodup) (S' : Sep H (us.map (·.2.2.1)) H' (m ++ us.map (fun u => (1, u.2.2)))) (hm : ∀ c ∈ m, c.1 = 2) :
    Sep H0 ft H' (m ++ us.foldl (fun l u => l.set u.1 u.2) l) := by
  have hi1 : ∀ u ∈ us, ∃ o, l[u.1]? = some (u.2.1, u.2.2.1, o) := fun u hu => let ⟨o, h, _⟩ := hi.all u hu; ⟨o, h⟩
  have S1 := S.chgs us hi1 (fun u hu => let ⟨_, _, h⟩ := hi.all u hu; h) hn S'.fr (fun u hu => S'.rd (1, u.2.2) (List.mem_append_right _ (List.mem_map.mpr ⟨u, hu, rfl⟩)))
  exact S.join S1 (fold_addr hi1 hn) S' hm
theorem Sep.cellT (S : Sep H0 ft H l) (n : Nat) {c : Cell} (h : c ∈ l.drop n) : H c.2.1 = some c.2.2 := S.rd c (List.mem_of_mem_drop h)
theorem cl_listK2 : True := trivial
/-- a cell of the tail -/
theorem Sep.cell (S : Sep H0 ft H l) {c : Cell} (h : c ∈ l) : H c.2.1 = some c.2.2 := S.rd c h
theorem x_star {n : Nat} {xs : List V} {tg : TGs} {Qg : L2.St → Hp → Prop} (S : Sep H0 ft H l) (h : SqT K H p xs) (hl : n ≤ xs.length) (q : ∀ r H', Sep H0 ft H' ((2, r, .lst (xs.drop n)) :: l) → tg (xs.take n ++ [.ref r]) σ H' Qg) : gStar K n tg (.ref p) σ H Qg :=
  ⟨p, xs, rfl, h, hl, fun r hr => q r _ (S.new hr _)⟩
theorem x_ixTf {xs : List V} (h : H p = some (.tup xs)) (ha : atI xs i = some v) (q : Q v H) : rIxT K (.ref p) (.int i) H Q := ⟨p, xs, i, v, rfl, rfl, .of h, ha, q⟩
theorem x_catT {q1 : Addr} {t' : Nat} {xs ys : List V} (S : Sep H0 ft H l) (n m : Nat) (h : l[n]? = some (t, p, .tup xs)) (h' : l[m]? = some (t', q1, .tup ys)) (h0 : xs ≠ []) (h1 : ys ≠ []) (hl : xs.length + ys.length ≤ 100000) (q : ∀ r H', Sep H0 ft H' ((2, r, .tup (xs ++ ys)) :: l) → Q (.ref r) H') : rCatT K (.ref p) (.ref q1) H Q :=
  ⟨p, q1, xs, ys, rfl, rfl, S.st n h, S.st m h', h0, Nat.le_trans hl (by decide), fun e => absurd e h1, fun _ => x_new S _ q⟩
theorem op_catTK {X : Cx} (K : PySem.W.Frag) (h : X.K = K := by rfl) : OpR X (binaryOp .Add) (rCatT K) := by subst h; exact op_catT
theorem x_dgetF {od : Obj} {kvs : List (Key × V)} {k : Key} (S : Sep H0 ft H l) (n : Nat) (h : l[n]? = some (t, p, .frz od (.dK kvs))) (hv : valV kvs k = some v) (q : Q v H) : rDGet (.ref p) (kV k) H Q := ⟨p, v, rfl, .inl ⟨kvs, k, .inr ⟨od, S.get n h⟩, rfl, hv.symm⟩, q⟩
end
end G

set_option linter.all false
set_option maxRecDepth 100000
/-! exceptions: raised, let out of a method, caught -/
namespace G
open PySem PySem.Spec PyProof.Rows L2
/-- a class of the program's own, below ValueError, without an __init__ -/
structure ExcC (K : PySem.W.Frag) (mg : Str → Option Value) (x : Str) (C : Addr) : Prop where
  g : mg x = some (.ref C)
  q : PySem.W.excIn K C [.type "ValueError", .type "Exception", .type "BaseException", .type "object"] "ValueError.__new__" = true
  k : PySem.W.keepIn K (.ref C) = true
  s : PySem.W.subIn K (.ref C) (.type "BaseException") = some true
  t : PySem.W.typeIn K (.ref C) = some (.type "type")
theorem ps_raiseC {X : Cx} {W : WX} {x m : Str} {C : Addr} {j : Nat} {p p2 pos pos2 : Pos} (c : ExcC X.K X.mg x C) (hc : X.calm = true) (tk : Takes X W) (hg : Gl X x) (hdb : (x == ("__debug__" : Str)) = false := by decide) :
    PS X (.Raise (some (.Call (.Name x p) [.Constant (.str m) j p2] [] pos)) none pos2) (fun _ σ H => W (.ref C) none σ H) :=
  ps_raise hc tk (pmk_own F.excBase_ValueError c.q c.g c.k (raises_own c.s c.t) hg hdb)
theorem exm_sub {K : PySem.W.Frag} {S T : Addr} (h1 : PySem.W.subIn K (.ref T) (.type "BaseException") = some true) (h2 : PySem.W.isClsIn K T = true) (h3 : PySem.W.typeIn K (.ref T) = some (.type "type")) {b : Bool} (h4 : PySem.W.subIn K (.ref S) (.ref T) = some b) :
    PySem.W.exmOne K (.ref S) (.ref T) = some b := by
  have e1 : (PySem.W.subIn K (.ref T) (.type "BaseException") == some true) = true := by rw [h1] <;> rfl
  have e2 : ((PySem.W.clsIn K T).isSome && PySem.W.typeIn K (.ref T) == some (.type "type")) = true := by
    have h2' : (PySem.W.clsIn K T).isSome = true := h2
    rw [h2', h3] <;> rfl
  show (if (PySem.W.subIn K (.ref T) (.type "BaseException") == some true) = true then (if ((PySem.W.clsIn K T).isSome && PySem.W.typeIn K (.ref T) == some (.type "type")) = true then PySem.W.subIn K (.ref S) (.ref T) else none) else none) = some b
  rw [if_pos e1, if_pos e2]
  exact h4
/-- a method that may let an exception out, under a try -/
def tMethS1 (C : Addr) (m : Str) (sp : Sp) (E : L2.St → XK) (ta : TE) (t : TA) : TE := fun σ H Q => ta σ H fun x H1 => rMe C m x H1 (t σ H1 fun vs H2 => sp (x :: vs) H2 Q (E σ))
section
variable {X : Cx} {CX : CXT} {k j : Nat} {C : Addr} {x m : Str} {sp : Sp} {E : L2.St → XK} {p pos apos : Pos} {e o : Expr} {es : List Expr} {ta : TE} {t : TA}
theorem pe_mtS {pl : Sem Bool} (c : Met X.prog X.w X.K X.mg X.base CX k C m sp) (hr : Room k X.A) (hx : ∀ σ, PassesAt CX X σ (E σ)) (he : PE X o ta) (ha : PA X (e :: es) t)
    (hst : starEach (e :: es) X.env = (false, eval e X.env) :: starEach es X.env := by rfl) (hpl : (backTo pos (starEach es X.env)).any (·.1) = false := by rfl)
    (ht : eval (.Call (.Attribute o m apos) (e :: es) [] pos) X.env = (do
      let ov ← eval o X.env
      standAt apos.atName
      let (f, first) ← holding [ov] (getMethod ov m pl)
      callWith pos f first (backTo pos (starEach (e :: es) X.env)) (backToKw pos (keywordEach [] X.env))) := by rfl) :
    PE X (.Call (.Attribute o m apos) (e :: es) [] pos) (tMethS1 C m sp E ta t) := by
  obtain ⟨f, fd, ps, c1, hm, F, b⟩ := c.ex
  refine ⟨fun pins s σ H Q I h => ?_⟩
  refine PySem.W.methodCall_KW (pl := pl) (thn (he.run pins s σ H _ I h) fun u s1 ⟨x, H1, I1, rx, a, dx, fs, ex, ea, l, q⟩ => ?_) ht
  subst ex
  obtain rfl : u = Value.ref a := rx
  refine getmeth_ok I1 ea c1 hm l ?_
  refine PySem.W.callWith_K (first := [.ref a]) (h₀ := X.base) I.ok.mod.kin hm.kp (thn (ha.run pos pins s1 σ H1 _ I1 q) fun us s2 ⟨vs, H2, I2, r, q2⟩ => ⟨I2.kIn, ?_⟩) hst hpl
  exact run_fnS (us := .ref a :: us) (vs := .ref a :: vs) F hr b (hx σ) I2 (.cons rfl r) q2
theorem pe_mtS0 {pl : Sem Bool} (c : Met X.prog X.w X.K X.mg X.base CX k C m sp) (hr : Room k X.A) (hx : ∀ σ, PassesAt CX X σ (E σ)) (he : PE X o ta)
    (ht : eval (.Call (.Attribute o m apos) [] [] pos) X.env = (do
      let ov ← eval o X.env
      standAt apos.atName
      let (f, first) ← holding [ov] (getMethod ov m pl)
      callWith pos f first (backTo pos (starEach [] X.env)) (backToKw pos (keywordEach [] X.env))) := by rfl) :
    PE X (.Call (.Attribute o m apos) [] [] pos) (tMethS1 C m sp E ta tNil) := by
  obtain ⟨f, fd, ps, c1, hm, F, b⟩ := c.ex
  refine ⟨fun pins s σ H Q I h => ?_⟩
  refine PySem.W.methodCall_KW (pl := pl) (thn (he.run pins s σ H _ I h) fun u s1 ⟨x, H1, I1, rx, a, dx, fs, ex, ea, l, q⟩ => ?_) ht
  subst ex
  obtain rfl : u = Value.ref a := rx
  refine getmeth_ok I1 ea c1 hm l ?_
  exact PySem.W.callWith_K0 (first := [.ref a]) I1.kIn hm.kp (run_fnS (us := [.ref a]) (vs := [.ref a]) F hr b (hx σ) I1 (.cons rfl .nil) q)
end
end G

set_option linter.all false
set_option maxRecDepth 100000
set_option maxHeartbeats 4000000
namespace G
open PySem PySem.Spec PyProof.Rows L2
def topS (i : Nat) : Stmt := PySem.Challenge.pw_farasked_k11_whole_ways.main.body.getD i (.Pass ⟨0, 0, 0, 0⟩)
abbrev s_law_draw : Stmt := (topS 10)
theorem sc_law_draw : FnScope ["_law_hold", "_law_many", "_law_spot", "_law_cell", "_law_mark"] ["_law_hold", "_law_many"] (defScope s_law_draw) := ⟨rfl, rfl, rfl, by decide +kernel, rfl, by decide +kernel, by decide +kernel⟩

/-- hold: how many draws, the cells -/
structure Hold (n : Int) (cs : List Int) : Prop where
  ne : cs ≠ []
  len : cs.length ≤ 63
  nn : 0 ≤ n
def spDraw : Sp := fun vs H Q _ => ∃ (p q : Addr) (n m : Int) (cs : List Int), vs = [.ref p, .int m] ∧ H p = some (.lst [.int n, .ref q]) ∧ H q = some (.lst (cs.map V.int)) ∧ p ≠ q ∧ Hold n cs ∧ n < 2 ^ 40 ∧ 0 < m ∧ m < 2 ^ 200 ∧
  ∀ (r : Int) (cs' : List Int) (H' : Hp), 0 ≤ r → r < m → Hold (n + 1) cs' → H' p = some (.lst [.int (n + 1), .ref q]) → H' q = some (.lst (cs'.map V.int)) → (∀ b o, H b = some o → b ≠ p → b ≠ q → H' b = some o) → Q (.int r) H'
theorem c_draw {H0 H : Hp} {ft : List Addr} {l : List Cell} {t t' : Nat} {p q : Addr} {n m : Int} {cs : List Int} {Q : VK} {E : XK} (S : Sep H0 ft H l) (i j : Nat) (hi : l[i]? = some (t, p, .lst [.int n, .ref q])) (hj : l[j]? = some (t', q, .lst (cs.map V.int)))
    (h : Hold n cs) (hn : n < 2 ^ 40) (hm : 0 < m) (hm2 : m < 2 ^ 200)
    (k : ∀ (r : Int) (cs' : List Int) (H' : Hp), 0 ≤ r → r < m → Hold (n + 1) cs' → Sep H0 ft H' ((l.set i (t, p, .lst [.int (n + 1), .ref q])).set j (t', q, .lst (cs'.map V.int))) → Q (.int r) H')
    (d : i ≠ j := by decide) (ht : t = 1 ∨ t = 2 := by first | exact .inl rfl | exact .inr rfl) (ht' : t' = 1 ∨ t' = 2 := by first | exact .inl rfl | exact .inr rfl) : spDraw [.ref p, .int m] H Q E :=
  ⟨p, q, n, m, cs, rfl, S.get i hi, S.get j hj, S.ne i j hi hj d, h, hn, hm, hm2, fun r cs' H' h0 h1 hh e1 e2 F => k r cs' H' h0 h1 hh (S.chg2 i j hi hj d F e1 e2 ht ht')⟩
section
variable {P : Program} {w : World} {K : PySem.W.Frag} {mg : Str → Option Value} {base : Heap}
theorem ok_draw {f : Addr} {fd : FuncData} (F : Fun K "_law_draw" "_law_draw" s_law_draw f fd) (z_len : mg "len" = none) : FnOk P w K mg base CX0 1 f fd ["_law_hold", "_law_many"] spDraw := by
  refine F.ok sc_law_draw (fun vs H Q E h => ?_) (fun cdv A outer s H vs Q E hr h => ?_)
  · obtain ⟨p, q, n, m, cs, rfl, _⟩ := h
    rfl
  · obtain ⟨p, q, n, m, cs, rfl, hp, hq, npq, ⟨hcs, hl, hn0⟩, hn, hm0, hm, k⟩ := h
    have S := Sep.of2 hp hq npq
    have hc0 : 0 < cs.length := List.length_pos_iff.mpr hcs
    refine ⟨_, pss_cons (ps_set (i := 2) sc_law_draw.nd rfl (.inl rfl) (pe_op op_mod (pe_ix (ix_listK K) (pv 0) (pe_int) (fun _ _ => rfl)) (pe_callB (cl_lenK K) (by rfl) z_len PySem.boot_len (pa_cons (pe_ix (ix_listK K) (pv 0) (pe_int) (fun _ _ => rfl)) pa_nil))))
      (pss_cons (ps_set (i := 3) sc_law_draw.nd rfl (.inl rfl) (pe_ix (ix_listK K) (pe_ix (ix_listK K) (pv 0) (pe_int) (fun _ _ => rfl)) (pv 2) (fun _ _ => rfl)))
      (pss_cons (ps_augS (pv 0) (pe_int) get_list (pe_int) ip_add set_list)
      (pss_cons (ps_if (pt_cmpR op_ge (pv 3) (pe_int) (nomark _)) (pss_cons (ps_asg (pe_op op_fdivW (pv 3) (pv 1)) (pg_sub (pe_ix (ix_listK K) (pv 0) (pe_int) (fun _ _ => rfl)) (pv 2) set_list))
      (pss_one (ps_ret (pe_op op_mod (pv 3) (pv 1))))) (pss_nil))
      (pss_cons (ps_set (i := 4) sc_law_draw.nd rfl (.inl rfl) (pe_op op_mod (pe_op op_add (pe_op op_mod (pv 3) (pe_int)) (pe_op op_mul (pe_int) (pe_ix (ix_listK K) (pv 0) (pe_int) (fun _ _ => rfl)))) (pe_int)))
      (pss_cons (ps_set (i := 4) sc_law_draw.nd rfl (.inl rfl) (pe_op op_mod (pe_op op_mul (pe_op op_mod (pe_op op_pow (pv 4) (pe_int)) (pe_int)) (pe_int)) (pe_int)))
      (pss_one (ps_ret (pe_op op_mod (pe_op op_fdivW (pe_op op_mod (pe_op op_pow (pe_op op_add (pv 4) (pe_op op_mul (pe_op op_mod (pv 3) (pe_int)) (pe_ix (ix_listK K) (pv 0) (pe_int) (fun _ _ => rfl)))) (pe_int)) (pe_int)) (pe_int)) (pv 1))))))))), ?_⟩
    rw [show start ["_law_hold", "_law_many", "_law_spot", "_law_cell", "_law_mark"] [V.ref p, V.int m] = [some (V.ref p), some (V.int m), none, none, none] from rfl]
    try dsimp only [tMethS1, WE, tSeq, tAsg, gName, tOp, tUn, tCB, tCons, tNil, tCall, tMethK1, tCallK1, tPar3, tRet, tRetN, tDrop, tTest, tB, tC, tNext, tAugS, tAug, sFld1, sFldAug1, tMeth1, tMake, tMakeK1, tSl, tPart, tNoPart, sDPut1, tDPop, tBM, tBM0, tPar, gSub, tChain, tNot, tNotV, tDG1, tDG2, tDNewT1, iKeys1, iEnum1, iList1, iTup1, iRng1, iRng2, List.set_cons_zero, List.set_cons_succ]
    refine x_var (by exact rfl) ?_
    refine x_ixF S 0 (by exact rfl) (by exact rfl) ?_
    refine x_var (by exact rfl) ?_
    refine x_ixF S 0 (by exact rfl) (by exact rfl) ?_
    refine x_lenI S 1 (by exact rfl) ?_
    refine x_I (by first | decide | (show (0 : Int) < _; omega)) ?_
    try dsimp only [tMethS1, WE, tSeq, tAsg, gName, tOp, tUn, tCB, tCons, tNil, tCall, tMethK1, tCallK1, tPar3, tRet, tRetN, tDrop, tTest, tB, tC, tNext, tAugS, tAug, sFld1, sFldAug1, tMeth1, tMake, tMakeK1, tSl, tPart, tNoPart, sDPut1, tDPop, tBM, tBM0, tPar, gSub, tChain, tNot, tNotV, tDG1, tDG2, tDNewT1, iKeys1, iEnum1, iList1, iTup1, iRng1, iRng2, List.set_cons_zero, List.set_cons_succ]
    refine x_var (by exact rfl) ?_
    refine x_ixF S 0 (by exact rfl) (by exact rfl) ?_
    refine x_var (by exact rfl) ?_
    refine x_ixI S 1 (by exact rfl) (by first | omega | exact Int.emod_nonneg _ (by omega)) (by first | omega | exact Int.emod_lt_of_pos _ (by omega)) (fun v1 hv1 => ?_)
    try dsimp only [tMethS1, WE, tSeq, tAsg, gName, tOp, tUn, tCB, tCons, tNil, tCall, tMethK1, tCallK1, tPar3, tRet, tRetN, tDrop, tTest, tB, tC, tNext, tAugS, tAug, sFld1, sFldAug1, tMeth1, tMake, tMakeK1, tSl, tPart, tNoPart, sDPut1, tDPop, tBM, tBM0, tPar, gSub, tChain, tNot, tNotV, tDG1, tDG2, tDNewT1, iKeys1, iEnum1, iList1, iTup1, iRng1, iRng2, List.set_cons_zero, List.set_cons_succ]
    refine x_var (by exact rfl) ?_
    refine x_ixF S 0 (by exact rfl) (by exact rfl) ?_
    refine x_ip ?_
    refine x_setL S 0 (by exact rfl) (by exact rfl) (fun H S => ?_)
    simp only [List.set_cons_zero, List.set_cons_succ] at S
    try dsimp only [tMethS1, WE, tSeq, tAsg, gName, tOp, tUn, tCB, tCons, tNil, tCall, tMethK1, tCallK1, tPar3, tRet, tRetN, tDrop, tTest, tB, tC, tNext, tAugS, tAug, sFld1, sFldAug1, tMeth1, tMake, tMakeK1, tSl, tPart, tNoPart, sDPut1, tDPop, tBM, tBM0, tPar, gSub, tChain, tNot, tNotV, tDG1, tDG2, tDNewT1, iKeys1, iEnum1, iList1, iTup1, iRng1, iRng2, List.set_cons_zero, List.set_cons_succ]
    refine x_if ?_
    try dsimp only [tMethS1, WE, tSeq, tAsg, gName, tOp, tUn, tCB, tCons, tNil, tCall, tMethK1, tCallK1, tPar3, tRet, tRetN, tDrop, tTest, tB, tC, tNext, tAugS, tAug, sFld1, sFldAug1, tMeth1, tMake, tMakeK1, tSl, tPart, tNoPart, sDPut1, tDPop, tBM, tBM0, tPar, gSub, tChain, tNot, tNotV, tDG1, tDG2, tDNewT1, iKeys1, iEnum1, iList1, iTup1, iRng1, iRng2, List.set_cons_zero, List.set_cons_succ]
    refine x_var (by exact rfl) ?_
    refine x_I0 ?_
    refine ⟨_, rfl, ?_⟩
    refine ited (fun c1 => ?_) (fun c1 => ?_)
    · try dsimp only [tMethS1, WE, tSeq, tAsg, gName, tOp, tUn, tCB, tCons, tNil, tCall, tMethK1, tCallK1, tPar3, tRet, tRetN, tDrop, tTest, tB, tC, tNext, tAugS, tAug, sFld1, sFldAug1, tMeth1, tMake, tMakeK1, tSl, tPart, tNoPart, sDPut1, tDPop, tBM, tBM0, tPar, gSub, tChain, tNot, tNotV, tDG1, tDG2, tDNewT1, iKeys1, iEnum1, iList1, iTup1, iRng1, iRng2, List.set_cons_zero, List.set_cons_succ]
      refine x_var (by exact rfl) ?_
      refine x_var (by exact rfl) ?_
      refine x_I (by first | exact ⟨by decide, by decide⟩ | exact div_ok (by omega) (by omega)) ?_
      refine x_var (by exact rfl) ?_
      refine x_ixF S 0 (by exact rfl) (by exact rfl) ?_
      refine x_var (by exact rfl) ?_
      refine x_setI S 1 (by exact rfl) (by first | omega | exact Int.emod_nonneg _ (by omega)) (by first | omega | exact Int.emod_lt_of_pos _ (by omega)) (fun H S => ?_)
      simp only [List.set_cons_zero, List.set_cons_succ] at S
      try dsimp only [tMethS1, WE, tSeq, tAsg, gName, tOp, tUn, tCB, tCons, tNil, tCall, tMethK1, tCallK1, tPar3, tRet, tRetN, tDrop, tTest, tB, tC, tNext, tAugS, tAug, sFld1, sFldAug1, tMeth1, tMake, tMakeK1, tSl, tPart, tNoPart, sDPut1, tDPop, tBM, tBM0, tPar, gSub, tChain, tNot, tNotV, tDG1, tDG2, tDNewT1, iKeys1, iEnum1, iList1, iTup1, iRng1, iRng2, List.set_cons_zero, List.set_cons_succ]
      refine x_var (by exact rfl) ?_
      refine x_var (by exact rfl) ?_
      refine x_I (by first | decide | (show (0 : Int) < _; omega)) ?_
      refine k _ _ _ ?_ ?_ ⟨?_, ?_, ?_⟩ (S.get 0 rfl) (S.get 1 rfl) S.out2
      · exact Int.emod_nonneg _ (by omega)
      · exact Int.emod_lt_of_pos _ (by omega)
      · first | exact hcs | (intro e; have := congrArg List.length e; rw [List.length_set] at this; exact hcs (List.length_eq_zero_iff.mp this))
      · first | exact hl | (rw [List.length_set]; exact hl)
      · omega
    · try dsimp only [tMethS1, WE, tSeq, tAsg, gName, tOp, tUn, tCB, tCons, tNil, tCall, tMethK1, tCallK1, tPar3, tRet, tRetN, tDrop, tTest, tB, tC, tNext, tAugS, tAug, sFld1, sFldAug1, tMeth1, tMake, tMakeK1, tSl, tPart, tNoPart, sDPut1, tDPop, tBM, tBM0, tPar, gSub, tChain, tNot, tNotV, tDG1, tDG2, tDNewT1, iKeys1, iEnum1, iList1, iTup1, iRng1, iRng2, List.set_cons_zero, List.set_cons_succ]
      refine x_var (by exact rfl) ?_
      refine x_I (by first | decide | (show (0 : Int) < _; omega)) ?_
      refine x_var (by exact rfl) ?_
      refine x_ixF S 0 (by exact rfl) (by exact rfl) ?_
      refine x_I (by first | exact .inr ⟨by decide, by decide⟩ | exact .inl ⟨by decide, by decide⟩ | exact .inr ⟨by omega, by omega⟩ | exact .inl ⟨by omega, by omega⟩) ?_
      refine x_I0 ?_
      refine x_I (by first | decide | (show (0 : Int) < _; omega)) ?_
      try dsimp only [tMethS1, WE, tSeq, tAsg, gName, tOp, tUn, tCB, tCons, tNil, tCall, tMethK1, tCallK1, tPar3, tRet, tRetN, tDrop, tTest, tB, tC, tNext, tAugS, tAug, sFld1, sFldAug1, tMeth1, tMake, tMakeK1, tSl, tPart, tNoPart, sDPut1, tDPop, tBM, tBM0, tPar, gSub, tChain, tNot, tNotV, tDG1, tDG2, tDNewT1, iKeys1, iEnum1, iList1, iTup1, iRng1, iRng2, List.set_cons_zero, List.set_cons_succ]
      refine x_var (by exact rfl) ?_
      refine x_I ⟨by decide, by decide, by first | assumption | omega⟩ ?_
      refine x_I (by first | decide | (show (0 : Int) < _; omega)) ?_
      refine x_I (by first | exact .inr ⟨by decide, by decide⟩ | exact .inl ⟨by decide, by decide⟩ | exact .inr ⟨by omega, by omega⟩ | exact .inl ⟨by omega, by omega⟩) ?_
      refine x_I (by first | decide | (show (0 : Int) < _; omega)) ?_
      try dsimp only [tMethS1, WE, tSeq, tAsg, gName, tOp, tUn, tCB, tCons, tNil, tCall, tMethK1, tCallK1, tPar3, tRet, tRetN, tDrop, tTest, tB, tC, tNext, tAugS, tAug, sFld1, sFldAug1, tMeth1, tMake, tMakeK1, tSl, tPart, tNoPart, sDPut1, tDPop, tBM, tBM0, tPar, gSub, tChain, tNot, tNotV, tDG1, tDG2, tDNewT1, iKeys1, iEnum1, iList1, iTup1, iRng1, iRng2, List.set_cons_zero, List.set_cons_succ]
      have hb := mul_bd (a := v1 % 1000003) (b := n + 1) (A := 1000003) (B := 2 ^ 41) (Int.emod_nonneg _ (by decide)) (Int.emod_lt_of_pos _ (by decide)) (by omega) (by omega)
      refine x_var (by exact rfl) ?_
      refine x_var (by exact rfl) ?_
      refine x_I (by first | decide | (show (0 : Int) < _; omega)) ?_
      refine x_var (by exact rfl) ?_
      refine x_ixF S 0 (by exact rfl) (by exact rfl) ?_
      refine x_I (by first | exact .inr ⟨by decide, by decide⟩ | exact .inl ⟨by decide, by decide⟩ | exact .inr ⟨by omega, by omega⟩ | exact .inl ⟨by omega, by omega⟩) ?_
      refine x_I0 ?_
      refine x_I ⟨by decide, by decide, by first | assumption | omega⟩ ?_
      refine x_I (by first | decide | (show (0 : Int) < _; omega)) ?_
      refine x_I (by first | exact ⟨by decide, by decide⟩ | exact div_ok (by omega) (by omega)) ?_
      refine x_var (by exact rfl) ?_
      refine x_I (by first | decide | (show (0 : Int) < _; omega)) ?_
      refine k _ _ _ ?_ ?_ ⟨?_, ?_, ?_⟩ (S.get 0 rfl) (S.get 1 rfl) S.out2
      · exact Int.emod_nonneg _ (by omega)
      · exact Int.emod_lt_of_pos _ (by omega)
      · first | exact hcs | (intro e; have := congrArg List.length e; rw [List.length_set] at this; exact hcs (List.length_eq_zero_iff.mp this))
      · first | exact hl | (rw [List.length_set]; exact hl)
      · omega
end

def spValue : Sp := fun vs H Q _ => ∃ (p q : Addr) (n : Int) (cs : List Int), vs = [.ref p] ∧ H p = some (.lst [.int n, .ref q]) ∧ H q = some (.lst (cs.map V.int)) ∧ p ≠ q ∧ Hold n cs ∧ n < 2 ^ 39 ∧
  ∀ (r n' : Int) (cs' : List Int) (H' : Hp), n' ≤ n + 6 → Hold n' cs' → H' p = some (.lst [.int n', .ref q]) → H' q = some (.lst (cs'.map V.int)) → (∀ b o, H b = some o → b ≠ p → b ≠ q → H' b = some o) → Q (.int r) H'
theorem c_value {H0 H : Hp} {ft : List Addr} {l : List Cell} {t t' : Nat} {p q : Addr} {n : Int} {cs : List Int} {Q : VK} {E : XK} (S : Sep H0 ft H l) (i j : Nat) (hi : l[i]? = some (t, p, .lst [.int n, .ref q])) (hj : l[j]? = some (t', q, .lst (cs.map V.int)))
    (h : Hold n cs) (hn : n < 2 ^ 39) (k : ∀ (r n' : Int) (cs' : List Int) (H' : Hp), n' ≤ n + 6 → Hold n' cs' → Sep H0 ft H' ((l.set i (t, p, .lst [.int n', .ref q])).set j (t', q, .lst (cs'.map V.int))) → Q (.int r) H')
    (d : i ≠ j := by decide) (ht : t = 1 ∨ t = 2 := by first | exact .inl rfl | exact .inr rfl) (ht' : t' = 1 ∨ t' = 2 := by first | exact .inl rfl | exact .inr rfl) : spValue [.ref p] H Q E :=
  ⟨p, q, n, cs, rfl, S.get i hi, S.get j hj, S.ne i j hi hj d, h, hn, fun r n' cs' H' h1 hh e1 e2 F => k r n' cs' H' h1 hh (S.chg2 i j hi hj d F e1 e2 ht ht')⟩
def spWide : Sp := fun vs H Q _ => ∃ (p q : Addr) (n : Int) (cs : List Int), vs = [.ref p] ∧ H p = some (.lst [.int n, .ref q]) ∧ H q = some (.lst (cs.map V.int)) ∧ p ≠ q ∧ Hold n cs ∧ n < 2 ^ 39 ∧
  ∀ (r n' : Int) (cs' : List Int) (H' : Hp), 1 ≤ r → r ≤ 64 → n' ≤ n + 6 → Hold n' cs' → H' p = some (.lst [.int n', .ref q]) → H' q = some (.lst (cs'.map V.int)) → (∀ b o, H b = some o → b ≠ p → b ≠ q → H' b = some o) → Q (.int r) H'
theorem c_wide {H0 H : Hp} {ft : List Addr} {l : List Cell} {t t' : Nat} {p q : Addr} {n : Int} {cs : List Int} {Q : VK} {E : XK} (S : Sep H0 ft H l) (i j : Nat) (hi : l[i]? = some (t, p, .lst [.int n, .ref q])) (hj : l[j]? = some (t', q, .lst (cs.map V.int)))
    (h : Hold n cs) (hn : n < 2 ^ 39) (k : ∀ (r n' : Int) (cs' : List Int) (H' : Hp), 1 ≤ r → r ≤ 64 → n' ≤ n + 6 → Hold n' cs' → Sep H0 ft H' ((l.set i (t, p, .lst [.int n', .ref q])).set j (t', q, .lst (cs'.map V.int))) → Q (.int r) H')
    (d : i ≠ j := by decide) (ht : t = 1 ∨ t = 2 := by first | exact .inl rfl | exact .inr rfl) (ht' : t' = 1 ∨ t' = 2 := by first | exact .inl rfl | exact .inr rfl) : spWide [.ref p] H Q E :=
  ⟨p, q, n, cs, rfl, S.get i hi, S.get j hj, S.ne i j hi hj d, h, hn, fun r n' cs' H' h0 h9 h1 hh e1 e2 F => k r n' cs' H' h0 h9 h1 hh (S.chg2 i j hi hj d F e1 e2 ht ht')⟩
section
variable {P : Program} {w : World} {K : PySem.W.Frag} {mg : Str → Option Value} {base : Heap}
abbrev s_law_value : Stmt := (topS 13)
theorem sc_law_value : FnScope ["_law_hold", "_law_way", "_law_number", "_law_k"] ["_law_hold"] (defScope s_law_value) := ⟨rfl, rfl, rfl, by decide +kernel, rfl, by decide +kernel, by decide +kernel⟩
theorem ok_law_value {f : Addr} {fd : FuncData} (F : L2.Fun K "_law_value" "_law_value" s_law_value f fd) (cd : Cal P w K mg base CX0 1 "_law_draw" spDraw) (z_range : mg "range" = none) : FnOk P w K mg base CX0 2 f fd ["_law_hold"] spValue := by
  refine F.ok sc_law_value (fun vs H Q E h => ?_) (fun cdv A outer s H0 vs Q E hr h => ?_)
  · obtain ⟨p, q, n, cs, rfl, hp, hq, npq, hh, hn, k⟩ := h
    rfl
  · obtain ⟨p, q, n, cs, rfl, hp, hq, npq, hh, hn, k⟩ := h
    have hu := hu_of hr
    have S := Sep.of2 hp hq npq
    refine ⟨_, pss_cons (ps_set (i := 1) sc_law_value.nd rfl (.inl rfl) (pe_c cd hr (by decide) (by rfl) pass0 (pa_cons (pv 0) (pa_cons (pe_int) pa_nil))))
      (pss_cons (ps_if (pt_cmpR op_lt (pv 1) (pe_int) (nomark _)) (pss_one (ps_ret (pe_op op_mul (pe_c cd hr (by decide) (by rfl) pass0 (pa_cons (pv 0) (pa_cons (pe_int) pa_nil))) (pe_ix (ix_listK K) (pe_lst1 (pa_cons (pe_int) (pa_cons (pe_un un_neg (pe_int)) pa_nil))) (pv 1) (fun _ _ => rfl))))) (pss_nil))
      (pss_cons (ps_set (i := 2) sc_law_value.nd rfl (.inl rfl) (pe_int))
      (pss_cons (ps_for PassesOwn.never rfl (pi_range1 (by rfl) z_range (pa_cons (pe_int) pa_nil)) (pg_name (i := 3) sc_law_value.nd rfl (.inl rfl)) (pss_one (ps_set (i := 2) sc_law_value.nd rfl (.inl rfl) (pe_op op_add (pe_op op_mul (pv 2) (pe_int)) (pe_c cd hr (by decide) (by rfl) pass0 (pa_cons (pv 0) (pa_cons (pe_int) pa_nil)))))))
      (pss_one (ps_ret (pe_op op_mul (pv 2) (pe_ix (ix_listK K) (pe_lst1 (pa_cons (pe_int) (pa_cons (pe_un un_neg (pe_int)) pa_nil))) (pe_op op_sub (pv 1) (pe_int)) (fun _ _ => rfl)))))))), ?_⟩
    rw [show start ["_law_hold", "_law_way", "_law_number", "_law_k"] [V.ref p] = [some (V.ref p), none, none, none] from rfl]
    try dsimp only [tMethS1, WE, tSeq, tAsg, gName, tOp, tUn, tCB, tCons, tNil, tCall, tMethK1, tCallK1, tPar3, tRet, tRetN, tDrop, tTest, tB, tC, tNext, tAugS, tAug, sFld1, sFldAug1, tMeth1, tMake, tMakeK1, tSl, tPart, tNoPart, sDPut1, tDPop, tBM, tBM0, tPar, gSub, tChain, tNot, tNotV, tDG1, tDG2, tDNewT1, iKeys1, iEnum1, iList1, iTup1, iRng1, iRng2, List.set_cons_zero, List.set_cons_succ]
    refine x_var (by exact rfl) ?_
    refine c_draw S 0 1 (by exact rfl) (by exact rfl) hh (by first | omega | decide | (simp only [len_insAt, List.length_map, List.length_append, List.length_cons, List.length_nil, List.length_take, List.length_drop] at *; omega)) (by first | omega | decide | (simp only [len_insAt, List.length_map, List.length_append, List.length_cons, List.length_nil, List.length_take, List.length_drop] at *; omega)) (by first | omega | decide | (simp only [len_insAt, List.length_map, List.length_append, List.length_cons, List.length_nil, List.length_take, List.length_drop] at *; omega)) (fun r1 cs1 H r1a r1b hh S => ?_)
    simp only [List.set_cons_zero, List.set_cons_succ] at S
    try dsimp only [tMethS1, WE, tSeq, tAsg, gName, tOp, tUn, tCB, tCons, tNil, tCall, tMethK1, tCallK1, tPar3, tRet, tRetN, tDrop, tTest, tB, tC, tNext, tAugS, tAug, sFld1, sFldAug1, tMeth1, tMake, tMakeK1, tSl, tPart, tNoPart, sDPut1, tDPop, tBM, tBM0, tPar, gSub, tChain, tNot, tNotV, tDG1, tDG2, tDNewT1, iKeys1, iEnum1, iList1, iTup1, iRng1, iRng2, List.set_cons_zero, List.set_cons_succ]
    refine x_if ?_
    try dsimp only [tMethS1, WE, tSeq, tAsg, gName, tOp, tUn, tCB, tCons, tNil, tCall, tMethK1, tCallK1, tPar3, tRet, tRetN, tDrop, tTest, tB, tC, tNext, tAugS, tAug, sFld1, sFldAug1, tMeth1, tMake, tMakeK1, tSl, tPart, tNoPart, sDPut1, tDPop, tBM, tBM0, tPar, gSub, tChain, tNot, tNotV, tDG1, tDG2, tDNewT1, iKeys1, iEnum1, iList1, iTup1, iRng1, iRng2, List.set_cons_zero, List.set_cons_succ]
    refine x_var (by exact rfl) ?_
    refine x_I0 ?_
    refine ⟨_, rfl, ?_⟩
    refine ited (fun c1 => ?_) (fun c1 => ?_)
    · try dsimp only [tMethS1, WE, tSeq, tAsg, gName, tOp, tUn, tCB, tCons, tNil, tCall, tMethK1, tCallK1, tPar3, tRet, tRetN, tDrop, tTest, tB, tC, tNext, tAugS, tAug, sFld1, sFldAug1, tMeth1, tMake, tMakeK1, tSl, tPart, tNoPart, sDPut1, tDPop, tBM, tBM0, tPar, gSub, tChain, tNot, tNotV, tDG1, tDG2, tDNewT1, iKeys1, iEnum1, iList1, iTup1, iRng1, iRng2, List.set_cons_zero, List.set_cons_succ]
      refine x_var (by exact rfl) ?_
      refine c_draw S 0 1 (by exact rfl) (by exact rfl) hh (by first | omega | decide | (simp only [len_insAt, List.length_map, List.length_append, List.length_cons, List.length_nil, List.length_take, List.length_drop] at *; omega)) (by first | omega | decide | (simp only [len_insAt, List.length_map, List.length_append, List.length_cons, List.length_nil, List.length_take, List.length_drop] at *; omega)) (by first | omega | decide | (simp only [len_insAt, List.length_map, List.length_append, List.length_cons, List.length_nil, List.length_take, List.length_drop] at *; omega)) (fun r2 cs2 H r2a r2b hh S => ?_)
      simp only [List.set_cons_zero, List.set_cons_succ] at S
      refine x_U ?_
      refine x_lst S (by exact Nat.le_of_ble_eq_true rfl) (fun L1 H S => ?_)
      refine x_var (by exact rfl) ?_
      refine x_ixI (cs := [1, -1]) S 0 (by exact rfl) (by omega) (by first | (show (_ : Int) < 2; omega) | omega) (fun v1 hv1 => ?_)
      have hv1 := List.mem_of_getElem? hv1
      simp only [List.mem_cons, List.not_mem_nil, or_false] at hv1
      refine x_I (by first | exact .inr ⟨by decide, by decide⟩ | exact .inl ⟨by decide, by decide⟩ | exact .inr ⟨by omega, by omega⟩ | exact .inl ⟨by omega, by omega⟩) ?_
      exact k _ _ _ _ (by omega) hh (S.get 1 rfl) (S.get 2 rfl) S.out2
    · try dsimp only [tMethS1, WE, tSeq, tAsg, gName, tOp, tUn, tCB, tCons, tNil, tCall, tMethK1, tCallK1, tPar3, tRet, tRetN, tDrop, tTest, tB, tC, tNext, tAugS, tAug, sFld1, sFldAug1, tMeth1, tMake, tMakeK1, tSl, tPart, tNoPart, sDPut1, tDPop, tBM, tBM0, tPar, gSub, tChain, tNot, tNotV, tDG1, tDG2, tDNewT1, iKeys1, iEnum1, iList1, iTup1, iRng1, iRng2, List.set_cons_zero, List.set_cons_succ]
      try dsimp only [tMethS1, WE, tSeq, tAsg, gName, tOp, tUn, tCB, tCons, tNil, tCall, tMethK1, tCallK1, tPar3, tRet, tRetN, tDrop, tTest, tB, tC, tNext, tAugS, tAug, sFld1, sFldAug1, tMeth1, tMake, tMakeK1, tSl, tPart, tNoPart, sDPut1, tDPop, tBM, tBM0, tPar, gSub, tChain, tNot, tNotV, tDG1, tDG2, tDNewT1, iKeys1, iEnum1, iList1, iTup1, iRng1, iRng2, List.set_cons_zero, List.set_cons_succ]
      refine x_for ?_
      try dsimp only [tOp, tUn, tCB, tCons, tNil, tCall, tMethK1, tCallK1, tC, tMeth1, tMake, tMakeK1, tSl, tPart, tNoPart, tDPop, tChain, tNotV, tBM, tBM0, tDG1, tDG2, tDNewT1, iKeys1, iEnum1, iList1, iTup1, iRng1, iRng2]
      refine ⟨_, rfl, by omega, by omega, ?_⟩
      refine forR (fun i σ H1 => ∃ (num n1 : Int) (cs1 : List Int) (o : Option V), σ = [some (.ref p), some (.int r1), some (.int num), o] ∧ n1 ≤ n + 1 + i ∧ Hold n1 cs1 ∧ Sep H0 [p, q] H1 [(1, p, .lst [.int n1, .ref q]), (1, q, .lst (cs1.map V.int))]) ?_ ?_ ?_
      · exact ⟨0, _, _, _, rfl, by omega, hh, S⟩
      · rintro i σ H hi ⟨num, n1, cs1, o, rfl, hn1, hh, S⟩
        try dsimp only [tMethS1, WE, tSeq, tAsg, gName, tOp, tUn, tCB, tCons, tNil, tCall, tMethK1, tCallK1, tPar3, tRet, tRetN, tDrop, tTest, tB, tC, tNext, tAugS, tAug, sFld1, sFldAug1, tMeth1, tMake, tMakeK1, tSl, tPart, tNoPart, sDPut1, tDPop, tBM, tBM0, tPar, gSub, tChain, tNot, tNotV, tDG1, tDG2, tDNewT1, iKeys1, iEnum1, iList1, iTup1, iRng1, iRng2, List.set_cons_zero, List.set_cons_succ]
        try dsimp only [tMethS1, WE, tSeq, tAsg, gName, tOp, tUn, tCB, tCons, tNil, tCall, tMethK1, tCallK1, tPar3, tRet, tRetN, tDrop, tTest, tB, tC, tNext, tAugS, tAug, sFld1, sFldAug1, tMeth1, tMake, tMakeK1, tSl, tPart, tNoPart, sDPut1, tDPop, tBM, tBM0, tPar, gSub, tChain, tNot, tNotV, tDG1, tDG2, tDNewT1, iKeys1, iEnum1, iList1, iTup1, iRng1, iRng2, List.set_cons_zero, List.set_cons_succ]
        refine x_var (by exact rfl) ?_
        refine x_I (by first | exact .inr ⟨by decide, by decide⟩ | exact .inl ⟨by decide, by decide⟩ | exact .inr ⟨by omega, by omega⟩ | exact .inl ⟨by omega, by omega⟩) ?_
        refine x_var (by exact rfl) ?_
        refine c_draw S 0 1 (by exact rfl) (by exact rfl) hh (by first | omega | decide | (simp only [len_insAt, List.length_map, List.length_append, List.length_cons, List.length_nil, List.length_take, List.length_drop] at *; omega)) (by first | omega | decide | (simp only [len_insAt, List.length_map, List.length_append, List.length_cons, List.length_nil, List.length_take, List.length_drop] at *; omega)) (by first | omega | decide | (simp only [len_insAt, List.length_map, List.length_append, List.length_cons, List.length_nil, List.length_take, List.length_drop] at *; omega)) (fun r3 cs3 H r3a r3b hh S => ?_)
        simp only [List.set_cons_zero, List.set_cons_succ] at S
        refine x_I0 ?_
        exact ⟨_, _, _, _, rfl, by omega, hh, S⟩
      · rintro σ H ⟨num, n1, cs1, o, rfl, hn1, hh, S⟩
        try dsimp only [tMethS1, WE, tSeq, tAsg, gName, tOp, tUn, tCB, tCons, tNil, tCall, tMethK1, tCallK1, tPar3, tRet, tRetN, tDrop, tTest, tB, tC, tNext, tAugS, tAug, sFld1, sFldAug1, tMeth1, tMake, tMakeK1, tSl, tPart, tNoPart, sDPut1, tDPop, tBM, tBM0, tPar, gSub, tChain, tNot, tNotV, tDG1, tDG2, tDNewT1, iKeys1, iEnum1, iList1, iTup1, iRng1, iRng2, List.set_cons_zero, List.set_cons_succ]
        try dsimp only [tMethS1, WE, tSeq, tAsg, gName, tOp, tUn, tCB, tCons, tNil, tCall, tMethK1, tCallK1, tPar3, tRet, tRetN, tDrop, tTest, tB, tC, tNext, tAugS, tAug, sFld1, sFldAug1, tMeth1, tMake, tMakeK1, tSl, tPart, tNoPart, sDPut1, tDPop, tBM, tBM0, tPar, gSub, tChain, tNot, tNotV, tDG1, tDG2, tDNewT1, iKeys1, iEnum1, iList1, iTup1, iRng1, iRng2, List.set_cons_zero, List.set_cons_succ]
        refine x_var (by exact rfl) ?_
        refine x_U ?_
        refine x_lst S (by exact Nat.le_of_ble_eq_true rfl) (fun L2 H S => ?_)
        refine x_var (by exact rfl) ?_
        refine x_I0 ?_
        refine x_ixI (cs := [1, -1]) S 0 (by exact rfl) (by omega) (by first | (show (_ : Int) < 2; omega) | omega) (fun v2 hv2 => ?_)
        have hv2 := List.mem_of_getElem? hv2
        simp only [List.mem_cons, List.not_mem_nil, or_false] at hv2
        refine x_I (by first | exact .inr ⟨by decide, by decide⟩ | exact .inl ⟨by decide, by decide⟩ | exact .inr ⟨by omega, by omega⟩ | exact .inl ⟨by omega, by omega⟩) ?_
        exact k _ _ _ _ (by omega) hh (S.get 1 rfl) (S.get 2 rfl) S.out2
abbrev s_law_wide : Stmt := (topS 14)
theorem sc_law_wide : FnScope ["_law_hold"] ["_law_hold"] (defScope s_law_wide) := ⟨rfl, rfl, rfl, by decide +kernel, rfl, by decide +kernel, by decide +kernel⟩
theorem ok_law_wide {f : Addr} {fd : FuncData} (F : L2.Fun K "_law_wide" "_law_wide" s_law_wide f fd) (cd : Cal P w K mg base CX0 1 "_law_draw" spDraw) : FnOk P w K mg base CX0 2 f fd ["_law_hold"] spWide := by
  refine F.ok sc_law_wide (fun vs H Q E h => ?_) (fun cdv A outer s H0 vs Q E hr h => ?_)
  · obtain ⟨p, q, n, cs, rfl, hp, hq, npq, hh, hn, k⟩ := h
    rfl
  · obtain ⟨p, q, n, cs, rfl, hp, hq, npq, hh, hn, k⟩ := h
    have hu := hu_of hr
    have S := Sep.of2 hp hq npq
    refine ⟨_, pss_one (ps_ret (pe_ix (ix_listK K) (pe_lst1 (pa_cons (pe_int) (pa_cons (pe_int) (pa_cons (pe_int) (pa_cons (pe_int) (pa_cons (pe_op op_add (pe_int) (pe_c cd hr (by decide) (by rfl) pass0 (pa_cons (pv 0) (pa_cons (pe_int) pa_nil)))) (pa_cons (pe_op op_add (pe_int) (pe_c cd hr (by decide) (by rfl) pass0 (pa_cons (pv 0) (pa_cons (pe_int) pa_nil)))) pa_nil))))))) (pe_c cd hr (by decide) (by rfl) pass0 (pa_cons (pv 0) (pa_cons (pe_int) pa_nil))) (fun _ _ => rfl))), ?_⟩
    rw [show start ["_law_hold"] [V.ref p] = [some (V.ref p)] from rfl]
    try dsimp only [tMethS1, WE, tSeq, tAsg, gName, tOp, tUn, tCB, tCons, tNil, tCall, tMethK1, tCallK1, tPar3, tRet, tRetN, tDrop, tTest, tB, tC, tNext, tAugS, tAug, sFld1, sFldAug1, tMeth1, tMake, tMakeK1, tSl, tPart, tNoPart, sDPut1, tDPop, tBM, tBM0, tPar, gSub, tChain, tNot, tNotV, tDG1, tDG2, tDNewT1, iKeys1, iEnum1, iList1, iTup1, iRng1, iRng2, List.set_cons_zero, List.set_cons_succ]
    refine x_var (by exact rfl) ?_
    refine c_draw S 0 1 (by exact rfl) (by exact rfl) hh (by first | omega | decide | (simp only [len_insAt, List.length_map, List.length_append, List.length_cons, List.length_nil, List.length_take, List.length_drop] at *; omega)) (by first | omega | decide | (simp only [len_insAt, List.length_map, List.length_append, List.length_cons, List.length_nil, List.length_take, List.length_drop] at *; omega)) (by first | omega | decide | (simp only [len_insAt, List.length_map, List.length_append, List.length_cons, List.length_nil, List.length_take, List.length_drop] at *; omega)) (fun r1 cs1 H r1a r1b hh S => ?_)
    simp only [List.set_cons_zero, List.set_cons_succ] at S
    refine x_I0 ?_
    refine x_var (by exact rfl) ?_
    refine c_draw S 0 1 (by exact rfl) (by exact rfl) hh (by first | omega | decide | (simp only [len_insAt, List.length_map, List.length_append, List.length_cons, List.length_nil, List.length_take, List.length_drop] at *; omega)) (by first | omega | decide | (simp only [len_insAt, List.length_map, List.length_append, List.length_cons, List.length_nil, List.length_take, List.length_drop] at *; omega)) (by first | omega | decide | (simp only [len_insAt, List.length_map, List.length_append, List.length_cons, List.length_nil, List.length_take, List.length_drop] at *; omega)) (fun r2 cs2 H r2a r2b hh S => ?_)
    simp only [List.set_cons_zero, List.set_cons_succ] at S
    refine x_I0 ?_
    refine x_lst S (by exact Nat.le_of_ble_eq_true rfl) (fun L1 H S => ?_)
    refine x_var (by exact rfl) ?_
    refine c_draw S 1 2 (by exact rfl) (by exact rfl) hh (by first | omega | decide | (simp only [len_insAt, List.length_map, List.length_append, List.length_cons, List.length_nil, List.length_take, List.length_drop] at *; omega)) (by first | omega | decide | (simp only [len_insAt, List.length_map, List.length_append, List.length_cons, List.length_nil, List.length_take, List.length_drop] at *; omega)) (by first | omega | decide | (simp only [len_insAt, List.length_map, List.length_append, List.length_cons, List.length_nil, List.length_take, List.length_drop] at *; omega)) (fun r3 cs3 H r3a r3b hh S => ?_)
    simp only [List.set_cons_zero, List.set_cons_succ] at S
    refine x_ixI (cs := [4, 1, 2, 64, 1 + r1, 1 + r2]) S 0 (by exact rfl) (by omega) (by first | (show (_ : Int) < 6; omega) | omega) (fun v1 hv1 => ?_)
    have hv1 := List.mem_of_getElem? hv1
    simp only [List.mem_cons, List.not_mem_nil, or_false] at hv1
    exact k _ _ _ _ (by omega) (by omega) (by omega) hh (S.get 1 rfl) (S.get 2 rfl) S.out2
end

def spIs : Sp := fun vs H Q _ => ∃ a b : Int, vs = [.int a, .int b] ∧ Q (.bl (decide (V.int a = V.int b))) H
theorem c_is {H : Hp} {a b : Int} {Q : VK} {E : XK} (q : Q (.bl (decide (V.int a = V.int b))) H) : spIs [.int a, .int b] H Q E := ⟨a, b, rfl, q⟩
section
variable {P : Program} {w : World} {K : PySem.W.Frag} {mg : Str → Option Value} {base : Heap}
abbrev s_law_is : Stmt := (topS 11)
theorem sc_law_is : FnScope ["_law_found", "_law_due"] ["_law_found", "_law_due"] (defScope s_law_is) := ⟨rfl, rfl, rfl, by decide +kernel, rfl, by decide +kernel, by decide +kernel⟩
theorem ok_law_is {f : Addr} {fd : FuncData} (F : L2.Fun K "_law_is" "_law_is" s_law_is f fd) (z_isinstance : mg "isinstance" = none) (z_int : mg "int" = none) (z_bool : mg "bool" = none) : FnOk P w K mg base CX0 1 f fd ["_law_found", "_law_due"] spIs := by
  refine F.ok sc_law_is (fun vs H Q E h => ?_) (fun cdv A outer s H0 vs Q E hr h => ?_)
  · obtain ⟨a, b, rfl, k⟩ := h
    rfl
  · obtain ⟨a, b, rfl, k⟩ := h
    have hu := hu_of hr

    refine ⟨_, pss_one (ps_ret (pe_and (pe_callB (cl_isiK K) (by rfl) z_isinstance (by decide +kernel) (pa_cons (pv 0) (pa_cons (pe_bltn (v := .ty "int") (by rfl) z_int (by decide +kernel) rfl) pa_nil))) (pe_and (pe_not (pe_callB (cl_isiK K) (by rfl) z_isinstance (by decide +kernel) (pa_cons (pv 0) (pa_cons (pe_bltn (v := .ty "bool") (by rfl) z_bool (by decide +kernel) rfl) pa_nil)))) (pe_one (pe_cmpR op_eq (pv 0) (pv 1) (nomark _)))))), ?_⟩
    rw [show start ["_law_found", "_law_due"] [V.int a, V.int b] = [some (V.int a), some (V.int b)] from rfl]
    try dsimp only [tMethS1, WE, tSeq, tAsg, gName, tOp, tUn, tCB, tCons, tNil, tCall, tMethK1, tCallK1, tPar3, tRet, tRetN, tDrop, tTest, tB, tC, tNext, tAugS, tAug, sFld1, sFldAug1, tMeth1, tMake, tMakeK1, tSl, tPart, tNoPart, sDPut1, tDPop, tBM, tBM0, tPar, gSub, tChain, tNot, tNotV, tDG1, tDG2, tDNewT1, iKeys1, iEnum1, iList1, iTup1, iRng1, iRng2, List.set_cons_zero, List.set_cons_succ]
    refine x_andV ?_
    try dsimp only [tMethS1, WE, tSeq, tAsg, gName, tOp, tUn, tCB, tCons, tNil, tCall, tMethK1, tCallK1, tPar3, tRet, tRetN, tDrop, tTest, tB, tC, tNext, tAugS, tAug, sFld1, sFldAug1, tMeth1, tMake, tMakeK1, tSl, tPart, tNoPart, sDPut1, tDPop, tBM, tBM0, tPar, gSub, tChain, tNot, tNotV, tDG1, tDG2, tDNewT1, iKeys1, iEnum1, iList1, iTup1, iRng1, iRng2, List.set_cons_zero, List.set_cons_succ]
    refine x_var (by exact rfl) ?_
    refine x_isi ty_int (by decide +kernel : kitB "int" "int" = some true) ?_
    refine ⟨_, rfl, ?_⟩
    refine iteT ?_
    refine x_andV ?_
    try dsimp only [tMethS1, WE, tSeq, tAsg, gName, tOp, tUn, tCB, tCons, tNil, tCall, tMethK1, tCallK1, tPar3, tRet, tRetN, tDrop, tTest, tB, tC, tNext, tAugS, tAug, sFld1, sFldAug1, tMeth1, tMake, tMakeK1, tSl, tPart, tNoPart, sDPut1, tDPop, tBM, tBM0, tPar, gSub, tChain, tNot, tNotV, tDG1, tDG2, tDNewT1, iKeys1, iEnum1, iList1, iTup1, iRng1, iRng2, List.set_cons_zero, List.set_cons_succ]
    refine x_var (by exact rfl) ?_
    refine x_isi ty_int (by decide +kernel : kitB "int" "bool" = some false) ?_
    refine ⟨_, rfl, ?_⟩
    refine ⟨_, rfl, ?_⟩
    refine iteT ?_
    refine x_var (by exact rfl) ?_
    refine x_var (by exact rfl) ?_
    refine x_eq ?_
    exact k
end

def spTruth : Sp := fun vs H Q _ => ∃ a b : Bool, vs = [.bl a, .bl b] ∧ Q (.bl (decide (V.bl a = V.bl b))) H
theorem c_truth {H : Hp} {a b : Bool} {Q : VK} {E : XK} (q : Q (.bl (decide (V.bl a = V.bl b))) H) : spTruth [.bl a, .bl b] H Q E := ⟨a, b, rfl, q⟩
section
variable {P : Program} {w : World} {K : PySem.W.Frag} {mg : Str → Option Value} {base : Heap}
abbrev s_law_truth : Stmt := (topS 12)
theorem sc_law_truth : FnScope ["_law_found", "_law_due"] ["_law_found", "_law_due"] (defScope s_law_truth) := ⟨rfl, rfl, rfl, by decide +kernel, rfl, by decide +kernel, by decide +kernel⟩
theorem ok_law_truth {f : Addr} {fd : FuncData} (F : L2.Fun K "_law_truth" "_law_truth" s_law_truth f fd) (z_isinstance : mg "isinstance" = none) (z_bool : mg "bool" = none) : FnOk P w K mg base CX0 1 f fd ["_law_found", "_law_due"] spTruth := by
  refine F.ok sc_law_truth (fun vs H Q E h => ?_) (fun cdv A outer s H0 vs Q E hr h => ?_)
  · obtain ⟨a, b, rfl, k⟩ := h
    rfl
  · obtain ⟨a, b, rfl, k⟩ := h
    have hu := hu_of hr

    refine ⟨_, pss_one (ps_ret (pe_and (pe_callB (cl_isiK K) (by rfl) z_isinstance (by decide +kernel) (pa_cons (pv 0) (pa_cons (pe_bltn (v := .ty "bool") (by rfl) z_bool (by decide +kernel) rfl) pa_nil))) (pe_one (pe_cmpR op_eq (pv 0) (pv 1) (nomark _))))), ?_⟩
    rw [show start ["_law_found", "_law_due"] [V.bl a, V.bl b] = [some (V.bl a), some (V.bl b)] from rfl]
    try dsimp only [tMethS1, WE, tSeq, tAsg, gName, tOp, tUn, tCB, tCons, tNil, tCall, tMethK1, tCallK1, tPar3, tRet, tRetN, tDrop, tTest, tB, tC, tNext, tAugS, tAug, sFld1, sFldAug1, tMeth1, tMake, tMakeK1, tSl, tPart, tNoPart, sDPut1, tDPop, tBM, tBM0, tPar, gSub, tChain, tNot, tNotV, tDG1, tDG2, tDNewT1, iKeys1, iEnum1, iList1, iTup1, iRng1, iRng2, List.set_cons_zero, List.set_cons_succ]
    refine x_andV ?_
    try dsimp only [tMethS1, WE, tSeq, tAsg, gName, tOp, tUn, tCB, tCons, tNil, tCall, tMethK1, tCallK1, tPar3, tRet, tRetN, tDrop, tTest, tB, tC, tNext, tAugS, tAug, sFld1, sFldAug1, tMeth1, tMake, tMakeK1, tSl, tPart, tNoPart, sDPut1, tDPop, tBM, tBM0, tPar, gSub, tChain, tNot, tNotV, tDG1, tDG2, tDNewT1, iKeys1, iEnum1, iList1, iTup1, iRng1, iRng2, List.set_cons_zero, List.set_cons_succ]
    refine x_var (by exact rfl) ?_
    refine x_isi ty_bl (by decide +kernel : kitB "bool" "bool" = some true) ?_
    refine ⟨_, rfl, ?_⟩
    refine iteT ?_
    refine x_var (by exact rfl) ?_
    refine x_var (by exact rfl) ?_
    refine x_eq ?_
    exact k
end
end G

set_option linter.all false
set_option maxRecDepth 100000
set_option maxHeartbeats 4000000
namespace G
open PySem PySem.Spec PyProof.Rows L2
/-! ### takers -/
def F_Taker (w t : Int) (d : Addr) (e : V) : List (Str × V) := [(("wide" : Str), V.int w), (("taken" : Str), V.int t), (("kept" : Str), V.ref d), (("end" : Str), e)]
theorem lk_Taker_wide {w t : Int} {d : Addr} {e : V} : (F_Taker w t d e).lookup ("wide" : Str) = some (V.int w) := by kernel_rfl
theorem lk_Taker_taken {w t : Int} {d : Addr} {e : V} : (F_Taker w t d e).lookup ("taken" : Str) = some (V.int t) := by kernel_rfl
theorem lk_Taker_kept {w t : Int} {d : Addr} {e : V} : (F_Taker w t d e).lookup ("kept" : Str) = some (V.ref d) := by kernel_rfl
theorem lk_Taker_end {w t : Int} {d : Addr} {e : V} : (F_Taker w t d e).lookup ("end" : Str) = some (e) := by kernel_rfl
theorem nk_Taker_came {w t : Int} {d : Addr} {e : V} : (F_Taker w t d e).lookup ("came" : Str) = none := by kernel_rfl
theorem nk_Taker_ends {w t : Int} {d : Addr} {e : V} : (F_Taker w t d e).lookup ("ends" : Str) = none := by kernel_rfl
theorem nk_Taker_has_next {w t : Int} {d : Addr} {e : V} : (F_Taker w t d e).lookup ("has_next" : Str) = none := by kernel_rfl
theorem nk_Taker_take {w t : Int} {d : Addr} {e : V} : (F_Taker w t d e).lookup ("take" : Str) = none := by kernel_rfl
theorem nk_Taker_told {w t : Int} {d : Addr} {e : V} : (F_Taker w t d e).lookup ("told" : Str) = none := by kernel_rfl
theorem nk_Taker_has_all {w t : Int} {d : Addr} {e : V} : (F_Taker w t d e).lookup ("has_all" : Str) = none := by kernel_rfl
theorem nk_Taker_is_ended {w t : Int} {d : Addr} {e : V} : (F_Taker w t d e).lookup ("is_ended" : Str) = none := by kernel_rfl
theorem pt_Taker_taken {w t : Int} {d : Addr} {e : V} {z : Int} : putF ("taken" : Str) (.int z) (F_Taker w t d e) = F_Taker w z d e := by kernel_rfl
theorem pt_Taker_end {w t : Int} {d : Addr} {e : V} {z : V} : putF ("end" : Str) z (F_Taker w t d e) = F_Taker w t d z := by kernel_rfl
theorem pi_Taker_1 {z : V} : putF ("wide" : Str) z [] = [(("wide" : Str), z)] := by kernel_rfl
theorem pi_Taker_2 {a z : V} : putF ("taken" : Str) z [(("wide" : Str), a)] = [(("wide" : Str), a), (("taken" : Str), z)] := by kernel_rfl
theorem pi_Taker_3 {a b z : V} : putF ("kept" : Str) z [(("wide" : Str), a), (("taken" : Str), b)] = [(("wide" : Str), a), (("taken" : Str), b), (("kept" : Str), z)] := by kernel_rfl
theorem pi_Taker_4 {w t : Int} {d : Addr} {z : V} : putF ("end" : Str) z [(("wide" : Str), .int w), (("taken" : Str), .int t), (("kept" : Str), .ref d)] = F_Taker w t d z := by kernel_rfl
structure TkCls (K : PySem.W.Frag) (C : Addr) : Prop where
  c_Taker : Cls K C
  na_Taker_wide : NoAttr K C "wide"
  na_Taker_taken : NoAttr K C "taken"
  na_Taker_kept : NoAttr K C "kept"
  na_Taker_end : NoAttr K C "end"
def spTkInit (C : Addr) : Sp := fun vs H Q _ => ∃ (p dx : Addr) (w : Int), vs = [.ref p, .int w] ∧ H p = some (.ins C dx []) ∧ ∀ (d : Addr) (H' : Hp), H d = none → H' p = some (.ins C dx (F_Taker w 0 d .non)) → H' d = some (.dK []) → (∀ b o, H b = some o → b ≠ p → H' b = some o) → Q .non H'
theorem c_mkTaker {C : Addr} {w : Int} {H0 H : Hp} {ft : List Addr} {l : List Cell} {Q : VK} {E : XK} (S : Sep H0 ft H l) (k : ∀ x dx d H', Sep H0 ft H' ((2, d, .dK []) :: (2, x, .ins C dx (F_Taker w 0 d .non)) :: l) → Q (.ref x) H') :
    rMkK C 0 1 (spTkInit C) (fun vs zs => vs ++ zs) E [] [V.int w] H Q := by
  refine ⟨rfl, rfl, fun x dx hx hd n => ⟨x, dx, w, rfl, upd_same, fun d H' nd e1 e2 F => ⟨rfl, ?_⟩⟩⟩
  have S1 := S.made (C := C) hx hd n
  have S2 := S1.chg1 0 rfl F e1
  exact k x dx d H' (S1.got S2 rfl nd e2)
/-- what comes: kept where there is room for it and nothing is there -/
def camK (t w : Int) (kvs : List (Key × V)) (i : Int) (v : V) : List (Key × V) := if (t ≤ i ∧ i < t + w) ∧ valV kvs (.inl i : Key) = none then putK kvs (.inl i) v else kvs
def spCame (C : Addr) : Sp := fun vs H Q _ => ∃ (p dx d : Addr) (w t i : Int) (e v : V) (kvs : List (Key × V)), vs = [.ref p, .int i, v] ∧ H p = some (.ins C dx (F_Taker w t d e)) ∧ H d = some (.dK kvs) ∧ kvs.length < 100000 ∧
  ∀ H' : Hp, H' d = some (.dK (camK t w kvs i v)) → (∀ b o, H b = some o → b ≠ d → H' b = some o) → Q .non H'
theorem c_came {C : Addr} {H0 H : Hp} {ft : List Addr} {l : List Cell} {t1 t2 : Nat} {p dx d : Addr} {w t i : Int} {e v : V} {kvs : List (Key × V)} {Q : VK} {E : XK} (S : Sep H0 ft H l) (n m : Nat) (h : l[n]? = some (t1, p, .ins C dx (F_Taker w t d e))) (h' : l[m]? = some (t2, d, .dK kvs)) (hl : kvs.length < 100000)
    (k : ∀ H', Sep H0 ft H' (l.set m (t2, d, .dK (camK t w kvs i v))) → Q .non H') (ht : t2 = 1 ∨ t2 = 2 := by first | exact .inl rfl | exact .inr rfl) : spCame C [.ref p, .int i, v] H Q E :=
  ⟨p, dx, d, w, t, i, e, v, kvs, rfl, S.get n h, S.get m h', hl, fun H' e1 F => k H' (S.chg1 m h' F e1 ht)⟩
def spTake (C : Addr) : Sp := fun vs H Q _ => ∃ (p dx d : Addr) (w t : Int) (e : V) (kvs : List (Key × V)), vs = [.ref p] ∧ H p = some (.ins C dx (F_Taker w t d e)) ∧ H d = some (.dK kvs) ∧
  (valV kvs (.inl t : Key) = none → ∀ H' : Hp, (∀ b o, H b = some o → H' b = some o) → Q .non H') ∧
  ∀ v, valV kvs (.inl t : Key) = some v → ∀ H' : Hp, H' p = some (.ins C dx (F_Taker w (t + 1) d e)) → H' d = some (.dK (dropK kvs (.inl t))) → (∀ b o, H b = some o → b ≠ p → b ≠ d → H' b = some o) → Q v H'
theorem c_take {C : Addr} {H0 H : Hp} {ft : List Addr} {l : List Cell} {t1 t2 : Nat} {p dx d : Addr} {w t : Int} {e : V} {kvs : List (Key × V)} {Q : VK} {E : XK} (S : Sep H0 ft H l) (n m : Nat) (h : l[n]? = some (t1, p, .ins C dx (F_Taker w t d e))) (h' : l[m]? = some (t2, d, .dK kvs))
    (k0 : valV kvs (.inl t : Key) = none → ∀ H', Sep H0 ft H' l → Q .non H') (k1 : ∀ v, valV kvs (.inl t : Key) = some v → ∀ H', Sep H0 ft H' ((l.set n (t1, p, .ins C dx (F_Taker w (t + 1) d e))).set m (t2, d, .dK (dropK kvs (.inl t)))) → Q v H') (nm : n ≠ m := by decide)
    (ht1 : t1 = 1 ∨ t1 = 2 := by first | exact .inl rfl | exact .inr rfl) (ht : t2 = 1 ∨ t2 = 2 := by first | exact .inl rfl | exact .inr rfl) : spTake C [.ref p] H Q E :=
  ⟨p, dx, d, w, t, e, kvs, rfl, S.get n h, S.get m h', fun hn H' F => k0 hn H' (S.stay F), fun v hv H' e1 e2 F => k1 v hv H' (S.chg2 n m h h' nm F e1 e2 ht1 ht)⟩
/-- how far the keys go from t on without a gap -/
structure Reach (kvs : List (Key × V)) (t g : Int) : Prop where
  le : t ≤ g
  all : ∀ i, t ≤ i → i < g → valV kvs (.inl i : Key) ≠ none
  no : valV kvs (.inl g : Key) = none
def above (kvs : List (Key × V)) (g : Int) : Nat := kvs.countP fun kv => match kv.1 with | .inl i => decide (g ≤ i) | .inr _ => false
theorem above_lt {g : Int} {v : V} : ∀ {kvs : List (Key × V)}, valV kvs (.inl g : Key) = some v → above kvs (g + 1) < above kvs g
  | [], h => by cases h
  | (k, x) :: r, h => by
    have mono : above r (g + 1) ≤ above r g := List.countP_mono_left fun kv _ hk => by
      revert hk
      cases kv.1 with
      | inl i => intro hk; exact decide_eq_true (by have := of_decide_eq_true hk; omega)
      | inr _ => intro hk; exact hk
    by_cases e : k = .inl g
    · subst e
      unfold above at mono ⊢
      rw [List.countP_cons, List.countP_cons, if_neg (by simp; omega), if_pos (by simp)]
      omega
    · rw [valV_neg (p := (k, x)) e] at h
      have ih := above_lt h
      unfold above at ih mono ⊢
      rw [List.countP_cons, List.countP_cons]
      have : (if (match (k, x).1 with | .inl i => decide (g + 1 ≤ i) | .inr _ => false) = true then 1 else 0) ≤ (if (match (k, x).1 with | .inl i => decide (g ≤ i) | .inr _ => false) = true then 1 else 0) := by
        cases k with
        | inl i =>
          show (if decide (g + 1 ≤ i) = true then 1 else 0) ≤ (if decide (g ≤ i) = true then 1 else 0)
          by_cases a : g + 1 ≤ i
          · rw [decide_eq_true a, decide_eq_true (show g ≤ i by omega)] <;> exact Nat.le_refl _
          · rw [decide_eq_false a]; exact Nat.zero_le _
        | inr _ => exact Nat.le_refl _
      omega
def spTold (C : Addr) : Sp := fun vs H Q _ => ∃ (p dx d : Addr) (w t : Int) (e : V) (kvs : List (Key × V)), vs = [.ref p] ∧ H p = some (.ins C dx (F_Taker w t d e)) ∧ H d = some (.dK kvs) ∧
  ∀ (g : Int) (q : Addr) (H' : Hp), Reach kvs t g → H q = none → H' q = some (.tup [.int g, .int (t + w)]) → (∀ b o, H b = some o → H' b = some o) → Q (.ref q) H'
theorem c_told {C : Addr} {H0 H : Hp} {ft : List Addr} {l : List Cell} {t1 t2 : Nat} {p dx d : Addr} {w t : Int} {e : V} {kvs : List (Key × V)} {Q : VK} {E : XK} (S : Sep H0 ft H l) (n m : Nat) (h : l[n]? = some (t1, p, .ins C dx (F_Taker w t d e))) (h' : l[m]? = some (t2, d, .dK kvs))
    (k : ∀ g q H', Reach kvs t g → Sep H0 ft H' ((2, q, .tup [.int g, .int (t + w)]) :: l) → Q (.ref q) H') : spTold C [.ref p] H Q E :=
  ⟨p, dx, d, w, t, e, kvs, rfl, S.get n h, S.get m h', fun g q H' r nq eq F => k g q H' r (S.got (S.stay F) rfl nq eq)⟩
def EndV (e : V) : Prop := e = .non ∨ ∃ m : Int, e = .int m
/-- has it come so far: what is told of the end -/
def endN (e : V) (g : Int) : Bool := match e with | .int m => decide (g ≥ m) | _ => false
theorem Reach.uniq {k k' : List (Key × V)} {t g g' : Int} (r : Reach k t g) (r' : Reach k' t g') (e : ∀ i, t ≤ i → (valV k (.inl i : Key) ≠ none ↔ valV k' (.inl i : Key) ≠ none)) : g = g' := by
  rcases Int.lt_trichotomy g g' with h | h | h
  · exact absurd r.no (((e g r.le).mpr (r'.all g r.le h)))
  · exact h
  · exact absurd r'.no (((e g' r'.le).mp (r.all g' r'.le h)))
theorem Reach.same {k : List (Key × V)} {t g g' : Int} (r : Reach k t g) (r' : Reach k t g') : g = g' := r.uniq r' fun _ _ => Iff.rfl
theorem valV_drop (k : Key) (j : Key) : ∀ kvs : List (Key × V), valV (dropK kvs k) j = if j = k then none else valV kvs j
  | [] => by simp [dropK, valV]
  | p :: r => by
    have ih := valV_drop k j r
    by_cases e : p.1 = k
    · rw [dropK_pos e, ih]
      by_cases z : j = k
      · rw [if_pos z, if_pos z]
      · rw [if_neg z, if_neg z, valV_neg (fun q => z (q.symm.trans e))]
    · rw [dropK_neg e]
      by_cases z : p.1 = j
      · rw [valV_pos z, valV_pos z, if_neg (fun q => e (z.trans q))]
      · rw [valV_neg z, valV_neg z, ih]
/-- ints alone are kept -/
def IntsK (kvs : List (Key × V)) : Prop := ∀ i v, valV kvs (.inl i : Key) = some v → ∃ z : Int, v = .int z
theorem IntsK.nil : IntsK [] := fun _ _ h => nomatch h
theorem IntsK.put {kvs : List (Key × V)} {i z : Int} (h : IntsK kvs) : IntsK (putK kvs (.inl i) (.int z)) := fun j v e => by
  rw [valV_put] at e
  by_cases q : (.inl j : Key) = .inl i
  · rw [if_pos q] at e; exact ⟨z, (Option.some.inj e).symm⟩
  · rw [if_neg q] at e; exact h j v e
theorem IntsK.drop {kvs : List (Key × V)} {k : Key} (h : IntsK kvs) : IntsK (dropK kvs k) := fun j v e => by
  rw [valV_drop] at e
  by_cases q : (.inl j : Key) = k
  · rw [if_pos q] at e; cases e
  · rw [if_neg q] at e; exact h j v e
theorem len_dropK {k : List (Key × V)} {i : Key} : (dropK k i).length ≤ k.length := List.length_filter_le _ _
def spEnds (C : Addr) : Sp := fun vs H Q _ => ∃ (p dx d : Addr) (w t : Int) (e v : V), vs = [.ref p, v] ∧ H p = some (.ins C dx (F_Taker w t d e)) ∧ ∀ H' : Hp, H' p = some (.ins C dx (F_Taker w t d (if e = .non then v else e))) → (∀ b o, H b = some o → b ≠ p → H' b = some o) → Q .non H'
theorem c_ends {C : Addr} {H0 H : Hp} {ft : List Addr} {l : List Cell} {t1 : Nat} {p dx d : Addr} {w t : Int} {e v : V} {Q : VK} {E : XK} (S : Sep H0 ft H l) (n : Nat) (h : l[n]? = some (t1, p, .ins C dx (F_Taker w t d e)))
    (k : ∀ H', Sep H0 ft H' (l.set n (t1, p, .ins C dx (F_Taker w t d (if e = .non then v else e)))) → Q .non H') (ht : t1 = 1 ∨ t1 = 2 := by first | exact .inl rfl | exact .inr rfl) : spEnds C [.ref p, v] H Q E :=
  ⟨p, dx, d, w, t, e, v, rfl, S.get n h, fun H' e1 F => k H' (S.chg1 n h F e1 ht)⟩
def spHasAll (C : Addr) : Sp := fun vs H Q _ => ∃ (p dx d : Addr) (w t : Int) (e : V) (kvs : List (Key × V)), vs = [.ref p] ∧ H p = some (.ins C dx (F_Taker w t d e)) ∧ H d = some (.dK kvs) ∧ EndV e ∧
  ∀ (b : Bool) (H' : Hp), (∀ g, Reach kvs t g → b = endN e g) → (∀ b o, H b = some o → H' b = some o) → Q (.bl b) H'
theorem c_hasall {C : Addr} {H0 H : Hp} {ft : List Addr} {l : List Cell} {t1 t2 : Nat} {p dx d : Addr} {w t : Int} {e : V} {kvs : List (Key × V)} {Q : VK} {E : XK} (S : Sep H0 ft H l) (n m : Nat) (h : l[n]? = some (t1, p, .ins C dx (F_Taker w t d e))) (h' : l[m]? = some (t2, d, .dK kvs)) (he : EndV e)
    (k : ∀ b H', (∀ g, Reach kvs t g → b = endN e g) → Sep H0 ft H' l → Q (.bl b) H') : spHasAll C [.ref p] H Q E :=
  ⟨p, dx, d, w, t, e, kvs, rfl, S.get n h, S.get m h', he, fun b H' hb F => k b H' hb (S.stay F)⟩
def spIsEnded (C : Addr) : Sp := fun vs H Q _ => ∃ (p dx d : Addr) (w t : Int) (e : V), vs = [.ref p] ∧ H p = some (.ins C dx (F_Taker w t d e)) ∧ EndV e ∧ Q (.bl (endN e t)) H
theorem c_isended {C : Addr} {H0 H : Hp} {ft : List Addr} {l : List Cell} {t1 : Nat} {p dx d : Addr} {w t : Int} {e : V} {Q : VK} {E : XK} (S : Sep H0 ft H l) (n : Nat) (h : l[n]? = some (t1, p, .ins C dx (F_Taker w t d e))) (he : EndV e) (k : Q (.bl (endN e t)) H) : spIsEnded C [.ref p] H Q E :=
  ⟨p, dx, d, w, t, e, rfl, S.get n h, he, k⟩
section
variable {P : Program} {w : World} {K : PySem.W.Frag} {mg : Str → Option Value} {base : Heap}
abbrev s_Taker__init : Stmt := (inClass (topS 8) 0)
theorem sc_Taker__init : FnScope ["self", "window"] ["self", "window"] (defScope s_Taker__init) := ⟨rfl, rfl, rfl, by decide +kernel, rfl, by decide +kernel, by decide +kernel⟩
theorem ok_Taker__init {f : Addr} {fd : FuncData} {C : Addr} (F : L2.Fun K "__init__" "Taker.__init__" s_Taker__init f fd) (T : TkCls K C) : FnOk P w K mg base CX0 1 f fd ["self", "window"] (spTkInit C) := by
  refine F.ok sc_Taker__init (fun vs H Q E h => ?_) (fun cdv A outer s H0 vs Q E hr h => ?_)
  · obtain ⟨p, dx, w, rfl, hp, k⟩ := h
    rfl
  · obtain ⟨p, dx, w, rfl, hp, k⟩ := h
    have hu := hu_of hr
    have S := Sep.of1 hp
    refine ⟨_, pss_cons (ps_fld1 (pv 0) (pv 1) rfl)
      (pss_cons (ps_fld1 (pv 0) (pe_int) rfl)
      (pss_cons (ps_fld1 (pv 0) (pe_dnewK) rfl)
      (pss_one (ps_fld1 (pv 0) (pe_non) rfl)))), ?_⟩
    rw [show start ["self", "window"] [V.ref p, V.int w] = [some (V.ref p), some (V.int w)] from rfl]
    try dsimp only [tMethS1, WE, tSeq, tAsg, gName, tOp, tUn, tCB, tCons, tNil, tCall, tMethK1, tCallK1, tPar3, tRet, tRetN, tDrop, tTest, tB, tC, tNext, tAugS, tAug, sFld1, sFldAug1, tMeth1, tMake, tMakeK1, tSl, tPart, tNoPart, sDPut1, tDPop, tBM, tBM0, tPar, gSub, tChain, tNot, tNotV, tDG1, tDG2, tDNewT1, iKeys1, iEnum1, iList1, iTup1, iRng1, iRng2, List.set_cons_zero, List.set_cons_succ]
    refine x_var (by exact rfl) ?_
    refine x_var (by exact rfl) ?_
    refine x_sfld S 0 (by exact rfl) T.c_Taker T.na_Taker_wide pi_Taker_1 (by exact Nat.le_of_ble_eq_true rfl) (fun H S => ?_)
    simp only [List.set_cons_zero, List.set_cons_succ] at S
    try dsimp only [tMethS1, WE, tSeq, tAsg, gName, tOp, tUn, tCB, tCons, tNil, tCall, tMethK1, tCallK1, tPar3, tRet, tRetN, tDrop, tTest, tB, tC, tNext, tAugS, tAug, sFld1, sFldAug1, tMeth1, tMake, tMakeK1, tSl, tPart, tNoPart, sDPut1, tDPop, tBM, tBM0, tPar, gSub, tChain, tNot, tNotV, tDG1, tDG2, tDNewT1, iKeys1, iEnum1, iList1, iTup1, iRng1, iRng2, List.set_cons_zero, List.set_cons_succ]
    refine x_var (by exact rfl) ?_
    refine x_sfld S 0 (by exact rfl) T.c_Taker T.na_Taker_taken pi_Taker_2 (by exact Nat.le_of_ble_eq_true rfl) (fun H S => ?_)
    simp only [List.set_cons_zero, List.set_cons_succ] at S
    try dsimp only [tMethS1, WE, tSeq, tAsg, gName, tOp, tUn, tCB, tCons, tNil, tCall, tMethK1, tCallK1, tPar3, tRet, tRetN, tDrop, tTest, tB, tC, tNext, tAugS, tAug, sFld1, sFldAug1, tMeth1, tMake, tMakeK1, tSl, tPart, tNoPart, sDPut1, tDPop, tBM, tBM0, tPar, gSub, tChain, tNot, tNotV, tDG1, tDG2, tDNewT1, iKeys1, iEnum1, iList1, iTup1, iRng1, iRng2, List.set_cons_zero, List.set_cons_succ]
    refine x_dnew S (fun D1 H S => ?_)
    refine x_var (by exact rfl) ?_
    refine x_sfld S 1 (by exact rfl) T.c_Taker T.na_Taker_kept pi_Taker_3 (by exact Nat.le_of_ble_eq_true rfl) (fun H S => ?_)
    simp only [List.set_cons_zero, List.set_cons_succ] at S
    try dsimp only [tMethS1, WE, tSeq, tAsg, gName, tOp, tUn, tCB, tCons, tNil, tCall, tMethK1, tCallK1, tPar3, tRet, tRetN, tDrop, tTest, tB, tC, tNext, tAugS, tAug, sFld1, sFldAug1, tMeth1, tMake, tMakeK1, tSl, tPart, tNoPart, sDPut1, tDPop, tBM, tBM0, tPar, gSub, tChain, tNot, tNotV, tDG1, tDG2, tDNewT1, iKeys1, iEnum1, iList1, iTup1, iRng1, iRng2, List.set_cons_zero, List.set_cons_succ]
    refine x_var (by exact rfl) ?_
    refine x_sfld S 1 (by exact rfl) T.c_Taker T.na_Taker_end pi_Taker_4 (by exact Nat.le_of_ble_eq_true rfl) (fun H S => ?_)
    simp only [List.set_cons_zero, List.set_cons_succ] at S
    exact k _ _ (S.new_none 0 rfl) (S.get 1 rfl) (S.get 0 rfl) S.out1
abbrev s_Taker_came : Stmt := (inClass (topS 8) 1)
theorem sc_Taker_came : FnScope ["self", "place", "value"] ["self", "place", "value"] (defScope s_Taker_came) := ⟨rfl, rfl, rfl, by decide +kernel, rfl, by decide +kernel, by decide +kernel⟩
theorem ok_Taker_came {f : Addr} {fd : FuncData} {C : Addr} (F : L2.Fun K "came" "Taker.came" s_Taker_came f fd) (T : TkCls K C) : FnOk P w K mg base CX0 1 f fd ["self", "place", "value"] (spCame C) := by
  refine F.ok sc_Taker_came (fun vs H Q E h => ?_) (fun cdv A outer s H0 vs Q E hr h => ?_)
  · obtain ⟨p, dx, d, w, t, i, e, v, kvs, rfl, hp, hd, hl, k⟩ := h
    rfl
  · obtain ⟨p, dx, d, w, t, i, e, v, kvs, rfl, hp, hd, hl, k⟩ := h
    have hu := hu_of hr
    have S : Sep H0 [d] H0 [(0, p, .ins C dx (F_Taker w t d e)), (1, d, .dK kvs)] := (Sep.of1 hd).add 0 hp (fun c hc z => by rw [List.mem_singleton.mp hc] at z; exact ne_of hd hp (by intro z; cases z) z) (fun z => by cases z) (fun z => by cases z)
    refine ⟨_, pss_one (ps_if ((pw_and (pt_chain op_le op_lt (pe_fldK K (pv 0)) (pv 1) (pe_op op_add (pe_fldK K (pv 0)) (pe_fldK K (pv 0)))) (pw_and1 (pt_cmp (pc_dni1 hu (pv 1) (pe_fldK K (pv 0)))))).pt) (pss_one (ps_dput1 hu (pe_fldK K (pv 0)) (pv 1) (pv 2) rfl)) (pss_nil)), ?_⟩
    rw [show start ["self", "place", "value"] [V.ref p, V.int i, v] = [some (V.ref p), some (V.int i), some (v)] from rfl]
    try dsimp only [tMethS1, WE, tSeq, tAsg, gName, tOp, tUn, tCB, tCons, tNil, tCall, tMethK1, tCallK1, tPar3, tRet, tRetN, tDrop, tTest, tB, tC, tNext, tAugS, tAug, sFld1, sFldAug1, tMeth1, tMake, tMakeK1, tSl, tPart, tNoPart, sDPut1, tDPop, tBM, tBM0, tPar, gSub, tChain, tNot, tNotV, tDG1, tDG2, tDNewT1, iKeys1, iEnum1, iList1, iTup1, iRng1, iRng2, List.set_cons_zero, List.set_cons_succ]
    refine x_if ?_
    try dsimp only [tMethS1, WE, tSeq, tAsg, gName, tOp, tUn, tCB, tCons, tNil, tCall, tMethK1, tCallK1, tPar3, tRet, tRetN, tDrop, tTest, tB, tC, tNext, tAugS, tAug, sFld1, sFldAug1, tMeth1, tMake, tMakeK1, tSl, tPart, tNoPart, sDPut1, tDPop, tBM, tBM0, tPar, gSub, tChain, tNot, tNotV, tDG1, tDG2, tDNewT1, iKeys1, iEnum1, iList1, iTup1, iRng1, iRng2, List.set_cons_zero, List.set_cons_succ]
    refine x_and ?_
    try dsimp only [tMethS1, WE, tSeq, tAsg, gName, tOp, tUn, tCB, tCons, tNil, tCall, tMethK1, tCallK1, tPar3, tRet, tRetN, tDrop, tTest, tB, tC, tNext, tAugS, tAug, sFld1, sFldAug1, tMeth1, tMake, tMakeK1, tSl, tPart, tNoPart, sDPut1, tDPop, tBM, tBM0, tPar, gSub, tChain, tNot, tNotV, tDG1, tDG2, tDNewT1, iKeys1, iEnum1, iList1, iTup1, iRng1, iRng2, List.set_cons_zero, List.set_cons_succ]
    refine x_var (by exact rfl) ?_
    refine x_fld S 0 (by exact rfl) T.c_Taker T.na_Taker_taken lk_Taker_taken ?_
    refine x_var (by exact rfl) ?_
    refine x_I0 ?_
    refine ⟨_, rfl, ?_⟩
    refine ited (fun c1 => ?_) (fun c1 => ?_)
    · refine x_var (by exact rfl) ?_
      refine x_fld S 0 (by exact rfl) T.c_Taker T.na_Taker_taken lk_Taker_taken ?_
      refine x_var (by exact rfl) ?_
      refine x_fld S 0 (by exact rfl) T.c_Taker T.na_Taker_wide lk_Taker_wide ?_
      refine x_I0 ?_
      refine x_I0 ?_
      refine ⟨_, rfl, ?_⟩
      refine ited (fun c2 => ?_) (fun c2 => ?_)
      · refine x_var (by exact rfl) ?_
        refine x_var (by exact rfl) ?_
        refine x_fld S 0 (by exact rfl) T.c_Taker T.na_Taker_kept lk_Taker_kept ?_
        refine x_dni (k := Sum.inl _) S 1 (by exact rfl) ?_
        refine ⟨_, rfl, ?_⟩
        refine iteNone (fun c3 => ?_) (fun wc3 c3 => ?_)
        · try dsimp only [tMethS1, WE, tSeq, tAsg, gName, tOp, tUn, tCB, tCons, tNil, tCall, tMethK1, tCallK1, tPar3, tRet, tRetN, tDrop, tTest, tB, tC, tNext, tAugS, tAug, sFld1, sFldAug1, tMeth1, tMake, tMakeK1, tSl, tPart, tNoPart, sDPut1, tDPop, tBM, tBM0, tPar, gSub, tChain, tNot, tNotV, tDG1, tDG2, tDNewT1, iKeys1, iEnum1, iList1, iTup1, iRng1, iRng2, List.set_cons_zero, List.set_cons_succ]
          refine x_var (by exact rfl) ?_
          refine x_var (by exact rfl) ?_
          refine x_fld S 0 (by exact rfl) T.c_Taker T.na_Taker_kept lk_Taker_kept ?_
          refine x_var (by exact rfl) ?_
          refine x_dput (k := Sum.inl _) S 1 (by exact rfl) (by omega) (fun H S => ?_)
          simp only [List.set_cons_zero, List.set_cons_succ] at S
          exact k _ (by unfold camK; first | (rw [if_pos ⟨⟨by assumption, by assumption⟩, by assumption⟩]; exact S.get 1 rfl) | (rw [if_neg (by rintro ⟨⟨a, b⟩, c⟩; first | contradiction | omega | simp_all)]; exact S.get 1 rfl)) (fun b o e n => by exact S.fr b o e (by simp [n]))
        · exact k _ (by unfold camK; first | (rw [if_pos ⟨⟨by assumption, by assumption⟩, by assumption⟩]; exact S.get 1 rfl) | (rw [if_neg (by rintro ⟨⟨a, b⟩, c⟩; first | contradiction | omega | simp_all)]; exact S.get 1 rfl)) (fun b o e n => by exact S.fr b o e (by simp [n]))
      · refine iteF ?_
        exact k _ (by unfold camK; first | (rw [if_pos ⟨⟨by assumption, by assumption⟩, by assumption⟩]; exact S.get 1 rfl) | (rw [if_neg (by rintro ⟨⟨a, b⟩, c⟩; first | contradiction | omega | simp_all)]; exact S.get 1 rfl)) (fun b o e n => by exact S.fr b o e (by simp [n]))
    · refine ⟨_, rfl, ?_⟩
      refine iteF ?_
      refine iteF ?_
      exact k _ (by unfold camK; first | (rw [if_pos ⟨⟨by assumption, by assumption⟩, by assumption⟩]; exact S.get 1 rfl) | (rw [if_neg (by rintro ⟨⟨a, b⟩, c⟩; first | contradiction | omega | simp_all)]; exact S.get 1 rfl)) (fun b o e n => by exact S.fr b o e (by simp [n]))
abbrev s_Taker_take : Stmt := (inClass (topS 8) 4)
theorem sc_Taker_take : FnScope ["self", "value"] ["self"] (defScope s_Taker_take) := ⟨rfl, rfl, rfl, by decide +kernel, rfl, by decide +kernel, by decide +kernel⟩
theorem ok_Taker_take {f : Addr} {fd : FuncData} {C : Addr} (F : L2.Fun K "take" "Taker.take" s_Taker_take f fd) (T : TkCls K C) : FnOk P w K mg base CX0 1 f fd ["self"] (spTake C) := by
  refine F.ok sc_Taker_take (fun vs H Q E h => ?_) (fun cdv A outer s H0 vs Q E hr h => ?_)
  · obtain ⟨p, dx, d, w, t, e, kvs, rfl, hp, hd, k0, k1⟩ := h
    rfl
  · obtain ⟨p, dx, d, w, t, e, kvs, rfl, hp, hd, k0, k1⟩ := h
    have hu := hu_of hr
    have S := Sep.of2 hp hd (ne_of hp hd (by intro z; cases z))
    refine ⟨_, pss_cons (ps_if (pt_cmp (pc_dni1 hu (pe_fldK K (pv 0)) (pe_fldK K (pv 0)))) (pss_one (ps_ret (pe_non))) (pss_nil))
      (pss_cons (ps_set (i := 1) sc_Taker_take.nd rfl (.inl rfl) (pe_dpop (pe_fldK K (pv 0)) (pe_fldK K (pv 0)) ⟨rfl, rfl, rfl, rfl⟩))
      (pss_cons (ps_fldaug1 (pv 0) (pe_int) in_add)
      (pss_one (ps_ret (pv 1))))), ?_⟩
    rw [show start ["self", "value"] [V.ref p] = [some (V.ref p), none] from rfl]
    try dsimp only [tMethS1, WE, tSeq, tAsg, gName, tOp, tUn, tCB, tCons, tNil, tCall, tMethK1, tCallK1, tPar3, tRet, tRetN, tDrop, tTest, tB, tC, tNext, tAugS, tAug, sFld1, sFldAug1, tMeth1, tMake, tMakeK1, tSl, tPart, tNoPart, sDPut1, tDPop, tBM, tBM0, tPar, gSub, tChain, tNot, tNotV, tDG1, tDG2, tDNewT1, iKeys1, iEnum1, iList1, iTup1, iRng1, iRng2, List.set_cons_zero, List.set_cons_succ]
    refine x_if ?_
    try dsimp only [tMethS1, WE, tSeq, tAsg, gName, tOp, tUn, tCB, tCons, tNil, tCall, tMethK1, tCallK1, tPar3, tRet, tRetN, tDrop, tTest, tB, tC, tNext, tAugS, tAug, sFld1, sFldAug1, tMeth1, tMake, tMakeK1, tSl, tPart, tNoPart, sDPut1, tDPop, tBM, tBM0, tPar, gSub, tChain, tNot, tNotV, tDG1, tDG2, tDNewT1, iKeys1, iEnum1, iList1, iTup1, iRng1, iRng2, List.set_cons_zero, List.set_cons_succ]
    refine x_var (by exact rfl) ?_
    refine x_fld S 0 (by exact rfl) T.c_Taker T.na_Taker_taken lk_Taker_taken ?_
    refine x_var (by exact rfl) ?_
    refine x_fld S 0 (by exact rfl) T.c_Taker T.na_Taker_kept lk_Taker_kept ?_
    refine x_dni (k := Sum.inl _) S 1 (by exact rfl) ?_
    refine ⟨_, rfl, ?_⟩
    refine iteNone (fun c1 => ?_) (fun wc1 c1 => ?_)
    · try dsimp only [tMethS1, WE, tSeq, tAsg, gName, tOp, tUn, tCB, tCons, tNil, tCall, tMethK1, tCallK1, tPar3, tRet, tRetN, tDrop, tTest, tB, tC, tNext, tAugS, tAug, sFld1, sFldAug1, tMeth1, tMake, tMakeK1, tSl, tPart, tNoPart, sDPut1, tDPop, tBM, tBM0, tPar, gSub, tChain, tNot, tNotV, tDG1, tDG2, tDNewT1, iKeys1, iEnum1, iList1, iTup1, iRng1, iRng2, List.set_cons_zero, List.set_cons_succ]
      exact k0 (by assumption) _ (fun b o e => e)
    · try dsimp only [tMethS1, WE, tSeq, tAsg, gName, tOp, tUn, tCB, tCons, tNil, tCall, tMethK1, tCallK1, tPar3, tRet, tRetN, tDrop, tTest, tB, tC, tNext, tAugS, tAug, sFld1, sFldAug1, tMeth1, tMake, tMakeK1, tSl, tPart, tNoPart, sDPut1, tDPop, tBM, tBM0, tPar, gSub, tChain, tNot, tNotV, tDG1, tDG2, tDNewT1, iKeys1, iEnum1, iList1, iTup1, iRng1, iRng2, List.set_cons_zero, List.set_cons_succ]
      refine x_var (by exact rfl) ?_
      refine x_fld S 0 (by exact rfl) T.c_Taker T.na_Taker_kept lk_Taker_kept ?_
      refine x_isD S 1 (by exact rfl) ?_
      refine x_var (by exact rfl) ?_
      refine x_fld S 0 (by exact rfl) T.c_Taker T.na_Taker_taken lk_Taker_taken ?_
      refine x_dpop (k := Sum.inl _) S 1 (by exact rfl) (by assumption) (fun H S => ?_)
      simp only [List.set_cons_zero, List.set_cons_succ] at S
      try dsimp only [tMethS1, WE, tSeq, tAsg, gName, tOp, tUn, tCB, tCons, tNil, tCall, tMethK1, tCallK1, tPar3, tRet, tRetN, tDrop, tTest, tB, tC, tNext, tAugS, tAug, sFld1, sFldAug1, tMeth1, tMake, tMakeK1, tSl, tPart, tNoPart, sDPut1, tDPop, tBM, tBM0, tPar, gSub, tChain, tNot, tNotV, tDG1, tDG2, tDNewT1, iKeys1, iEnum1, iList1, iTup1, iRng1, iRng2, List.set_cons_zero, List.set_cons_succ]
      refine x_var (by exact rfl) ?_
      refine x_fldA S 0 (by exact rfl) T.c_Taker T.na_Taker_taken lk_Taker_taken ?_
      refine x_add ?_
      refine x_augf S 0 (by exact rfl) pt_Taker_taken (by exact Nat.le_of_ble_eq_true rfl) (fun H S => ?_)
      simp only [List.set_cons_zero, List.set_cons_succ] at S
      try dsimp only [tMethS1, WE, tSeq, tAsg, gName, tOp, tUn, tCB, tCons, tNil, tCall, tMethK1, tCallK1, tPar3, tRet, tRetN, tDrop, tTest, tB, tC, tNext, tAugS, tAug, sFld1, sFldAug1, tMeth1, tMake, tMakeK1, tSl, tPart, tNoPart, sDPut1, tDPop, tBM, tBM0, tPar, gSub, tChain, tNot, tNotV, tDG1, tDG2, tDNewT1, iKeys1, iEnum1, iList1, iTup1, iRng1, iRng2, List.set_cons_zero, List.set_cons_succ]
      refine x_var (by exact rfl) ?_
      exact k1 _ (by assumption) _ (S.get 0 rfl) (S.get 1 rfl) S.out2
abbrev s_Taker_told : Stmt := (inClass (topS 8) 5)
theorem sc_Taker_told : FnScope ["self", "got"] ["self"] (defScope s_Taker_told) := ⟨rfl, rfl, rfl, by decide +kernel, rfl, by decide +kernel, by decide +kernel⟩
theorem ok_Taker_told {f : Addr} {fd : FuncData} {C : Addr} (F : L2.Fun K "told" "Taker.told" s_Taker_told f fd) (T : TkCls K C) : FnOk P w K mg base CX0 1 f fd ["self"] (spTold C) := by
  refine F.ok sc_Taker_told (fun vs H Q E h => ?_) (fun cdv A outer s H0 vs Q E hr h => ?_)
  · obtain ⟨p, dx, d, w, t, e, kvs, rfl, hp, hd, k⟩ := h
    rfl
  · obtain ⟨p, dx, d, w, t, e, kvs, rfl, hp, hd, k⟩ := h
    have hu := hu_of hr
    have S : Sep H0 [] H0 [(0, p, .ins C dx (F_Taker w t d e)), (0, d, .dK kvs)] := (Sep.of0.add 0 hd (fun _ z => nomatch z) (fun z => by cases z) (fun z => by cases z)).add 0 hp (fun c hc z => by rw [List.mem_singleton.mp hc] at z; exact ne_of hd hp (by intro z; cases z) z) (fun z => by cases z) (fun z => by cases z)
    refine ⟨_, pss_cons (ps_set (i := 1) sc_Taker_told.nd rfl (.inl rfl) (pe_fldK K (pv 0)))
      (pss_cons (ps_while PassesOwn.never (pt_cmp (pc_din1 hu (pv 1) (pe_fldK K (pv 0)))) (pss_one (ps_aug (i := 1) sc_Taker_told.nd rfl (.inl rfl) (pe_int) ip_add)))
      (pss_one (ps_ret (pe_tup1 (pa_cons (pv 1) (pa_cons (pe_op op_add (pe_fldK K (pv 0)) (pe_fldK K (pv 0))) pa_nil)))))), ?_⟩
    rw [show start ["self", "got"] [V.ref p] = [some (V.ref p), none] from rfl]
    try dsimp only [tMethS1, WE, tSeq, tAsg, gName, tOp, tUn, tCB, tCons, tNil, tCall, tMethK1, tCallK1, tPar3, tRet, tRetN, tDrop, tTest, tB, tC, tNext, tAugS, tAug, sFld1, sFldAug1, tMeth1, tMake, tMakeK1, tSl, tPart, tNoPart, sDPut1, tDPop, tBM, tBM0, tPar, gSub, tChain, tNot, tNotV, tDG1, tDG2, tDNewT1, iKeys1, iEnum1, iList1, iTup1, iRng1, iRng2, List.set_cons_zero, List.set_cons_succ]
    refine x_var (by exact rfl) ?_
    refine x_fld S 0 (by exact rfl) T.c_Taker T.na_Taker_taken lk_Taker_taken ?_
    try dsimp only [tMethS1, WE, tSeq, tAsg, gName, tOp, tUn, tCB, tCons, tNil, tCall, tMethK1, tCallK1, tPar3, tRet, tRetN, tDrop, tTest, tB, tC, tNext, tAugS, tAug, sFld1, sFldAug1, tMeth1, tMake, tMakeK1, tSl, tPart, tNoPart, sDPut1, tDPop, tBM, tBM0, tPar, gSub, tChain, tNot, tNotV, tDG1, tDG2, tDNewT1, iKeys1, iEnum1, iList1, iTup1, iRng1, iRng2, List.set_cons_zero, List.set_cons_succ]
    refine x_while (fun m σ H' => ∃ z : Int, σ = [some (.ref p), some (.int z)] ∧ H' = H0 ∧ m = above kvs z ∧ t ≤ z ∧ ∀ i, t ≤ i → i < z → valV kvs (.inl i : Key) ≠ none) (above kvs t) ?_ ?_
    · exact ⟨t, rfl, rfl, rfl, Int.le_refl _, fun i a b => absurd a (by omega)⟩
    · rintro m σ H ⟨z, rfl, rfl, rfl, hle, hall⟩
      try dsimp only [tMethS1, WE, tSeq, tAsg, gName, tOp, tUn, tCB, tCons, tNil, tCall, tMethK1, tCallK1, tPar3, tRet, tRetN, tDrop, tTest, tB, tC, tNext, tAugS, tAug, sFld1, sFldAug1, tMeth1, tMake, tMakeK1, tSl, tPart, tNoPart, sDPut1, tDPop, tBM, tBM0, tPar, gSub, tChain, tNot, tNotV, tDG1, tDG2, tDNewT1, iKeys1, iEnum1, iList1, iTup1, iRng1, iRng2, List.set_cons_zero, List.set_cons_succ]
      refine x_var (by exact rfl) ?_
      refine x_var (by exact rfl) ?_
      refine x_fld S 0 (by exact rfl) T.c_Taker T.na_Taker_kept lk_Taker_kept ?_
      refine x_din (k := Sum.inl _) S 1 (by exact rfl) ?_
      refine ⟨_, rfl, ?_⟩
      refine iteSome (fun wc1 c1 => ?_) (fun c1 => ?_)
      · refine x_turn ?_
        try dsimp only [tMethS1, WE, tSeq, tAsg, gName, tOp, tUn, tCB, tCons, tNil, tCall, tMethK1, tCallK1, tPar3, tRet, tRetN, tDrop, tTest, tB, tC, tNext, tAugS, tAug, sFld1, sFldAug1, tMeth1, tMake, tMakeK1, tSl, tPart, tNoPart, sDPut1, tDPop, tBM, tBM0, tPar, gSub, tChain, tNot, tNotV, tDG1, tDG2, tDNewT1, iKeys1, iEnum1, iList1, iTup1, iRng1, iRng2, List.set_cons_zero, List.set_cons_succ]
        refine ⟨_, rfl, ?_⟩
        refine x_ip ?_
        refine ⟨_, above_lt (by assumption), z + 1, rfl, rfl, rfl, by omega, fun i a b => ?_⟩
        by_cases e : i = z
        · subst e; intro q; simp_all
        · exact hall i a (by omega)
      · have hno := c1
        try dsimp only [tMethS1, WE, tSeq, tAsg, gName, tOp, tUn, tCB, tCons, tNil, tCall, tMethK1, tCallK1, tPar3, tRet, tRetN, tDrop, tTest, tB, tC, tNext, tAugS, tAug, sFld1, sFldAug1, tMeth1, tMake, tMakeK1, tSl, tPart, tNoPart, sDPut1, tDPop, tBM, tBM0, tPar, gSub, tChain, tNot, tNotV, tDG1, tDG2, tDNewT1, iKeys1, iEnum1, iList1, iTup1, iRng1, iRng2, List.set_cons_zero, List.set_cons_succ]
        try dsimp only [tMethS1, WE, tSeq, tAsg, gName, tOp, tUn, tCB, tCons, tNil, tCall, tMethK1, tCallK1, tPar3, tRet, tRetN, tDrop, tTest, tB, tC, tNext, tAugS, tAug, sFld1, sFldAug1, tMeth1, tMake, tMakeK1, tSl, tPart, tNoPart, sDPut1, tDPop, tBM, tBM0, tPar, gSub, tChain, tNot, tNotV, tDG1, tDG2, tDNewT1, iKeys1, iEnum1, iList1, iTup1, iRng1, iRng2, List.set_cons_zero, List.set_cons_succ]
        refine x_var (by exact rfl) ?_
        refine x_var (by exact rfl) ?_
        refine x_fld S 0 (by exact rfl) T.c_Taker T.na_Taker_taken lk_Taker_taken ?_
        refine x_var (by exact rfl) ?_
        refine x_fld S 0 (by exact rfl) T.c_Taker T.na_Taker_wide lk_Taker_wide ?_
        refine x_I0 ?_
        refine x_tup S (by exact Nat.le_of_ble_eq_true rfl) (fun U1 H S => ?_)
        exact k _ _ _ ⟨hle, hall, hno⟩ (S.new_none 0 rfl) (S.get 0 rfl) (fun b o e => S.fr b o e (by simp))
abbrev s_Taker_ends : Stmt := (inClass (topS 8) 2)
theorem sc_Taker_ends : FnScope ["self", "many"] ["self", "many"] (defScope s_Taker_ends) := ⟨rfl, rfl, rfl, by decide +kernel, rfl, by decide +kernel, by decide +kernel⟩
theorem ok_Taker_ends {f : Addr} {fd : FuncData} {C : Addr} (F : L2.Fun K "ends" "Taker.ends" s_Taker_ends f fd) (T : TkCls K C) : FnOk P w K mg base CX0 1 f fd ["self", "many"] (spEnds C) := by
  refine F.ok sc_Taker_ends (fun vs H Q E h => ?_) (fun cdv A outer s H0 vs Q E hr h => ?_)
  · obtain ⟨p, dx, d, w, t, e, v, rfl, hp, k⟩ := h
    rfl
  · obtain ⟨p, dx, d, w, t, e, v, rfl, hp, k⟩ := h
    have hu := hu_of hr
    have S := Sep.of1 hp
    refine ⟨_, pss_one (ps_if (pt_cmpR op_isN (pe_fldK K (pv 0)) (pe_non) (nomark _)) (pss_one (ps_fld1 (pv 0) (pv 1) rfl)) (pss_nil)), ?_⟩
    rw [show start ["self", "many"] [V.ref p, v] = [some (V.ref p), some (v)] from rfl]
    try dsimp only [tMethS1, WE, tSeq, tAsg, gName, tOp, tUn, tCB, tCons, tNil, tCall, tMethK1, tCallK1, tPar3, tRet, tRetN, tDrop, tTest, tB, tC, tNext, tAugS, tAug, sFld1, sFldAug1, tMeth1, tMake, tMakeK1, tSl, tPart, tNoPart, sDPut1, tDPop, tBM, tBM0, tPar, gSub, tChain, tNot, tNotV, tDG1, tDG2, tDNewT1, iKeys1, iEnum1, iList1, iTup1, iRng1, iRng2, List.set_cons_zero, List.set_cons_succ]
    refine x_if ?_
    try dsimp only [tMethS1, WE, tSeq, tAsg, gName, tOp, tUn, tCB, tCons, tNil, tCall, tMethK1, tCallK1, tPar3, tRet, tRetN, tDrop, tTest, tB, tC, tNext, tAugS, tAug, sFld1, sFldAug1, tMeth1, tMake, tMakeK1, tSl, tPart, tNoPart, sDPut1, tDPop, tBM, tBM0, tPar, gSub, tChain, tNot, tNotV, tDG1, tDG2, tDNewT1, iKeys1, iEnum1, iList1, iTup1, iRng1, iRng2, List.set_cons_zero, List.set_cons_succ]
    refine x_var (by exact rfl) ?_
    refine x_fld S 0 (by exact rfl) T.c_Taker T.na_Taker_end lk_Taker_end ?_
    refine ⟨rfl, ?_⟩
    refine ⟨_, rfl, ?_⟩
    refine ited (fun c1 => ?_) (fun c1 => ?_)
    · try dsimp only [tMethS1, WE, tSeq, tAsg, gName, tOp, tUn, tCB, tCons, tNil, tCall, tMethK1, tCallK1, tPar3, tRet, tRetN, tDrop, tTest, tB, tC, tNext, tAugS, tAug, sFld1, sFldAug1, tMeth1, tMake, tMakeK1, tSl, tPart, tNoPart, sDPut1, tDPop, tBM, tBM0, tPar, gSub, tChain, tNot, tNotV, tDG1, tDG2, tDNewT1, iKeys1, iEnum1, iList1, iTup1, iRng1, iRng2, List.set_cons_zero, List.set_cons_succ]
      refine x_var (by exact rfl) ?_
      refine x_var (by exact rfl) ?_
      refine x_sfld S 0 (by exact rfl) T.c_Taker T.na_Taker_end pt_Taker_end (by exact Nat.le_of_ble_eq_true rfl) (fun H S => ?_)
      simp only [List.set_cons_zero, List.set_cons_succ] at S
      exact k _ (by rw [if_pos (by assumption)]; exact S.get 0 rfl) S.out1
    · exact k _ (by rw [if_neg (by assumption)]; exact S.get 0 rfl) S.out1
abbrev s_Taker_has_all : Stmt := (inClass (topS 8) 6)
theorem sc_Taker_has_all : FnScope ["self"] ["self"] (defScope s_Taker_has_all) := ⟨rfl, rfl, rfl, by decide +kernel, rfl, by decide +kernel, by decide +kernel⟩
theorem ok_Taker_has_all {f : Addr} {fd : FuncData} {C : Addr} (F : L2.Fun K "has_all" "Taker.has_all" s_Taker_has_all f fd) (T : TkCls K C) (mtold : Met P w K mg base CX0 1 C "told" (spTold C)) : FnOk P w K mg base CX0 2 f fd ["self"] (spHasAll C) := by
  refine F.ok sc_Taker_has_all (fun vs H Q E h => ?_) (fun cdv A outer s H0 vs Q E hr h => ?_)
  · obtain ⟨p, dx, d, w, t, e, kvs, rfl, hp, hd, he, k⟩ := h
    rfl
  · obtain ⟨p, dx, d, w, t, e, kvs, rfl, hp, hd, he, k⟩ := h
    have hu := hu_of hr
    have S : Sep H0 [] H0 [(0, p, .ins C dx (F_Taker w t d e)), (0, d, .dK kvs)] := (Sep.of0.add 0 hd (fun _ z => nomatch z) (fun z => by cases z) (fun z => by cases z)).add 0 hp (fun c hc z => by rw [List.mem_singleton.mp hc] at z; exact ne_of hd hp (by intro z; cases z) z) (fun z => by cases z) (fun z => by cases z)
    refine ⟨_, pss_one (ps_ret (pe_and (pe_cmpR op_notN (pe_fldK K (pv 0)) (pe_non) (nomark _)) (pe_one (pe_cmpR op_ge (pe_ix (ix_tupK K) (pe_mt0 mtold hr (by decide) pass0 (pv 0)) (pe_int) (fun _ _ => rfl)) (pe_fldK K (pv 0)) (nomark _))))), ?_⟩
    rw [show start ["self"] [V.ref p] = [some (V.ref p)] from rfl]
    try dsimp only [tMethS1, WE, tSeq, tAsg, gName, tOp, tUn, tCB, tCons, tNil, tCall, tMethK1, tCallK1, tPar3, tRet, tRetN, tDrop, tTest, tB, tC, tNext, tAugS, tAug, sFld1, sFldAug1, tMeth1, tMake, tMakeK1, tSl, tPart, tNoPart, sDPut1, tDPop, tBM, tBM0, tPar, gSub, tChain, tNot, tNotV, tDG1, tDG2, tDNewT1, iKeys1, iEnum1, iList1, iTup1, iRng1, iRng2, List.set_cons_zero, List.set_cons_succ]
    rcases he with rfl | ⟨m, rfl⟩
    · refine x_andV ?_
      try dsimp only [tMethS1, WE, tSeq, tAsg, gName, tOp, tUn, tCB, tCons, tNil, tCall, tMethK1, tCallK1, tPar3, tRet, tRetN, tDrop, tTest, tB, tC, tNext, tAugS, tAug, sFld1, sFldAug1, tMeth1, tMake, tMakeK1, tSl, tPart, tNoPart, sDPut1, tDPop, tBM, tBM0, tPar, gSub, tChain, tNot, tNotV, tDG1, tDG2, tDNewT1, iKeys1, iEnum1, iList1, iTup1, iRng1, iRng2, List.set_cons_zero, List.set_cons_succ]
      refine x_var (by exact rfl) ?_
      refine x_fld S 0 (by exact rfl) T.c_Taker T.na_Taker_end lk_Taker_end ?_
      refine ⟨rfl, ?_⟩
      refine ⟨_, rfl, ?_⟩
      refine itend (fun h => absurd rfl h) (fun c1 => ?_)
      exact k _ _ (fun _ _ => rfl) (fun b o e => S.fr b o e (by simp))
    · refine x_andV ?_
      try dsimp only [tMethS1, WE, tSeq, tAsg, gName, tOp, tUn, tCB, tCons, tNil, tCall, tMethK1, tCallK1, tPar3, tRet, tRetN, tDrop, tTest, tB, tC, tNext, tAugS, tAug, sFld1, sFldAug1, tMeth1, tMake, tMakeK1, tSl, tPart, tNoPart, sDPut1, tDPop, tBM, tBM0, tPar, gSub, tChain, tNot, tNotV, tDG1, tDG2, tDNewT1, iKeys1, iEnum1, iList1, iTup1, iRng1, iRng2, List.set_cons_zero, List.set_cons_succ]
      refine x_var (by exact rfl) ?_
      refine x_fld S 0 (by exact rfl) T.c_Taker T.na_Taker_end lk_Taker_end ?_
      refine ⟨rfl, ?_⟩
      refine ⟨_, rfl, ?_⟩
      refine itend (fun c2 => ?_) (fun h => nomatch h)
      refine x_var (by exact rfl) ?_
      refine x_meth S 0 (by exact rfl) nk_Taker_told ?_
      refine c_told S 0 1 (by exact rfl) (by exact rfl) (fun g1 ug1 H rg1 S => ?_)
      refine x_ixT S 0 (by exact rfl) (by exact rfl) ?_
      refine x_var (by exact rfl) ?_
      refine x_fld S 1 (by exact rfl) T.c_Taker T.na_Taker_end lk_Taker_end ?_
      refine x_I0 ?_
      exact k _ _ (fun g r => by rw [rg1.same r]; rfl) (fun b o e => S.fr b o e (by simp))
abbrev s_Taker_is_ended : Stmt := (inClass (topS 8) 7)
theorem sc_Taker_is_ended : FnScope ["self"] ["self"] (defScope s_Taker_is_ended) := ⟨rfl, rfl, rfl, by decide +kernel, rfl, by decide +kernel, by decide +kernel⟩
theorem ok_Taker_is_ended {f : Addr} {fd : FuncData} {C : Addr} (F : L2.Fun K "is_ended" "Taker.is_ended" s_Taker_is_ended f fd) (T : TkCls K C) : FnOk P w K mg base CX0 1 f fd ["self"] (spIsEnded C) := by
  refine F.ok sc_Taker_is_ended (fun vs H Q E h => ?_) (fun cdv A outer s H0 vs Q E hr h => ?_)
  · obtain ⟨p, dx, d, w, t, e, rfl, hp, he, k⟩ := h
    rfl
  · obtain ⟨p, dx, d, w, t, e, rfl, hp, he, k⟩ := h
    have hu := hu_of hr
    have S : Sep H0 [] H0 [(0, p, .ins C dx (F_Taker w t d e))] := Sep.of0.add 0 hp (fun _ z => nomatch z) (fun z => by cases z) (fun z => by cases z)
    refine ⟨_, pss_one (ps_ret (pe_and (pe_cmpR op_notN (pe_fldK K (pv 0)) (pe_non) (nomark _)) (pe_one (pe_cmpR op_ge (pe_fldK K (pv 0)) (pe_fldK K (pv 0)) (nomark _))))), ?_⟩
    rw [show start ["self"] [V.ref p] = [some (V.ref p)] from rfl]
    try dsimp only [tMethS1, WE, tSeq, tAsg, gName, tOp, tUn, tCB, tCons, tNil, tCall, tMethK1, tCallK1, tPar3, tRet, tRetN, tDrop, tTest, tB, tC, tNext, tAugS, tAug, sFld1, sFldAug1, tMeth1, tMake, tMakeK1, tSl, tPart, tNoPart, sDPut1, tDPop, tBM, tBM0, tPar, gSub, tChain, tNot, tNotV, tDG1, tDG2, tDNewT1, iKeys1, iEnum1, iList1, iTup1, iRng1, iRng2, List.set_cons_zero, List.set_cons_succ]
    rcases he with rfl | ⟨m, rfl⟩
    · refine x_andV ?_
      try dsimp only [tMethS1, WE, tSeq, tAsg, gName, tOp, tUn, tCB, tCons, tNil, tCall, tMethK1, tCallK1, tPar3, tRet, tRetN, tDrop, tTest, tB, tC, tNext, tAugS, tAug, sFld1, sFldAug1, tMeth1, tMake, tMakeK1, tSl, tPart, tNoPart, sDPut1, tDPop, tBM, tBM0, tPar, gSub, tChain, tNot, tNotV, tDG1, tDG2, tDNewT1, iKeys1, iEnum1, iList1, iTup1, iRng1, iRng2, List.set_cons_zero, List.set_cons_succ]
      refine x_var (by exact rfl) ?_
      refine x_fld S 0 (by exact rfl) T.c_Taker T.na_Taker_end lk_Taker_end ?_
      refine ⟨rfl, ?_⟩
      refine ⟨_, rfl, ?_⟩
      refine itend (fun h => absurd rfl h) (fun c1 => ?_)
      exact k
    · refine x_andV ?_
      try dsimp only [tMethS1, WE, tSeq, tAsg, gName, tOp, tUn, tCB, tCons, tNil, tCall, tMethK1, tCallK1, tPar3, tRet, tRetN, tDrop, tTest, tB, tC, tNext, tAugS, tAug, sFld1, sFldAug1, tMeth1, tMake, tMakeK1, tSl, tPart, tNoPart, sDPut1, tDPop, tBM, tBM0, tPar, gSub, tChain, tNot, tNotV, tDG1, tDG2, tDNewT1, iKeys1, iEnum1, iList1, iTup1, iRng1, iRng2, List.set_cons_zero, List.set_cons_succ]
      refine x_var (by exact rfl) ?_
      refine x_fld S 0 (by exact rfl) T.c_Taker T.na_Taker_end lk_Taker_end ?_
      refine ⟨rfl, ?_⟩
      refine ⟨_, rfl, ?_⟩
      refine itend (fun c2 => ?_) (fun h => nomatch h)
      refine x_var (by exact rfl) ?_
      refine x_fld S 0 (by exact rfl) T.c_Taker T.na_Taker_taken lk_Taker_taken ?_
      refine x_var (by exact rfl) ?_
      refine x_fld S 0 (by exact rfl) T.c_Taker T.na_Taker_end lk_Taker_end ?_
      refine x_I0 ?_
      exact k
end
end G

set_option linter.all false
set_option maxRecDepth 100000
set_option maxHeartbeats 4000000
namespace G
open PySem PySem.Spec PyProof.Rows L2
/-! ### Giver -/
def F_Giver (b : Int) (h : Int) (pl : Addr) (c : Bool) : List (Str × V) := [(("below" : Str), V.int b), (("behind" : Str), V.int h), (("pieces" : Str), V.ref pl), (("closed" : Str), V.bl c)]
theorem lk_Giver_below {b : Int} {h : Int} {pl : Addr} {c : Bool} : (F_Giver b h pl c).lookup ("below" : Str) = some (V.int b) := by kernel_rfl
theorem lk_Giver_behind {b : Int} {h : Int} {pl : Addr} {c : Bool} : (F_Giver b h pl c).lookup ("behind" : Str) = some (V.int h) := by kernel_rfl
theorem lk_Giver_pieces {b : Int} {h : Int} {pl : Addr} {c : Bool} : (F_Giver b h pl c).lookup ("pieces" : Str) = some (V.ref pl) := by kernel_rfl
theorem lk_Giver_closed {b : Int} {h : Int} {pl : Addr} {c : Bool} : (F_Giver b h pl c).lookup ("closed" : Str) = some (V.bl c) := by kernel_rfl
theorem nk_Giver_put {b : Int} {h : Int} {pl : Addr} {c : Bool} : (F_Giver b h pl c).lookup ("put" : Str) = none := by kernel_rfl
theorem nk_Giver_has_room {b : Int} {h : Int} {pl : Addr} {c : Bool} : (F_Giver b h pl c).lookup ("has_room" : Str) = none := by kernel_rfl
theorem nk_Giver_shut {b : Int} {h : Int} {pl : Addr} {c : Bool} : (F_Giver b h pl c).lookup ("shut" : Str) = none := by kernel_rfl
theorem nk_Giver_heard {b : Int} {h : Int} {pl : Addr} {c : Bool} : (F_Giver b h pl c).lookup ("heard" : Str) = none := by kernel_rfl
theorem nk_Giver_wanted {b : Int} {h : Int} {pl : Addr} {c : Bool} : (F_Giver b h pl c).lookup ("wanted" : Str) = none := by kernel_rfl
theorem nk_Giver_many {b : Int} {h : Int} {pl : Addr} {c : Bool} : (F_Giver b h pl c).lookup ("many" : Str) = none := by kernel_rfl
theorem nk_Giver_is_shut {b : Int} {h : Int} {pl : Addr} {c : Bool} : (F_Giver b h pl c).lookup ("is_shut" : Str) = none := by kernel_rfl
theorem pt_Giver_below {b : Int} {h : Int} {pl : Addr} {c : Bool} {z9 : Int} : putF ("below" : Str) (V.int z9) (F_Giver b h pl c) = F_Giver z9 h pl c := by kernel_rfl
theorem pt_Giver_behind {b : Int} {h : Int} {pl : Addr} {c : Bool} {z9 : Int} : putF ("behind" : Str) (V.int z9) (F_Giver b h pl c) = F_Giver b z9 pl c := by kernel_rfl
theorem pt_Giver_pieces {b : Int} {h : Int} {pl : Addr} {c : Bool} {z9 : Addr} : putF ("pieces" : Str) (V.ref z9) (F_Giver b h pl c) = F_Giver b h z9 c := by kernel_rfl
theorem pt_Giver_closed {b : Int} {h : Int} {pl : Addr} {c : Bool} {z9 : Bool} : putF ("closed" : Str) (V.bl z9) (F_Giver b h pl c) = F_Giver b h pl z9 := by kernel_rfl
theorem pi_Giver_1 {z9 : V} : putF ("below" : Str) z9 [] = [(("below" : Str), z9)] := by kernel_rfl
theorem pi_Giver_2 {y0 : V} {z9 : V} : putF ("behind" : Str) z9 [(("below" : Str), y0)] = [(("below" : Str), y0), (("behind" : Str), z9)] := by kernel_rfl
theorem pi_Giver_3 {y0 : V} {y1 : V} {z9 : V} : putF ("pieces" : Str) z9 [(("below" : Str), y0), (("behind" : Str), y1)] = [(("below" : Str), y0), (("behind" : Str), y1), (("pieces" : Str), z9)] := by kernel_rfl
theorem pi_Giver_4 {b : Int} {h : Int} {pl : Addr} {c : Bool} : putF ("closed" : Str) (V.bl c) [(("below" : Str), V.int b), (("behind" : Str), V.int h), (("pieces" : Str), V.ref pl)] = F_Giver b h pl c := by kernel_rfl
structure GvCls (K : PySem.W.Frag) (C : Addr) : Prop where
  c_Giver : Cls K C
  na_Giver_below : NoAttr K C "below"
  na_Giver_behind : NoAttr K C "behind"
  na_Giver_pieces : NoAttr K C "pieces"
  na_Giver_closed : NoAttr K C "closed"

def spGvInit (C : Addr) : Sp := fun vs H Q _ => ∃ (p dx : Addr) (w : Int), vs = [.ref p, .int w] ∧ H p = some (.ins C dx []) ∧ ∀ (l : Addr) (H' : Hp), H l = none → H' p = some (.ins C dx (F_Giver w 0 l false)) → H' l = some (.lst []) → (∀ b o, H b = some o → b ≠ p → H' b = some o) → Q .non H'
theorem c_mkGiver {C : Addr} {w : Int} {H0 H : Hp} {ft : List Addr} {l : List Cell} {Q : VK} {E : XK} (S : Sep H0 ft H l) (k : ∀ x dx d H', Sep H0 ft H' ((2, d, .lst []) :: (2, x, .ins C dx (F_Giver w 0 d false)) :: l) → Q (.ref x) H') :
    rMkK C 0 1 (spGvInit C) (fun vs zs => vs ++ zs) E [] [V.int w] H Q := by
  refine ⟨rfl, rfl, fun x dx hx hd n => ⟨x, dx, w, rfl, upd_same, fun d H' nd e1 e2 F => ⟨rfl, ?_⟩⟩⟩
  have S1 := S.made (C := C) hx hd n
  have S2 := S1.chg1 0 rfl F e1
  exact k x dx d H' (S1.got S2 rfl nd e2)
def spMany (C : Addr) : Sp := fun vs H Q _ => ∃ (p dx pl : Addr) (b h : Int) (c : Bool) (xs : List V), vs = [.ref p] ∧ H p = some (.ins C dx (F_Giver b h pl c)) ∧ H pl = some (.lst xs) ∧ Q (.int (h + xs.length)) H
theorem c_many {C : Addr} {H0 H : Hp} {ft : List Addr} {l : List Cell} {t1 t2 : Nat} {p dx pl : Addr} {b h : Int} {c : Bool} {xs : List V} {Q : VK} {E : XK} (S : Sep H0 ft H l) (n m : Nat) (e1 : l[n]? = some (t1, p, .ins C dx (F_Giver b h pl c))) (e2 : l[m]? = some (t2, pl, .lst xs))
    (k : Q (.int (h + xs.length)) H) : spMany C [.ref p] H Q E := ⟨p, dx, pl, b, h, c, xs, rfl, S.get n e1, S.get m e2, k⟩
def spHeard (C : Addr) : Sp := fun vs H Q _ => ∃ (p dx pl : Addr) (b h g r : Int) (c : Bool) (xs : List V), vs = [.ref p, .int g, .int r] ∧ H p = some (.ins C dx (F_Giver b h pl c)) ∧ H pl = some (.lst xs) ∧
  ∀ (pl' : Addr) (H' : Hp), H pl' = none → H' p = some (.ins C dx (F_Giver (max b r) (h + max (g - h) 0) pl' c)) → H' pl' = some (.lst (xs.drop (g - h).toNat)) → (∀ b o, H b = some o → b ≠ p → H' b = some o) → Q .non H'
theorem c_heard {C : Addr} {H0 H : Hp} {ft : List Addr} {l : List Cell} {t1 t2 : Nat} {p dx pl : Addr} {b h g r : Int} {c : Bool} {xs : List V} {Q : VK} {E : XK} (S : Sep H0 ft H l) (n m : Nat) (e1 : l[n]? = some (t1, p, .ins C dx (F_Giver b h pl c))) (e2 : l[m]? = some (t2, pl, .lst xs))
    (k : ∀ pl' H', Sep H0 ft H' ((2, pl', .lst (xs.drop (g - h).toNat)) :: l.set n (t1, p, .ins C dx (F_Giver (max b r) (h + max (g - h) 0) pl' c))) → Q .non H') (ht : t1 = 1 ∨ t1 = 2 := by first | exact .inl rfl | exact .inr rfl) : spHeard C [.ref p, .int g, .int r] H Q E :=
  ⟨p, dx, pl, b, h, g, r, c, xs, rfl, S.get n e1, S.get m e2, fun pl' H' hn e1' e2' F => k pl' H' (S.got (S.chg1 n e1 F e1' ht) (map_set e1) hn e2')⟩

def spShut0 (C : Addr) : Sp := fun vs H Q _ => ∃ (p dx pl : Addr) (b h : Int), vs = [.ref p] ∧ H p = some (.ins C dx (F_Giver b h pl false)) ∧ ∀ H' : Hp, H' p = some (.ins C dx (F_Giver b h pl true)) → (∀ b o, H b = some o → b ≠ p → H' b = some o) → Q .non H'
theorem c_shut0 {C : Addr} {H0 H : Hp} {ft : List Addr} {l : List Cell} {t1 : Nat} {p dx pl : Addr} {b h : Int} {Q : VK} {E : XK} (S : Sep H0 ft H l) (n : Nat) (e1 : l[n]? = some (t1, p, .ins C dx (F_Giver b h pl false)))
    (k : ∀ H', Sep H0 ft H' (l.set n (t1, p, .ins C dx (F_Giver b h pl true))) → Q .non H') (ht : t1 = 1 ∨ t1 = 2 := by first | exact .inl rfl | exact .inr rfl) : spShut0 C [.ref p] H Q E := ⟨p, dx, pl, b, h, rfl, S.get n e1, fun H' e F => k H' (S.chg1 n e1 F e ht)⟩

def spPutX (C CN : Addr) : Sp := fun vs H Q E => ∃ (p dx pl : Addr) (b h : Int) (xs : List V) (v : V), vs = [.ref p, v] ∧ H p = some (.ins C dx (F_Giver b h pl false)) ∧ H pl = some (.lst xs) ∧ xs.length < 100000 ∧
  (h + xs.length < b → ∀ H' : Hp, H' pl = some (.lst (xs ++ [v])) → (∀ b o, H b = some o → b ≠ pl → H' b = some o) → Q .non H') ∧ (¬ h + xs.length < b → E (.ref CN) none H)
theorem c_putX {C CN : Addr} {H0 H : Hp} {ft : List Addr} {l : List Cell} {t1 t2 : Nat} {p dx pl : Addr} {b h : Int} {xs : List V} {v : V} {Q : VK} {E : XK} (S : Sep H0 ft H l) (n m : Nat) (e1 : l[n]? = some (t1, p, .ins C dx (F_Giver b h pl false))) (e2 : l[m]? = some (t2, pl, .lst xs)) (hl : xs.length < 100000)
    (k : h + xs.length < b → ∀ H', Sep H0 ft H' (l.set m (t2, pl, .lst (xs ++ [v]))) → Q .non H') (kE : ¬ h + xs.length < b → E (.ref CN) none H) (ht : t2 = 1 ∨ t2 = 2 := by first | exact .inl rfl | exact .inr rfl) : spPutX C CN [.ref p, v] H Q E := ⟨p, dx, pl, b, h, xs, v, rfl, S.get n e1, S.get m e2, hl, fun hb H' e F => k hb H' (S.chg1 m e2 F e ht), kE⟩
/-- the things of vs are pairs of a place, from h on, and a thing of xs, told by the cells of L -/
def WIn (L : List Cell) (h : Int) (xs vs : List V) : Prop := vs.length = xs.length ∧ ∀ (i : Nat) (v : V), vs[i]? = some v → ∃ (a : Addr) (x : V), v = .ref a ∧ xs[i]? = some x ∧ (2, a, HO.tup [.int (h + i), x]) ∈ L
def spWanted (C : Addr) : Sp := fun vs H Q _ => ∃ (p dx pl : Addr) (b h : Int) (c : Bool) (xs : List V), vs = [.ref p] ∧ H p = some (.ins C dx (F_Giver b h pl c)) ∧ H pl = some (.lst xs) ∧ xs.length ≤ 1000 ∧
  ∀ (r : Addr) (ws : List V) (L : List Cell) (H' : Hp), (∀ c ∈ L, c.1 = 2) → WIn L h xs ws → Sep H [] H' ((2, r, .lst ws) :: L) → Q (.ref r) H'
def spIsShut (C : Addr) : Sp := fun vs H Q _ => ∃ (p dx pl : Addr) (b h : Int) (c : Bool), vs = [.ref p] ∧ H p = some (.ins C dx (F_Giver b h pl c)) ∧ Q (.bl c) H
theorem c_isshut {C : Addr} {H0 H : Hp} {ft : List Addr} {l : List Cell} {t1 : Nat} {p dx pl : Addr} {b h : Int} {c : Bool} {Q : VK} {E : XK} (S : Sep H0 ft H l) (n : Nat) (e1 : l[n]? = some (t1, p, .ins C dx (F_Giver b h pl c))) (k : Q (.bl c) H) : spIsShut C [.ref p] H Q E := ⟨p, dx, pl, b, h, c, rfl, S.get n e1, k⟩
section
variable {P : Program} {w : World} {K : PySem.W.Frag} {mg : Str → Option Value} {base : Heap}
abbrev s_Giver__init : Stmt := (inClass (topS 7) 0)
theorem sc_Giver__init : FnScope ["self", "window"] ["self", "window"] (defScope s_Giver__init) := ⟨rfl, rfl, rfl, by decide +kernel, rfl, by decide +kernel, by decide +kernel⟩
theorem ok_Giver__init {f : Addr} {fd : FuncData} {C : Addr} (F : L2.Fun K "__init__" "Giver.__init__" s_Giver__init f fd) (T : GvCls K C) : FnOk P w K mg base CX0 1 f fd ["self", "window"] (spGvInit C) := by
  refine F.ok sc_Giver__init (fun vs H Q E h => ?_) (fun cdv A outer s H0 vs Q E hr h => ?_)
  · obtain ⟨p, dx, w, rfl, hp, k⟩ := h
    rfl
  · obtain ⟨p, dx, w, rfl, hp, k⟩ := h
    have hu := hu_of hr
    have S := Sep.of1 hp
    refine ⟨_, pss_cons (ps_fld1 (pv 0) (pv 1) rfl)
      (pss_cons (ps_fld1 (pv 0) (pe_int) rfl)
      (pss_cons (ps_fld1 (pv 0) (pe_lst1 pa_nil) rfl)
      (pss_one (ps_fld1 (pv 0) (pe_bl) rfl)))), ?_⟩
    rw [show start ["self", "window"] [V.ref p, V.int w] = [some (V.ref p), some (V.int w)] from rfl]
    try dsimp only [tMethS1, WE, tSeq, tAsg, gName, tOp, tUn, tCB, tCons, tNil, tCall, tMethK1, tCallK1, tPar3, tRet, tRetN, tDrop, tTest, tB, tC, tNext, tAugS, tAug, sFld1, sFldAug1, tMeth1, tMake, tMakeK1, tSl, tPart, tNoPart, sDPut1, tDPop, tBM, tBM0, tPar, gSub, tChain, tNot, tNotV, tDG1, tDG2, tDNewT1, iKeys1, iEnum1, iList1, iTup1, iRng1, iRng2, List.set_cons_zero, List.set_cons_succ]
    refine x_var (by exact rfl) ?_
    refine x_var (by exact rfl) ?_
    refine x_sfld S 0 (by exact rfl) T.c_Giver T.na_Giver_below pi_Giver_1 (by exact Nat.le_of_ble_eq_true rfl) (fun H S => ?_)
    simp only [List.set_cons_zero, List.set_cons_succ] at S
    try dsimp only [tMethS1, WE, tSeq, tAsg, gName, tOp, tUn, tCB, tCons, tNil, tCall, tMethK1, tCallK1, tPar3, tRet, tRetN, tDrop, tTest, tB, tC, tNext, tAugS, tAug, sFld1, sFldAug1, tMeth1, tMake, tMakeK1, tSl, tPart, tNoPart, sDPut1, tDPop, tBM, tBM0, tPar, gSub, tChain, tNot, tNotV, tDG1, tDG2, tDNewT1, iKeys1, iEnum1, iList1, iTup1, iRng1, iRng2, List.set_cons_zero, List.set_cons_succ]
    refine x_var (by exact rfl) ?_
    refine x_sfld S 0 (by exact rfl) T.c_Giver T.na_Giver_behind pi_Giver_2 (by exact Nat.le_of_ble_eq_true rfl) (fun H S => ?_)
    simp only [List.set_cons_zero, List.set_cons_succ] at S
    try dsimp only [tMethS1, WE, tSeq, tAsg, gName, tOp, tUn, tCB, tCons, tNil, tCall, tMethK1, tCallK1, tPar3, tRet, tRetN, tDrop, tTest, tB, tC, tNext, tAugS, tAug, sFld1, sFldAug1, tMeth1, tMake, tMakeK1, tSl, tPart, tNoPart, sDPut1, tDPop, tBM, tBM0, tPar, gSub, tChain, tNot, tNotV, tDG1, tDG2, tDNewT1, iKeys1, iEnum1, iList1, iTup1, iRng1, iRng2, List.set_cons_zero, List.set_cons_succ]
    refine x_lst S (by exact Nat.le_of_ble_eq_true rfl) (fun L1 H S => ?_)
    refine x_var (by exact rfl) ?_
    refine x_sfld S 1 (by exact rfl) T.c_Giver T.na_Giver_pieces pi_Giver_3 (by exact Nat.le_of_ble_eq_true rfl) (fun H S => ?_)
    simp only [List.set_cons_zero, List.set_cons_succ] at S
    try dsimp only [tMethS1, WE, tSeq, tAsg, gName, tOp, tUn, tCB, tCons, tNil, tCall, tMethK1, tCallK1, tPar3, tRet, tRetN, tDrop, tTest, tB, tC, tNext, tAugS, tAug, sFld1, sFldAug1, tMeth1, tMake, tMakeK1, tSl, tPart, tNoPart, sDPut1, tDPop, tBM, tBM0, tPar, gSub, tChain, tNot, tNotV, tDG1, tDG2, tDNewT1, iKeys1, iEnum1, iList1, iTup1, iRng1, iRng2, List.set_cons_zero, List.set_cons_succ]
    refine x_var (by exact rfl) ?_
    refine x_sfld S 1 (by exact rfl) T.c_Giver T.na_Giver_closed pi_Giver_4 (by exact Nat.le_of_ble_eq_true rfl) (fun H S => ?_)
    simp only [List.set_cons_zero, List.set_cons_succ] at S
    exact k _ _ (S.new_none 0 rfl) (S.get 1 rfl) (S.get 0 rfl) S.out1
abbrev s_Giver_many : Stmt := (inClass (topS 7) 6)
theorem sc_Giver_many : FnScope ["self"] ["self"] (defScope s_Giver_many) := ⟨rfl, rfl, rfl, by decide +kernel, rfl, by decide +kernel, by decide +kernel⟩
theorem ok_Giver_many {f : Addr} {fd : FuncData} {C : Addr} (F : L2.Fun K "many" "Giver.many" s_Giver_many f fd) (T : GvCls K C) (z_len : mg "len" = none) : FnOk P w K mg base CX0 1 f fd ["self"] (spMany C) := by
  refine F.ok sc_Giver_many (fun vs H Q E h => ?_) (fun cdv A outer s H0 vs Q E hr h => ?_)
  · obtain ⟨p, dx, pl, b, h, c, xs, rfl, hp, hd, k⟩ := h
    rfl
  · obtain ⟨p, dx, pl, b, h, c, xs, rfl, hp, hd, k⟩ := h
    have hu := hu_of hr
    have S : Sep H0 [] H0 [(0, p, .ins C dx (F_Giver b h pl c)), (0, pl, .lst xs)] := (Sep.of0.add 0 hd (fun _ z => nomatch z) (fun z => by cases z) (fun z => by cases z)).add 0 hp (fun c hc z => by rw [List.mem_singleton.mp hc] at z; exact ne_of hd hp (by intro z; cases z) z) (fun z => by cases z) (fun z => by cases z)
    refine ⟨_, pss_one (ps_ret (pe_op op_add (pe_fldK K (pv 0)) (pe_callB (cl_lenK K) (by rfl) z_len PySem.boot_len (pa_cons (pe_fldK K (pv 0)) pa_nil)))), ?_⟩
    rw [show start ["self"] [V.ref p] = [some (V.ref p)] from rfl]
    try dsimp only [tMethS1, WE, tSeq, tAsg, gName, tOp, tUn, tCB, tCons, tNil, tCall, tMethK1, tCallK1, tPar3, tRet, tRetN, tDrop, tTest, tB, tC, tNext, tAugS, tAug, sFld1, sFldAug1, tMeth1, tMake, tMakeK1, tSl, tPart, tNoPart, sDPut1, tDPop, tBM, tBM0, tPar, gSub, tChain, tNot, tNotV, tDG1, tDG2, tDNewT1, iKeys1, iEnum1, iList1, iTup1, iRng1, iRng2, List.set_cons_zero, List.set_cons_succ]
    refine x_var (by exact rfl) ?_
    refine x_fld S 0 (by exact rfl) T.c_Giver T.na_Giver_behind lk_Giver_behind ?_
    refine x_var (by exact rfl) ?_
    refine x_fld S 0 (by exact rfl) T.c_Giver T.na_Giver_pieces lk_Giver_pieces ?_
    refine x_len S 1 (by exact rfl) ?_
    refine x_I0 ?_
    exact k
abbrev s_Giver_heard : Stmt := (inClass (topS 7) 4)
theorem sc_Giver_heard : FnScope ["self", "got", "room", "less"] ["self", "got", "room"] (defScope s_Giver_heard) := ⟨rfl, rfl, rfl, by decide +kernel, rfl, by decide +kernel, by decide +kernel⟩
theorem ok_Giver_heard {f : Addr} {fd : FuncData} {C : Addr} (F : L2.Fun K "heard" "Giver.heard" s_Giver_heard f fd) (T : GvCls K C) (z_max : mg "max" = none) : FnOk P w K mg base CX0 1 f fd ["self", "got", "room"] (spHeard C) := by
  refine F.ok sc_Giver_heard (fun vs H Q E h => ?_) (fun cdv A outer s H0 vs Q E hr h => ?_)
  · obtain ⟨p, dx, pl, b, h, g, r, c, xs, rfl, hp, hd, k⟩ := h
    rfl
  · obtain ⟨p, dx, pl, b, h, g, r, c, xs, rfl, hp, hd, k⟩ := h
    have hu := hu_of hr
    have S : Sep H0 [p] H0 [(1, p, .ins C dx (F_Giver b h pl c)), (0, pl, .lst xs)] := ((Sep.of1 hp).add 0 hd (fun c hc z => by rw [List.mem_singleton.mp hc] at z; exact ne_of hp hd (by intro z; cases z) z) (fun z => by cases z) (fun z => by cases z)).sub [1, 0]
    refine ⟨_, pss_cons (ps_set (i := 3) sc_Giver_heard.nd rfl (.inl rfl) (pe_callB (cl_max rfl) (by rfl) z_max (by decide +kernel) (pa_cons (pe_op op_sub (pv 1) (pe_fldK K (pv 0))) (pa_cons (pe_int) pa_nil))))
      (pss_cons (ps_fld1 (pv 0) (pe_slice (sl_listK K) (pe_fldK K (pv 0)) (po_some (pv 3)) (po_none)) rfl)
      (pss_cons (ps_fldaug1 (pv 0) (pv 3) in_add)
      (pss_one (ps_fld1 (pv 0) (pe_callB (cl_max rfl) (by rfl) z_max (by decide +kernel) (pa_cons (pe_fldK K (pv 0)) (pa_cons (pv 2) pa_nil))) rfl)))), ?_⟩
    rw [show start ["self", "got", "room", "less"] [V.ref p, V.int g, V.int r] = [some (V.ref p), some (V.int g), some (V.int r), none] from rfl]
    try dsimp only [tMethS1, WE, tSeq, tAsg, gName, tOp, tUn, tCB, tCons, tNil, tCall, tMethK1, tCallK1, tPar3, tRet, tRetN, tDrop, tTest, tB, tC, tNext, tAugS, tAug, sFld1, sFldAug1, tMeth1, tMake, tMakeK1, tSl, tPart, tNoPart, sDPut1, tDPop, tBM, tBM0, tPar, gSub, tChain, tNot, tNotV, tDG1, tDG2, tDNewT1, iKeys1, iEnum1, iList1, iTup1, iRng1, iRng2, List.set_cons_zero, List.set_cons_succ]
    refine x_var (by exact rfl) ?_
    refine x_var (by exact rfl) ?_
    refine x_fld S 0 (by exact rfl) T.c_Giver T.na_Giver_behind lk_Giver_behind ?_
    refine x_I0 ?_
    refine x_max ?_
    try dsimp only [tMethS1, WE, tSeq, tAsg, gName, tOp, tUn, tCB, tCons, tNil, tCall, tMethK1, tCallK1, tPar3, tRet, tRetN, tDrop, tTest, tB, tC, tNext, tAugS, tAug, sFld1, sFldAug1, tMeth1, tMake, tMakeK1, tSl, tPart, tNoPart, sDPut1, tDPop, tBM, tBM0, tPar, gSub, tChain, tNot, tNotV, tDG1, tDG2, tDNewT1, iKeys1, iEnum1, iList1, iTup1, iRng1, iRng2, List.set_cons_zero, List.set_cons_succ]
    refine x_var (by exact rfl) ?_
    refine x_fld S 0 (by exact rfl) T.c_Giver T.na_Giver_pieces lk_Giver_pieces ?_
    refine x_var (by exact rfl) ?_
    refine ⟨_, rfl, ?_⟩
    refine x_slL S 1 (by exact rfl) (fun sl1 H S => ?_)
    refine x_var (by exact rfl) ?_
    refine x_sfld S 1 (by exact rfl) T.c_Giver T.na_Giver_pieces pt_Giver_pieces (by exact Nat.le_of_ble_eq_true rfl) (fun H S => ?_)
    simp only [List.set_cons_zero, List.set_cons_succ] at S
    try dsimp only [tMethS1, WE, tSeq, tAsg, gName, tOp, tUn, tCB, tCons, tNil, tCall, tMethK1, tCallK1, tPar3, tRet, tRetN, tDrop, tTest, tB, tC, tNext, tAugS, tAug, sFld1, sFldAug1, tMeth1, tMake, tMakeK1, tSl, tPart, tNoPart, sDPut1, tDPop, tBM, tBM0, tPar, gSub, tChain, tNot, tNotV, tDG1, tDG2, tDNewT1, iKeys1, iEnum1, iList1, iTup1, iRng1, iRng2, List.set_cons_zero, List.set_cons_succ]
    refine x_var (by exact rfl) ?_
    refine x_fldA S 1 (by exact rfl) T.c_Giver T.na_Giver_behind lk_Giver_behind ?_
    refine x_var (by exact rfl) ?_
    refine x_add ?_
    refine x_augf S 1 (by exact rfl) pt_Giver_behind (by exact Nat.le_of_ble_eq_true rfl) (fun H S => ?_)
    simp only [List.set_cons_zero, List.set_cons_succ] at S
    try dsimp only [tMethS1, WE, tSeq, tAsg, gName, tOp, tUn, tCB, tCons, tNil, tCall, tMethK1, tCallK1, tPar3, tRet, tRetN, tDrop, tTest, tB, tC, tNext, tAugS, tAug, sFld1, sFldAug1, tMeth1, tMake, tMakeK1, tSl, tPart, tNoPart, sDPut1, tDPop, tBM, tBM0, tPar, gSub, tChain, tNot, tNotV, tDG1, tDG2, tDNewT1, iKeys1, iEnum1, iList1, iTup1, iRng1, iRng2, List.set_cons_zero, List.set_cons_succ]
    refine x_var (by exact rfl) ?_
    refine x_fld S 1 (by exact rfl) T.c_Giver T.na_Giver_below lk_Giver_below ?_
    refine x_var (by exact rfl) ?_
    refine x_max ?_
    refine x_var (by exact rfl) ?_
    refine x_sfld S 1 (by exact rfl) T.c_Giver T.na_Giver_below pt_Giver_below (by exact Nat.le_of_ble_eq_true rfl) (fun H S => ?_)
    simp only [List.set_cons_zero, List.set_cons_succ] at S
    rw [cutV_from (by omega), show (max (g - h) 0).toNat = (g - h).toNat by omega] at S
    exact k _ _ (S.new_none 0 rfl) (S.get 1 rfl) (S.get 0 rfl) S.out1
abbrev s_Giver_shut : Stmt := (inClass (topS 7) 3)
theorem sc_Giver_shut : FnScope ["self"] ["self"] (defScope s_Giver_shut) := ⟨rfl, rfl, rfl, by decide +kernel, rfl, by decide +kernel, by decide +kernel⟩
theorem ok_Giver_shut {f : Addr} {fd : FuncData} {C : Addr} (F : L2.Fun K "shut" "Giver.shut" s_Giver_shut f fd) (T : GvCls K C) : FnOk P w K mg base CX0 1 f fd ["self"] (spShut0 C) := by
  refine F.ok sc_Giver_shut (fun vs H Q E h => ?_) (fun cdv A outer s H0 vs Q E hr h => ?_)
  · obtain ⟨p, dx, pl, b, h, rfl, hp, k⟩ := h
    rfl
  · obtain ⟨p, dx, pl, b, h, rfl, hp, k⟩ := h
    have hu := hu_of hr
    have S := Sep.of1 hp
    refine ⟨_, pss_cons (ps_if (pt_val (pe_fldK K (pv 0))) (pss_one (ps_never)) (pss_nil))
      (pss_one (ps_fld1 (pv 0) (pe_bl) rfl)), ?_⟩
    rw [show start ["self"] [V.ref p] = [some (V.ref p)] from rfl]
    try dsimp only [tMethS1, WE, tSeq, tAsg, gName, tOp, tUn, tCB, tCons, tNil, tCall, tMethK1, tCallK1, tPar3, tRet, tRetN, tDrop, tTest, tB, tC, tNext, tAugS, tAug, sFld1, sFldAug1, tMeth1, tMake, tMakeK1, tSl, tPart, tNoPart, sDPut1, tDPop, tBM, tBM0, tPar, gSub, tChain, tNot, tNotV, tDG1, tDG2, tDNewT1, iKeys1, iEnum1, iList1, iTup1, iRng1, iRng2, List.set_cons_zero, List.set_cons_succ]
    refine x_if ?_
    try dsimp only [tMethS1, WE, tSeq, tAsg, gName, tOp, tUn, tCB, tCons, tNil, tCall, tMethK1, tCallK1, tPar3, tRet, tRetN, tDrop, tTest, tB, tC, tNext, tAugS, tAug, sFld1, sFldAug1, tMeth1, tMake, tMakeK1, tSl, tPart, tNoPart, sDPut1, tDPop, tBM, tBM0, tPar, gSub, tChain, tNot, tNotV, tDG1, tDG2, tDNewT1, iKeys1, iEnum1, iList1, iTup1, iRng1, iRng2, List.set_cons_zero, List.set_cons_succ]
    refine x_var (by exact rfl) ?_
    refine x_fld S 0 (by exact rfl) T.c_Giver T.na_Giver_closed lk_Giver_closed ?_
    refine ⟨_, rfl, ?_⟩
    refine iteb (fun c1 => ?_) (fun c1 => ?_)
    · try dsimp only [tMethS1, WE, tSeq, tAsg, gName, tOp, tUn, tCB, tCons, tNil, tCall, tMethK1, tCallK1, tPar3, tRet, tRetN, tDrop, tTest, tB, tC, tNext, tAugS, tAug, sFld1, sFldAug1, tMeth1, tMake, tMakeK1, tSl, tPart, tNoPart, sDPut1, tDPop, tBM, tBM0, tPar, gSub, tChain, tNot, tNotV, tDG1, tDG2, tDNewT1, iKeys1, iEnum1, iList1, iTup1, iRng1, iRng2, List.set_cons_zero, List.set_cons_succ]
      exact absurd c1 (by decide)
    · try dsimp only [tMethS1, WE, tSeq, tAsg, gName, tOp, tUn, tCB, tCons, tNil, tCall, tMethK1, tCallK1, tPar3, tRet, tRetN, tDrop, tTest, tB, tC, tNext, tAugS, tAug, sFld1, sFldAug1, tMeth1, tMake, tMakeK1, tSl, tPart, tNoPart, sDPut1, tDPop, tBM, tBM0, tPar, gSub, tChain, tNot, tNotV, tDG1, tDG2, tDNewT1, iKeys1, iEnum1, iList1, iTup1, iRng1, iRng2, List.set_cons_zero, List.set_cons_succ]
      refine x_var (by exact rfl) ?_
      refine x_sfld S 0 (by exact rfl) T.c_Giver T.na_Giver_closed pt_Giver_closed (by exact Nat.le_of_ble_eq_true rfl) (fun H S => ?_)
      simp only [List.set_cons_zero, List.set_cons_succ] at S
      exact k _ (S.get 0 rfl) S.out1
end
theorem WIn.nil {L : List Cell} {h : Int} {xs : List V} : WIn L h (xs.take 0) [] := ⟨rfl, fun _ _ h => by simp at h⟩
theorem WIn.snoc {L : List Cell} {h : Int} {xs vs : List V} {a : Addr} {x : V} {i : Nat} (w : WIn L h xs vs) (hi : xs.length = i) : WIn ((2, a, HO.tup [.int (h + (i : Nat)), x]) :: L) h (xs ++ [x]) (vs ++ [V.ref a]) := by
  refine ⟨by rw [List.length_append, List.length_append, w.1]; rfl, fun j v hj => ?_⟩
  by_cases c : j < vs.length
  · rw [List.getElem?_append_left c] at hj
    obtain ⟨b, y, e1, e2, e3⟩ := w.2 j v hj
    exact ⟨b, y, e1, by rw [List.getElem?_append_left (by rw [← w.1]; exact c)]; exact e2, List.mem_cons_of_mem _ e3⟩
  · have hj2 := hj
    rw [List.getElem?_append_right (by omega)] at hj
    have hl := (List.getElem?_eq_some_iff.mp hj2).1
    rw [List.length_append] at hl
    have hl : j < vs.length + 1 := hl
    have ej : j = vs.length := by omega
    subst ej
    rw [Nat.sub_self] at hj
    cases hj
    refine ⟨a, x, rfl, ?_, ?_⟩
    · rw [List.getElem?_append_right (by rw [w.1]; exact Nat.le_refl _), w.1, Nat.sub_self]; rfl
    · rw [w.1, hi]; exact List.mem_cons_self
section
variable {P : Program} {w : World} {K : PySem.W.Frag} {mg : Str → Option Value} {base : Heap}
abbrev s_Giver_put : Stmt := (inClass (topS 7) 1)
theorem sc_Giver_put : FnScope ["self", "value"] ["self", "value"] (defScope s_Giver_put) := ⟨rfl, rfl, rfl, by decide +kernel, rfl, by decide +kernel, by decide +kernel⟩
theorem ok_Giver_put {f : Addr} {fd : FuncData} {C CN : Addr} (F : L2.Fun K "put" "Giver.put" s_Giver_put f fd) (T : GvCls K C) (cNR : ExcC K mg "NoRoom" CN) (mmany : Met P w K mg base CX0 1 C "many" (spMany C)) : FnOk P w K mg base (L2.CX P w) 2 f fd ["self", "value"] (spPutX C CN) := by
  refine F.okX sc_Giver_put (fun vs H Q E h => ?_) (fun cdv A outer s H0 vs Q E hr h => ?_)
  · obtain ⟨p, dx, pl, b, h, xs, v, rfl, hp, hd, hl, k, kE⟩ := h
    rfl
  · obtain ⟨p, dx, pl, b, h, xs, v, rfl, hp, hd, hl, k, kE⟩ := h
    have hu := hu_of hr
    have S : Sep H0 [pl] H0 [(0, p, .ins C dx (F_Giver b h pl false)), (1, pl, .lst xs)] := (Sep.of1 hd).add 0 hp (fun c hc z => by rw [List.mem_singleton.mp hc] at z; exact ne_of hd hp (by intro z; cases z) z) (fun z => by cases z) (fun z => by cases z)
    refine ⟨_, pss_cons (ps_if (pt_val (pe_fldK K (pv 0))) (pss_one (ps_never)) (pss_nil))
      (pss_cons (ps_if (pt_cmpR op_ge (pe_mt0 mmany hr (by decide) pass0 (pv 0)) (pe_fldK K (pv 0)) (nomark _)) (pss_one (ps_raiseC cNR rfl (takes_of rfl rfl rfl rfl) (by rfl))) (pss_nil))
      (pss_one (ps_expr (pe_bm PySem.F.plainAttrs_list PySem.F.slot_list_append PySem.F.type_list_append mt_append (pe_fldK K (pv 0)) (pa_cons (pv 1) pa_nil))))), ?_⟩
    rw [show start ["self", "value"] [V.ref p, v] = [some (V.ref p), some (v)] from rfl]
    try dsimp only [tMethS1, WE, tSeq, tAsg, gName, tOp, tUn, tCB, tCons, tNil, tCall, tMethK1, tCallK1, tPar3, tRet, tRetN, tDrop, tTest, tB, tC, tNext, tAugS, tAug, sFld1, sFldAug1, tMeth1, tMake, tMakeK1, tSl, tPart, tNoPart, sDPut1, tDPop, tBM, tBM0, tPar, gSub, tChain, tNot, tNotV, tDG1, tDG2, tDNewT1, iKeys1, iEnum1, iList1, iTup1, iRng1, iRng2, List.set_cons_zero, List.set_cons_succ]
    refine x_if ?_
    try dsimp only [tMethS1, WE, tSeq, tAsg, gName, tOp, tUn, tCB, tCons, tNil, tCall, tMethK1, tCallK1, tPar3, tRet, tRetN, tDrop, tTest, tB, tC, tNext, tAugS, tAug, sFld1, sFldAug1, tMeth1, tMake, tMakeK1, tSl, tPart, tNoPart, sDPut1, tDPop, tBM, tBM0, tPar, gSub, tChain, tNot, tNotV, tDG1, tDG2, tDNewT1, iKeys1, iEnum1, iList1, iTup1, iRng1, iRng2, List.set_cons_zero, List.set_cons_succ]
    refine x_var (by exact rfl) ?_
    refine x_fld S 0 (by exact rfl) T.c_Giver T.na_Giver_closed lk_Giver_closed ?_
    refine ⟨_, rfl, ?_⟩
    refine iteb (fun c1 => ?_) (fun c1 => ?_)
    · try dsimp only [tMethS1, WE, tSeq, tAsg, gName, tOp, tUn, tCB, tCons, tNil, tCall, tMethK1, tCallK1, tPar3, tRet, tRetN, tDrop, tTest, tB, tC, tNext, tAugS, tAug, sFld1, sFldAug1, tMeth1, tMake, tMakeK1, tSl, tPart, tNoPart, sDPut1, tDPop, tBM, tBM0, tPar, gSub, tChain, tNot, tNotV, tDG1, tDG2, tDNewT1, iKeys1, iEnum1, iList1, iTup1, iRng1, iRng2, List.set_cons_zero, List.set_cons_succ]
      exact absurd c1 (by decide)
    · try dsimp only [tMethS1, WE, tSeq, tAsg, gName, tOp, tUn, tCB, tCons, tNil, tCall, tMethK1, tCallK1, tPar3, tRet, tRetN, tDrop, tTest, tB, tC, tNext, tAugS, tAug, sFld1, sFldAug1, tMeth1, tMake, tMakeK1, tSl, tPart, tNoPart, sDPut1, tDPop, tBM, tBM0, tPar, gSub, tChain, tNot, tNotV, tDG1, tDG2, tDNewT1, iKeys1, iEnum1, iList1, iTup1, iRng1, iRng2, List.set_cons_zero, List.set_cons_succ]
      refine x_if ?_
      try dsimp only [tMethS1, WE, tSeq, tAsg, gName, tOp, tUn, tCB, tCons, tNil, tCall, tMethK1, tCallK1, tPar3, tRet, tRetN, tDrop, tTest, tB, tC, tNext, tAugS, tAug, sFld1, sFldAug1, tMeth1, tMake, tMakeK1, tSl, tPart, tNoPart, sDPut1, tDPop, tBM, tBM0, tPar, gSub, tChain, tNot, tNotV, tDG1, tDG2, tDNewT1, iKeys1, iEnum1, iList1, iTup1, iRng1, iRng2, List.set_cons_zero, List.set_cons_succ]
      refine x_var (by exact rfl) ?_
      refine x_meth S 0 (by exact rfl) nk_Giver_many ?_
      refine c_many S 0 1 (by exact rfl) (by exact rfl) ?_
      refine x_var (by exact rfl) ?_
      refine x_fld S 0 (by exact rfl) T.c_Giver T.na_Giver_below lk_Giver_below ?_
      refine x_I0 ?_
      refine ⟨_, rfl, ?_⟩
      refine ited (fun c2 => ?_) (fun c2 => ?_)
      · try dsimp only [tMethS1, WE, tSeq, tAsg, gName, tOp, tUn, tCB, tCons, tNil, tCall, tMethK1, tCallK1, tPar3, tRet, tRetN, tDrop, tTest, tB, tC, tNext, tAugS, tAug, sFld1, sFldAug1, tMeth1, tMake, tMakeK1, tSl, tPart, tNoPart, sDPut1, tDPop, tBM, tBM0, tPar, gSub, tChain, tNot, tNotV, tDG1, tDG2, tDNewT1, iKeys1, iEnum1, iList1, iTup1, iRng1, iRng2, List.set_cons_zero, List.set_cons_succ]
        exact kE (by omega)
      · try dsimp only [tMethS1, WE, tSeq, tAsg, gName, tOp, tUn, tCB, tCons, tNil, tCall, tMethK1, tCallK1, tPar3, tRet, tRetN, tDrop, tTest, tB, tC, tNext, tAugS, tAug, sFld1, sFldAug1, tMeth1, tMake, tMakeK1, tSl, tPart, tNoPart, sDPut1, tDPop, tBM, tBM0, tPar, gSub, tChain, tNot, tNotV, tDG1, tDG2, tDNewT1, iKeys1, iEnum1, iList1, iTup1, iRng1, iRng2, List.set_cons_zero, List.set_cons_succ]
        refine x_var (by exact rfl) ?_
        refine x_fld S 0 (by exact rfl) T.c_Giver T.na_Giver_pieces lk_Giver_pieces ?_
        refine ⟨x_ty S 1 (by exact rfl), ?_⟩
        refine x_var (by exact rfl) ?_
        refine x_app S 1 (by exact rfl) (by first | omega | decide | (simp only [len_insAt, List.length_map, List.length_append, List.length_cons, List.length_nil, List.length_take, List.length_drop] at *; omega)) (fun H S => ?_)
        simp only [List.set_cons_zero, List.set_cons_succ] at S
        exact k (by omega) _ (S.get 1 rfl) S.out1
abbrev s_Giver_wanted : Stmt := (inClass (topS 7) 5)
theorem sc_Giver_wanted : FnScope ["self", "at", "value"] ["self"] (defScope s_Giver_wanted) := ⟨rfl, rfl, rfl, by decide +kernel, rfl, by decide +kernel, by decide +kernel⟩
theorem ok_Giver_wanted {f : Addr} {fd : FuncData} {C : Addr} (F : L2.Fun K "wanted" "Giver.wanted" s_Giver_wanted f fd) (T : GvCls K C) (z_enumerate : mg "enumerate" = none) : FnOk P w K mg base CX0 1 f fd ["self"] (spWanted C) := by
  refine F.ok sc_Giver_wanted (fun vs H Q E h => ?_) (fun cdv A outer s H0 vs Q E hr h => ?_)
  · obtain ⟨p, dx, pl, b, h, c, xs, rfl, hp, hd, hxl, k⟩ := h
    rfl
  · obtain ⟨p, dx, pl, b, h, c, xs, rfl, hp, hd, hxl, k⟩ := h
    have hu := hu_of hr
    have S : Sep H0 [] H0 [(0, p, .ins C dx (F_Giver b h pl c)), (0, pl, .lst xs)] := (Sep.of0.add 0 hd (fun _ z => nomatch z) (fun z => by cases z) (fun z => by cases z)).add 0 hp (fun c hc z => by rw [List.mem_singleton.mp hc] at z; exact ne_of hd hp (by intro z; cases z) z) (fun z => by cases z) (fun z => by cases z)
    refine ⟨_, pss_one (ps_ret (pe_lc (own := [("at", 1), ("value", 2)]) (g := gTup K 2 (gCons (gName 1) (gCons (gName 2) gNil))) rfl sc_Giver_wanted.nd (pi_enumK K (by rfl) z_enumerate (pa_cons (pe_fldK K (pv 0)) pa_nil)) (blkOk_by (N := ["self", "at", "value"]) (sc := defScope s_Giver_wanted) (by decide +kernel)) (fun _ _ _ _ _ => pg_tupK K 2 rfl (pgs_cons (pg_name (i := 1) sc_Giver_wanted.nd rfl (.inl rfl)) (pgs_cons (pg_name (i := 2) sc_Giver_wanted.nd rfl (.inl rfl)) (pgs_nil)))) (fun _ _ _ _ _ => pts_nil) (fun _ _ _ _ _ => pe_tup1 (pa_cons (pe_op op_add (pe_fldK K (pv 0)) (pv 1)) (pa_cons (pv 2) pa_nil))))), ?_⟩
    rw [show start ["self", "at", "value"] [V.ref p] = [some (V.ref p), none, none] from rfl]
    try dsimp only [tMethS1, WE, tSeq, tAsg, gName, tOp, tUn, tCB, tCons, tNil, tCall, tMethK1, tCallK1, tPar3, tRet, tRetN, tDrop, tTest, tB, tC, tNext, tAugS, tAug, sFld1, sFldAug1, tMeth1, tMake, tMakeK1, tSl, tPart, tNoPart, sDPut1, tDPop, tBM, tBM0, tPar, gSub, tChain, tNot, tNotV, tDG1, tDG2, tDNewT1, iKeys1, iEnum1, iList1, iTup1, iRng1, iRng2, List.set_cons_zero, List.set_cons_succ]
    refine x_lc ?_
    try dsimp only [tOp, tUn, tCB, tCons, tNil, tCall, tMethK1, tCallK1, tC, tMeth1, tMake, tMakeK1, tSl, tPart, tNoPart, tDPop, tChain, tNotV, tBM, tBM0, tDG1, tDG2, tDNewT1, iKeys1, iEnum1, iList1, iTup1, iRng1, iRng2]
    refine x_var (by exact rfl) ?_
    refine x_fld S 0 (by exact rfl) T.c_Giver T.na_Giver_pieces lk_Giver_pieces ?_
    refine x_enum S 1 (by exact rfl) ?_
    refine lcW (walk_enum (xs := xs)) S (fun D1 H S => ⟨fun i H1 => ∃ (ws : List V) (L : List Cell), WIn L h (xs.take i) ws ∧ (∀ c ∈ L, c.1 = 2) ∧ Sep H0 [] H1 ((2, D1, .lst ws) :: (0, p, .ins C dx (F_Giver b h pl c)) :: (0, pl, .lst xs) :: L), ?_, ?_, ?_, ?_⟩)
    · exact ⟨[], [], WIn.nil, (fun _ h => nomatch h), S⟩
    · rintro i H hi ⟨ws, L, hw, hL, S⟩
      exact S.sl 2 rfl
    · rintro i y H H9 hi ⟨ws, L, hw, hL, S⟩ hy
      obtain ⟨T9, xi, xv, rfl, hT9, rfl, hxi, hxv⟩ := hy
      have S := S.new hT9 (.tup [xi, xv])
      obtain rfl := Option.some.inj hxi.symm
      refine ⟨_, _, rfl, S.st 0 rfl, rfl, _, _, rfl, _, _, rfl, rfl, ?_⟩
      refine ⟨rfl, ?_⟩
      try dsimp only [tMethS1, WE, wipe, tYes, tSeq, tAsg, gName, tOp, tUn, tCB, tCons, tNil, tCall, tMethK1, tCallK1, tPar3, tRet, tRetN, tDrop, tTest, tB, tC, tNext, tAugS, tAug, sFld1, sFldAug1, tMeth1, tMake, tMakeK1, tSl, tPart, tNoPart, sDPut1, tDPop, tBM, tBM0, tPar, gSub, tChain, tNot, tNotV, tDG1, tDG2, tDNewT1, iKeys1, iEnum1, iList1, iTup1, iRng1, iRng2, List.set_cons_zero, List.set_cons_succ]
      refine iteT ?_
      refine x_var (by exact rfl) ?_
      refine x_fld S 2 (by exact rfl) T.c_Giver T.na_Giver_behind lk_Giver_behind ?_
      refine x_var (by exact rfl) ?_
      refine x_I0 ?_
      refine x_var (by exact rfl) ?_
      refine x_tup S (by exact Nat.le_of_ble_eq_true rfl) (fun U1 H S => ?_)
      refine x_lcapp S 2 (by exact rfl) (by have := hw.1; rw [List.length_take] at this; omega) (fun H S => ?_)
      simp only [List.set_cons_zero, List.set_cons_succ] at S
      have S := S.subT 5 [2, 3, 4, 0]
      refine ⟨ws ++ [V.ref U1], (2, U1, HO.tup [.int (h + (i : Nat)), xv]) :: L, ?_, ?_, S⟩
      · rw [take_snoc hxv]; exact hw.snoc (by rw [List.length_take]; omega)
      · exact fun c hc => (List.mem_cons.mp hc).elim (fun e => by rw [e]) (hL c)
    · rintro H ⟨ws, L, hw, hL, S⟩
      rw [List.take_length] at hw
      exact k _ _ _ _ hL hw (S.subT 3 [0])
abbrev s_Giver_is_shut : Stmt := (inClass (topS 7) 7)
theorem sc_Giver_is_shut : FnScope ["self"] ["self"] (defScope s_Giver_is_shut) := ⟨rfl, rfl, rfl, by decide +kernel, rfl, by decide +kernel, by decide +kernel⟩
theorem ok_Giver_is_shut {f : Addr} {fd : FuncData} {C : Addr} (F : L2.Fun K "is_shut" "Giver.is_shut" s_Giver_is_shut f fd) (T : GvCls K C) : FnOk P w K mg base CX0 1 f fd ["self"] (spIsShut C) := by
  refine F.ok sc_Giver_is_shut (fun vs H Q E h => ?_) (fun cdv A outer s H0 vs Q E hr h => ?_)
  · obtain ⟨p, dx, pl, b, h, c, rfl, hp, k⟩ := h
    rfl
  · obtain ⟨p, dx, pl, b, h, c, rfl, hp, k⟩ := h
    have hu := hu_of hr
    have S : Sep H0 [] H0 [(0, p, .ins C dx (F_Giver b h pl c))] := Sep.of0.add 0 hp (fun _ z => nomatch z) (fun z => by cases z) (fun z => by cases z)
    refine ⟨_, pss_one (ps_ret (pe_fldK K (pv 0))), ?_⟩
    rw [show start ["self"] [V.ref p] = [some (V.ref p)] from rfl]
    try dsimp only [tMethS1, WE, tSeq, tAsg, gName, tOp, tUn, tCB, tCons, tNil, tCall, tMethK1, tCallK1, tPar3, tRet, tRetN, tDrop, tTest, tB, tC, tNext, tAugS, tAug, sFld1, sFldAug1, tMeth1, tMake, tMakeK1, tSl, tPart, tNoPart, sDPut1, tDPop, tBM, tBM0, tPar, gSub, tChain, tNot, tNotV, tDG1, tDG2, tDNewT1, iKeys1, iEnum1, iList1, iTup1, iRng1, iRng2, List.set_cons_zero, List.set_cons_succ]
    refine x_var (by exact rfl) ?_
    refine x_fld S 0 (by exact rfl) T.c_Giver T.na_Giver_closed lk_Giver_closed ?_
    exact k
end
end G

set_option linter.all false
set_option maxRecDepth 100000
set_option maxHeartbeats 4000000
namespace G
open PySem PySem.Spec PyProof.Rows L2

/-- what a giver still has: from place h to place m -/
def seg (ps : List Int) (h m : Nat) : List Int := (ps.drop h).take (m - h)
theorem len_seg {ps : List Int} {h m : Nat} (h1 : h ≤ m) (h2 : m ≤ ps.length) : ((seg ps h m).map V.int).length = m - h := by
  unfold seg
  rw [List.length_map, List.length_take, List.length_drop]
  omega
theorem seg_snoc {ps : List Int} {h m : Nat} {v : Int} (h1 : h ≤ m) (hv : ps[m]? = some v) : (seg ps h m).map V.int ++ [V.int v] = (seg ps h (m + 1)).map V.int := by
  unfold seg
  rw [show m + 1 - h = (m - h) + 1 by omega, List.take_add_one, List.getElem?_drop, show h + (m - h) = m by omega, hv, List.map_append]
  rfl
def spLPut (C : Addr) : Sp := fun vs H Q _ => ∃ (gp dx pl pc : Addr) (B h m q : Nat) (c : Bool) (ps : List Int), vs = [.ref gp, .ref pc, .int q] ∧ Sep H [pl] H [(0, gp, .ins C dx (F_Giver B h pl c)), (1, pl, .lst ((seg ps h m).map V.int)), (0, pc, .lst (ps.map V.int))] ∧
  h ≤ m ∧ m ≤ ps.length ∧ ps.length ≤ 100 ∧ m ≤ B ∧ (c = true → m = ps.length) ∧ q ≤ 100 ∧ ∀ H' : Hp, H' pl = some (.lst ((seg ps h (min (min ps.length B) (m + q))).map V.int)) → (∀ b o, H b = some o → b ≠ pl → H' b = some o) → Q .non H'
section
variable {P : Program} {w : World} {K : PySem.W.Frag} {mg : Str → Option Value} {base : Heap}
abbrev s_law_put : Stmt := (topS 15)
theorem sc_law_put : FnScope ["_law_giver", "_law_pieces", "_law_often", "_law_full", "_law_turn"] ["_law_giver", "_law_pieces", "_law_often"] (defScope s_law_put) := ⟨rfl, rfl, rfl, by decide +kernel, rfl, by decide +kernel, by decide +kernel⟩
theorem ok_law_put {f : Addr} {fd : FuncData} {C CN : Addr} (F : L2.Fun K "_law_put" "_law_put" s_law_put f fd) (cNR : ExcC K mg "NoRoom" CN) (xNR : PySem.W.exmOne K (.ref CN) (.ref CN) = some true) (mmany : Met P w K mg base CX0 1 C "many" (spMany C)) (mput : Met P w K mg base (L2.CX P w) 2 C "put" (spPutX C CN)) (z_len : mg "len" = none) (z_range : mg "range" = none) : FnOk P w K mg base CX0 3 f fd ["_law_giver", "_law_pieces", "_law_often"] (spLPut C) := by
  refine F.ok sc_law_put (fun vs H Q E h => ?_) (fun cdv A outer s H0 vs Q E hr h => ?_)
  · obtain ⟨gp, dx, pl, pc, B, h, m, q, c, ps, rfl, S, h1, h2, h3, h4, hcl, hq, k⟩ := h
    rfl
  · obtain ⟨gp, dx, pl, pc, B, h, m, q, c, ps, rfl, S, h1, h2, h3, h4, hcl, hq, k⟩ := h
    have hu := hu_of hr

    refine ⟨_, pss_cons (ps_set (i := 3) sc_law_put.nd rfl (.inl rfl) (pe_bl))
      (pss_one (ps_for PassesOwn.never rfl (pi_range1 (by rfl) z_range (pa_cons (pv 2) pa_nil)) (pg_name (i := 4) sc_law_put.nd rfl (.inl rfl)) (pss_one (ps_if ((pw_and (pt_not (pt_val (pv 3))) (pw_and1 (pt_cmpR op_lt (pe_mt0 mmany hr (by decide) pass0 (pv 0)) (pe_callB (cl_lenK K) (by rfl) z_len PySem.boot_len (pa_cons (pv 1) pa_nil)) (nomark _)))).pt) (pss_one (ps_try_only rfl rfl ⟨rfl, by decide, Or.inl cNR.g⟩ takes0 (fun W pn xe tk _ => pss_one (ps_expr (pe_mtS mput (hr.mono (by decide)) (fun σ => passAt tk σ) (pv 0) (pa_cons (pe_ix (ix_listK K) (pv 1) (pe_mt0 mmany hr (by decide) pass0 (pv 0)) (fun _ _ => rfl)) pa_nil)))) (fun a oe cls d pn hz hf => pss_one (ps_set (i := 3) sc_law_put.nd rfl (.inl rfl) (pe_bl))))) (pss_nil))))), ?_⟩
    rw [show start ["_law_giver", "_law_pieces", "_law_often", "_law_full", "_law_turn"] [V.ref gp, V.ref pc, V.int q] = [some (V.ref gp), some (V.ref pc), some (V.int q), none, none] from rfl]
    try dsimp only [tMethS1, WE, tSeq, tAsg, gName, tOp, tUn, tCB, tCons, tNil, tCall, tMethK1, tCallK1, tPar3, tRet, tRetN, tDrop, tTest, tB, tC, tNext, tAugS, tAug, sFld1, sFldAug1, tMeth1, tMake, tMakeK1, tSl, tPart, tNoPart, sDPut1, tDPop, tBM, tBM0, tPar, gSub, tChain, tNot, tNotV, tDG1, tDG2, tDNewT1, iKeys1, iEnum1, iList1, iTup1, iRng1, iRng2, List.set_cons_zero, List.set_cons_succ]
    try dsimp only [tMethS1, WE, tSeq, tAsg, gName, tOp, tUn, tCB, tCons, tNil, tCall, tMethK1, tCallK1, tPar3, tRet, tRetN, tDrop, tTest, tB, tC, tNext, tAugS, tAug, sFld1, sFldAug1, tMeth1, tMake, tMakeK1, tSl, tPart, tNoPart, sDPut1, tDPop, tBM, tBM0, tPar, gSub, tChain, tNot, tNotV, tDG1, tDG2, tDNewT1, iKeys1, iEnum1, iList1, iTup1, iRng1, iRng2, List.set_cons_zero, List.set_cons_succ]
    refine x_for ?_
    try dsimp only [tOp, tUn, tCB, tCons, tNil, tCall, tMethK1, tCallK1, tC, tMeth1, tMake, tMakeK1, tSl, tPart, tNoPart, tDPop, tChain, tNotV, tBM, tBM0, tDG1, tDG2, tDNewT1, iKeys1, iEnum1, iList1, iTup1, iRng1, iRng2]
    refine x_var (by exact rfl) ?_
    refine ⟨_, rfl, by omega, by omega, ?_⟩
    refine forR (fun i σ H1 => ∃ (full : Bool) (mi : Nat) (q1 : Option V), σ = [some (.ref gp), some (.ref pc), some (.int q), some (.bl full), q1] ∧ mi = min (min ps.length B) (m + i) ∧ (full = true → mi = min ps.length B) ∧ Sep H0 [pl] H1 [(0, gp, .ins C dx (F_Giver B h pl c)), (1, pl, .lst ((seg ps h mi).map V.int)), (0, pc, .lst (ps.map V.int))]) ?_ ?_ ?_
    · exact ⟨false, m, _, rfl, by omega, (fun z => nomatch z), S⟩
    · rintro i σ H hi ⟨full, mi, q1, rfl, hmi, hful, S⟩
      have hml := len_seg (ps := ps) (h := h) (m := mi) (by omega) (by omega)
      try dsimp only [tMethS1, WE, tSeq, tAsg, gName, tOp, tUn, tCB, tCons, tNil, tCall, tMethK1, tCallK1, tPar3, tRet, tRetN, tDrop, tTest, tB, tC, tNext, tAugS, tAug, sFld1, sFldAug1, tMeth1, tMake, tMakeK1, tSl, tPart, tNoPart, sDPut1, tDPop, tBM, tBM0, tPar, gSub, tChain, tNot, tNotV, tDG1, tDG2, tDNewT1, iKeys1, iEnum1, iList1, iTup1, iRng1, iRng2, List.set_cons_zero, List.set_cons_succ]
      try dsimp only [tMethS1, WE, tSeq, tAsg, gName, tOp, tUn, tCB, tCons, tNil, tCall, tMethK1, tCallK1, tPar3, tRet, tRetN, tDrop, tTest, tB, tC, tNext, tAugS, tAug, sFld1, sFldAug1, tMeth1, tMake, tMakeK1, tSl, tPart, tNoPart, sDPut1, tDPop, tBM, tBM0, tPar, gSub, tChain, tNot, tNotV, tDG1, tDG2, tDNewT1, iKeys1, iEnum1, iList1, iTup1, iRng1, iRng2, List.set_cons_zero, List.set_cons_succ]
      refine x_if ?_
      try dsimp only [tMethS1, WE, tSeq, tAsg, gName, tOp, tUn, tCB, tCons, tNil, tCall, tMethK1, tCallK1, tPar3, tRet, tRetN, tDrop, tTest, tB, tC, tNext, tAugS, tAug, sFld1, sFldAug1, tMeth1, tMake, tMakeK1, tSl, tPart, tNoPart, sDPut1, tDPop, tBM, tBM0, tPar, gSub, tChain, tNot, tNotV, tDG1, tDG2, tDNewT1, iKeys1, iEnum1, iList1, iTup1, iRng1, iRng2, List.set_cons_zero, List.set_cons_succ]
      refine x_and ?_
      try dsimp only [tMethS1, WE, tSeq, tAsg, gName, tOp, tUn, tCB, tCons, tNil, tCall, tMethK1, tCallK1, tPar3, tRet, tRetN, tDrop, tTest, tB, tC, tNext, tAugS, tAug, sFld1, sFldAug1, tMeth1, tMake, tMakeK1, tSl, tPart, tNoPart, sDPut1, tDPop, tBM, tBM0, tPar, gSub, tChain, tNot, tNotV, tDG1, tDG2, tDNewT1, iKeys1, iEnum1, iList1, iTup1, iRng1, iRng2, List.set_cons_zero, List.set_cons_succ]
      refine x_var (by exact rfl) ?_
      refine ⟨_, rfl, ?_⟩
      refine itnb (fun c1 => ?_) (fun c1 => ?_)
      · refine x_var (by exact rfl) ?_
        refine x_meth S 0 (by exact rfl) nk_Giver_many ?_
        refine c_many S 0 1 (by exact rfl) (by exact rfl) ?_
        refine x_var (by exact rfl) ?_
        refine x_lenI S 2 (by exact rfl) ?_
        refine x_I0 ?_
        refine ⟨_, rfl, ?_⟩
        refine ited (fun c2 => ?_) (fun c2 => ?_)
        · try dsimp only [tMethS1, WE, tSeq, tAsg, gName, tOp, tUn, tCB, tCons, tNil, tCall, tMethK1, tCallK1, tPar3, tRet, tRetN, tDrop, tTest, tB, tC, tNext, tAugS, tAug, sFld1, sFldAug1, tMeth1, tMake, tMakeK1, tSl, tPart, tNoPart, sDPut1, tDPop, tBM, tBM0, tPar, gSub, tChain, tNot, tNotV, tDG1, tDG2, tDNewT1, iKeys1, iEnum1, iList1, iTup1, iRng1, iRng2, List.set_cons_zero, List.set_cons_succ]
          try dsimp only [tMethS1, WE, tSeq, tAsg, gName, tOp, tUn, tCB, tCons, tNil, tCall, tMethK1, tCallK1, tPar3, tRet, tRetN, tDrop, tTest, tB, tC, tNext, tAugS, tAug, sFld1, sFldAug1, tMeth1, tMake, tMakeK1, tSl, tPart, tNoPart, sDPut1, tDPop, tBM, tBM0, tPar, gSub, tChain, tNot, tNotV, tDG1, tDG2, tDNewT1, iKeys1, iEnum1, iList1, iTup1, iRng1, iRng2, List.set_cons_zero, List.set_cons_succ]
          refine x_var (by exact rfl) ?_
          refine x_meth S 0 (by exact rfl) nk_Giver_put ?_
          refine x_var (by exact rfl) ?_
          refine x_var (by exact rfl) ?_
          refine x_meth S 0 (by exact rfl) nk_Giver_many ?_
          refine c_many S 0 1 (by exact rfl) (by exact rfl) ?_
          refine x_ixI S 2 (by exact rfl) (by omega) (by omega) (fun v1 hv1 => ?_)
          cases c with
          | true => have := hcl rfl; omega
          | false =>
            refine c_putX S 0 1 (by exact rfl) (by exact rfl) (by omega) (fun hb H S => ?_) (fun hb => ?_)
            · simp only [List.set_cons_zero, List.set_cons_succ] at S
              have ev : ((h : Int) + (((seg ps h mi).map V.int).length : Nat)).toNat = mi := by omega
              rw [ev] at hv1
              rw [seg_snoc (by omega) hv1] at S
              exact ⟨_, mi + 1, _, rfl, by omega, (fun z => by rw [z] at c1; cases c1), S⟩
            · refine ⟨true, xNR, fun _ a0 _ => ?_, fun q => Bool.noConfusion q⟩
              try dsimp only [tMethS1, WE, tSeq, tAsg, gName, tOp, tUn, tCB, tCons, tNil, tCall, tMethK1, tCallK1, tPar3, tRet, tRetN, tDrop, tTest, tB, tC, tNext, tAugS, tAug, sFld1, sFldAug1, tMeth1, tMake, tMakeK1, tSl, tPart, tNoPart, sDPut1, tDPop, tBM, tBM0, tPar, gSub, tChain, tNot, tNotV, tDG1, tDG2, tDNewT1, iKeys1, iEnum1, iList1, iTup1, iRng1, iRng2, List.set_cons_zero, List.set_cons_succ]
              exact ⟨true, mi, _, rfl, by omega, (fun _ => by omega), S⟩
        · exact ⟨_, mi, _, rfl, by omega, hful, S⟩
      · refine iteF ?_
        have hf := hful c1
        exact ⟨_, mi, _, rfl, by omega, hful, S⟩
    · rintro σ H ⟨full, mi, q1, rfl, hmi, hful, S⟩
      rw [hmi] at S
      try dsimp only [tMethS1, WE, tSeq, tAsg, gName, tOp, tUn, tCB, tCons, tNil, tCall, tMethK1, tCallK1, tPar3, tRet, tRetN, tDrop, tTest, tB, tC, tNext, tAugS, tAug, sFld1, sFldAug1, tMeth1, tMake, tMakeK1, tSl, tPart, tNoPart, sDPut1, tDPop, tBM, tBM0, tPar, gSub, tChain, tNot, tNotV, tDG1, tDG2, tDNewT1, iKeys1, iEnum1, iList1, iTup1, iRng1, iRng2, List.set_cons_zero, List.set_cons_succ]
      exact k _ (by rw [show (q : Int).toNat = q from rfl] at S; exact S.get 1 rfl) S.out1
end
end G

set_option linter.all false
set_option maxRecDepth 100000
set_option maxHeartbeats 4000000
namespace G
open PySem PySem.Spec PyProof.Rows L2

/-- what a taker keeps: pieces of ps from place t on, below m -/
def Kp (ps : List Int) (t m : Nat) (kv : List (Key × V)) : Prop := ∀ (i : Int) (v : V), valV kv (.inl i : Key) = some v → ∃ (n : Nat) (z : Int), i = n ∧ t ≤ n ∧ n < m ∧ v = .int z ∧ ps[n]? = some z
theorem Kp.drop {ps : List Int} {t m : Nat} {kv : List (Key × V)} (h : Kp ps t m kv) : Kp ps (t + 1) m (dropK kv (.inl (t : Int))) := fun i v e => by
  rw [valV_drop] at e
  by_cases q : (.inl i : Key) = .inl (t : Int)
  · rw [if_pos q] at e; cases e
  · rw [if_neg q] at e
    obtain ⟨n, z, e1, e2, e3, e4⟩ := h i v e
    exact ⟨n, z, e1, by have : i ≠ t := fun z => q (by rw [z]); omega, e3, e4⟩
def spLTk (C : Addr) : Sp := fun vs H Q _ => ∃ (o dx d pc : Addr) (w : Int) (t m q : Nat) (e : V) (kv : List (Key × V)) (ps : List Int), vs = [.ref o, .ref pc, .int t, .int q] ∧ Sep H [o, d] H [(1, o, .ins C dx (F_Taker w t d e)), (1, d, .dK kv), (0, pc, .lst (ps.map V.int))] ∧
  Kp ps t m kv ∧ m ≤ ps.length ∧ q ≤ 100 ∧ ∀ (t' : Nat) (kv' : List (Key × V)) (H' : Hp), t ≤ t' → (t ≤ m → t' ≤ m) → Kp ps t' m kv' → kv'.length ≤ kv.length → (∀ i : Int, t' ≤ i → valV kv' (.inl i : Key) = valV kv (.inl i : Key)) → (t' = t + q ∨ valV kv (.inl (t' : Int) : Key) = none) →
    (∀ i : Nat, t ≤ i → i < t' → valV kv (.inl (i : Int) : Key) ≠ none) → H' o = some (.ins C dx (F_Taker w t' d e)) → H' d = some (.dK kv') → (∀ b u, H b = some u → b ≠ o → b ≠ d → H' b = some u) → Q (.int t') H'
section
variable {P : Program} {w : World} {K : PySem.W.Frag} {mg : Str → Option Value} {base : Heap}
abbrev s_law_taken : Stmt := (topS 16)
theorem sc_law_taken : FnScope ["_law_taker", "_law_pieces", "_law_many", "_law_often", "_law_turn", "_law_found"] ["_law_taker", "_law_pieces", "_law_many", "_law_often"] (defScope s_law_taken) := ⟨rfl, rfl, rfl, by decide +kernel, rfl, by decide +kernel, by decide +kernel⟩
theorem ok_law_taken {f : Addr} {fd : FuncData} {C : Addr} (F : L2.Fun K "_law_taken" "_law_taken" s_law_taken f fd) (mtake : Met P w K mg base CX0 1 C "take" (spTake C)) (cis : Cal P w K mg base CX0 1 "_law_is" spIs) (z_len : mg "len" = none) (z_range : mg "range" = none) : FnOk P w K mg base CX0 2 f fd ["_law_taker", "_law_pieces", "_law_many", "_law_often"] (spLTk C) := by
  refine F.ok sc_law_taken (fun vs H Q E h => ?_) (fun cdv A outer s H0 vs Q E hr h => ?_)
  · obtain ⟨o, dx, d, pc, w, t, m, q, e, kv, ps, rfl, S, hK, hm, hq, k⟩ := h
    rfl
  · obtain ⟨o, dx, d, pc, w, t, m, q, e, kv, ps, rfl, S, hK, hm, hq, k⟩ := h
    have hu := hu_of hr

    refine ⟨_, pss_cons (ps_for PassesOwn.never rfl (pi_range1 (by rfl) z_range (pa_cons (pv 3) pa_nil)) (pg_name (i := 4) sc_law_taken.nd rfl (.inl rfl)) (pss_cons (ps_set (i := 5) sc_law_taken.nd rfl (.inl rfl) (pe_mt0 mtake hr (by decide) pass0 (pv 0)))
      (pss_one (ps_if (pt_cmpR op_notN (pv 5) (pe_non) (nomark _)) (pss_cons (ps_if ((pw_or (pt_cmpR op_ge (pv 2) (pe_callB (cl_lenK K) (by rfl) z_len PySem.boot_len (pa_cons (pv 1) pa_nil)) (nomark _)) (pw_or1 (pt_not (pt_val (pe_c cis hr (by decide) (by rfl) pass0 (pa_cons (pv 5) (pa_cons (pe_ix (ix_listK K) (pv 1) (pv 2) (fun _ _ => rfl)) pa_nil))))))).pt) (pss_one (ps_ret (pe_un un_neg (pe_int)))) (pss_nil))
      (pss_one (ps_aug (i := 2) sc_law_taken.nd rfl (.inl rfl) (pe_int) ip_add))) (pss_nil)))))
      (pss_one (ps_ret (pv 2))), ?_⟩
    rw [show start ["_law_taker", "_law_pieces", "_law_many", "_law_often", "_law_turn", "_law_found"] [V.ref o, V.ref pc, V.int t, V.int q] = [some (V.ref o), some (V.ref pc), some (V.int t), some (V.int q), none, none] from rfl]
    try dsimp only [tMethS1, WE, tSeq, tAsg, gName, tOp, tUn, tCB, tCons, tNil, tCall, tMethK1, tCallK1, tPar3, tRet, tRetN, tDrop, tTest, tB, tC, tNext, tAugS, tAug, sFld1, sFldAug1, tMeth1, tMake, tMakeK1, tSl, tPart, tNoPart, sDPut1, tDPop, tBM, tBM0, tPar, gSub, tChain, tNot, tNotV, tDG1, tDG2, tDNewT1, iKeys1, iEnum1, iList1, iTup1, iRng1, iRng2, List.set_cons_zero, List.set_cons_succ]
    refine x_for ?_
    try dsimp only [tOp, tUn, tCB, tCons, tNil, tCall, tMethK1, tCallK1, tC, tMeth1, tMake, tMakeK1, tSl, tPart, tNoPart, tDPop, tChain, tNotV, tBM, tBM0, tDG1, tDG2, tDNewT1, iKeys1, iEnum1, iList1, iTup1, iRng1, iRng2]
    refine x_var (by exact rfl) ?_
    refine ⟨_, rfl, by omega, by omega, ?_⟩
    refine forR (fun i σ H1 => ∃ (ti : Nat) (kk : List (Key × V)) (q1 q2 : Option V), σ = [some (.ref o), some (.ref pc), some (.int (ti : Nat)), some (.int q), q1, q2] ∧ t ≤ ti ∧ ti ≤ t + i ∧ (t ≤ m → ti ≤ m) ∧ Kp ps ti m kk ∧ kk.length ≤ kv.length ∧ (∀ i : Int, ti ≤ i → valV kk (.inl i : Key) = valV kv (.inl i : Key)) ∧ (ti = t + i ∨ valV kv (.inl (ti : Int) : Key) = none) ∧ (∀ i : Nat, t ≤ i → i < ti → valV kv (.inl (i : Int) : Key) ≠ none) ∧ Sep H0 [o, d] H1 [(1, o, .ins C dx (F_Taker w ti d e)), (1, d, .dK kk), (0, pc, .lst (ps.map V.int))]) ?_ ?_ ?_
    · exact ⟨t, kv, _, _, rfl, Nat.le_refl _, Nat.le_refl _, (fun h => h), hK, Nat.le_refl _, (fun _ _ => rfl), .inl rfl, (fun j a b => by omega), S⟩
    · rintro i σ H hi ⟨ti, kk, q1, q2, rfl, h1, h1b, h2, hK, hkl, htl, hor, hal, S⟩
      try dsimp only [tMethS1, WE, tSeq, tAsg, gName, tOp, tUn, tCB, tCons, tNil, tCall, tMethK1, tCallK1, tPar3, tRet, tRetN, tDrop, tTest, tB, tC, tNext, tAugS, tAug, sFld1, sFldAug1, tMeth1, tMake, tMakeK1, tSl, tPart, tNoPart, sDPut1, tDPop, tBM, tBM0, tPar, gSub, tChain, tNot, tNotV, tDG1, tDG2, tDNewT1, iKeys1, iEnum1, iList1, iTup1, iRng1, iRng2, List.set_cons_zero, List.set_cons_succ]
      try dsimp only [tMethS1, WE, tSeq, tAsg, gName, tOp, tUn, tCB, tCons, tNil, tCall, tMethK1, tCallK1, tPar3, tRet, tRetN, tDrop, tTest, tB, tC, tNext, tAugS, tAug, sFld1, sFldAug1, tMeth1, tMake, tMakeK1, tSl, tPart, tNoPart, sDPut1, tDPop, tBM, tBM0, tPar, gSub, tChain, tNot, tNotV, tDG1, tDG2, tDNewT1, iKeys1, iEnum1, iList1, iTup1, iRng1, iRng2, List.set_cons_zero, List.set_cons_succ]
      refine x_var (by exact rfl) ?_
      refine x_meth S 0 (by exact rfl) nk_Taker_take ?_
      refine c_take S 0 1 (by exact rfl) (by exact rfl) (fun hn H S => ?_) (fun v hv H S => ?_)
      · try dsimp only [tMethS1, WE, tSeq, tAsg, gName, tOp, tUn, tCB, tCons, tNil, tCall, tMethK1, tCallK1, tPar3, tRet, tRetN, tDrop, tTest, tB, tC, tNext, tAugS, tAug, sFld1, sFldAug1, tMeth1, tMake, tMakeK1, tSl, tPart, tNoPart, sDPut1, tDPop, tBM, tBM0, tPar, gSub, tChain, tNot, tNotV, tDG1, tDG2, tDNewT1, iKeys1, iEnum1, iList1, iTup1, iRng1, iRng2, List.set_cons_zero, List.set_cons_succ]
        refine x_if ?_
        try dsimp only [tMethS1, WE, tSeq, tAsg, gName, tOp, tUn, tCB, tCons, tNil, tCall, tMethK1, tCallK1, tPar3, tRet, tRetN, tDrop, tTest, tB, tC, tNext, tAugS, tAug, sFld1, sFldAug1, tMeth1, tMake, tMakeK1, tSl, tPart, tNoPart, sDPut1, tDPop, tBM, tBM0, tPar, gSub, tChain, tNot, tNotV, tDG1, tDG2, tDNewT1, iKeys1, iEnum1, iList1, iTup1, iRng1, iRng2, List.set_cons_zero, List.set_cons_succ]
        refine x_var (by exact rfl) ?_
        refine ⟨rfl, ?_⟩
        refine ⟨_, rfl, ?_⟩
        refine itend (fun h => absurd rfl h) (fun c1 => ?_)
        refine ⟨ti, kk, _, _, rfl, h1, by omega, h2, hK, hkl, htl, .inr ?_, hal, S⟩
        rw [← htl ti (Int.le_refl _)]; exact hn
      · obtain ⟨n9, z, en, hn1, hn2, rfl, hz⟩ := hK _ _ hv
        obtain rfl : ti = n9 := by omega
        simp only [List.set_cons_zero, List.set_cons_succ] at S
        try dsimp only [tMethS1, WE, tSeq, tAsg, gName, tOp, tUn, tCB, tCons, tNil, tCall, tMethK1, tCallK1, tPar3, tRet, tRetN, tDrop, tTest, tB, tC, tNext, tAugS, tAug, sFld1, sFldAug1, tMeth1, tMake, tMakeK1, tSl, tPart, tNoPart, sDPut1, tDPop, tBM, tBM0, tPar, gSub, tChain, tNot, tNotV, tDG1, tDG2, tDNewT1, iKeys1, iEnum1, iList1, iTup1, iRng1, iRng2, List.set_cons_zero, List.set_cons_succ]
        refine x_if ?_
        try dsimp only [tMethS1, WE, tSeq, tAsg, gName, tOp, tUn, tCB, tCons, tNil, tCall, tMethK1, tCallK1, tPar3, tRet, tRetN, tDrop, tTest, tB, tC, tNext, tAugS, tAug, sFld1, sFldAug1, tMeth1, tMake, tMakeK1, tSl, tPart, tNoPart, sDPut1, tDPop, tBM, tBM0, tPar, gSub, tChain, tNot, tNotV, tDG1, tDG2, tDNewT1, iKeys1, iEnum1, iList1, iTup1, iRng1, iRng2, List.set_cons_zero, List.set_cons_succ]
        refine x_var (by exact rfl) ?_
        refine ⟨rfl, ?_⟩
        refine ⟨_, rfl, ?_⟩
        refine itend (fun c2 => ?_) (fun h => nomatch h)
        try dsimp only [tMethS1, WE, tSeq, tAsg, gName, tOp, tUn, tCB, tCons, tNil, tCall, tMethK1, tCallK1, tPar3, tRet, tRetN, tDrop, tTest, tB, tC, tNext, tAugS, tAug, sFld1, sFldAug1, tMeth1, tMake, tMakeK1, tSl, tPart, tNoPart, sDPut1, tDPop, tBM, tBM0, tPar, gSub, tChain, tNot, tNotV, tDG1, tDG2, tDNewT1, iKeys1, iEnum1, iList1, iTup1, iRng1, iRng2, List.set_cons_zero, List.set_cons_succ]
        refine x_if ?_
        try dsimp only [tMethS1, WE, tSeq, tAsg, gName, tOp, tUn, tCB, tCons, tNil, tCall, tMethK1, tCallK1, tPar3, tRet, tRetN, tDrop, tTest, tB, tC, tNext, tAugS, tAug, sFld1, sFldAug1, tMeth1, tMake, tMakeK1, tSl, tPart, tNoPart, sDPut1, tDPop, tBM, tBM0, tPar, gSub, tChain, tNot, tNotV, tDG1, tDG2, tDNewT1, iKeys1, iEnum1, iList1, iTup1, iRng1, iRng2, List.set_cons_zero, List.set_cons_succ]
        refine x_or ?_
        try dsimp only [tMethS1, WE, tSeq, tAsg, gName, tOp, tUn, tCB, tCons, tNil, tCall, tMethK1, tCallK1, tPar3, tRet, tRetN, tDrop, tTest, tB, tC, tNext, tAugS, tAug, sFld1, sFldAug1, tMeth1, tMake, tMakeK1, tSl, tPart, tNoPart, sDPut1, tDPop, tBM, tBM0, tPar, gSub, tChain, tNot, tNotV, tDG1, tDG2, tDNewT1, iKeys1, iEnum1, iList1, iTup1, iRng1, iRng2, List.set_cons_zero, List.set_cons_succ]
        refine x_var (by exact rfl) ?_
        refine x_var (by exact rfl) ?_
        refine x_lenI S 2 (by exact rfl) ?_
        refine x_I0 ?_
        refine ⟨_, rfl, ?_⟩
        refine ited (fun c3 => ?_) (fun c3 => ?_)
        · refine iteT ?_
          try dsimp only [tMethS1, WE, tSeq, tAsg, gName, tOp, tUn, tCB, tCons, tNil, tCall, tMethK1, tCallK1, tPar3, tRet, tRetN, tDrop, tTest, tB, tC, tNext, tAugS, tAug, sFld1, sFldAug1, tMeth1, tMake, tMakeK1, tSl, tPart, tNoPart, sDPut1, tDPop, tBM, tBM0, tPar, gSub, tChain, tNot, tNotV, tDG1, tDG2, tDNewT1, iKeys1, iEnum1, iList1, iTup1, iRng1, iRng2, List.set_cons_zero, List.set_cons_succ]
          refine x_U ?_
          exfalso
          first | omega | exact c3 (by rw [hz] at hv1; exact (Option.some.inj hv1))
        · refine x_var (by exact rfl) ?_
          refine x_var (by exact rfl) ?_
          refine x_var (by exact rfl) ?_
          refine x_ixI S 2 (by exact rfl) (by omega) (by omega) (fun v1 hv1 => ?_)
          rw [Int.toNat_natCast] at hv1
          refine c_is ?_
          refine ⟨_, rfl, ?_⟩
          refine itne (fun c4 => ?_) (fun c4 => ?_)
          · try dsimp only [tMethS1, WE, tSeq, tAsg, gName, tOp, tUn, tCB, tCons, tNil, tCall, tMethK1, tCallK1, tPar3, tRet, tRetN, tDrop, tTest, tB, tC, tNext, tAugS, tAug, sFld1, sFldAug1, tMeth1, tMake, tMakeK1, tSl, tPart, tNoPart, sDPut1, tDPop, tBM, tBM0, tPar, gSub, tChain, tNot, tNotV, tDG1, tDG2, tDNewT1, iKeys1, iEnum1, iList1, iTup1, iRng1, iRng2, List.set_cons_zero, List.set_cons_succ]
            refine x_U ?_
            exfalso
            first | omega | exact c4 (by rw [hz] at hv1; exact (Option.some.inj hv1))
          · try dsimp only [tMethS1, WE, tSeq, tAsg, gName, tOp, tUn, tCB, tCons, tNil, tCall, tMethK1, tCallK1, tPar3, tRet, tRetN, tDrop, tTest, tB, tC, tNext, tAugS, tAug, sFld1, sFldAug1, tMeth1, tMake, tMakeK1, tSl, tPart, tNoPart, sDPut1, tDPop, tBM, tBM0, tPar, gSub, tChain, tNot, tNotV, tDG1, tDG2, tDNewT1, iKeys1, iEnum1, iList1, iTup1, iRng1, iRng2, List.set_cons_zero, List.set_cons_succ]
            refine ⟨_, rfl, ?_⟩
            refine x_ip ?_
            refine ⟨ti + 1, _, _, _, rfl, by omega, by omega, fun _ => by omega, hK.drop, Nat.le_trans len_dropK hkl, fun j hj => ?_, ?_, fun j a b => ?_, S⟩
            · rw [valV_drop, if_neg (fun z => by have := Sum.inl.inj z; omega)]; exact htl j (by omega)
            · rcases hor with hor | hor
              · exact .inl (by omega)
              · rw [← htl ti (Int.le_refl _), hv] at hor; cases hor
            · by_cases ej : j = ti
              · subst ej; rw [← htl _ (Int.le_refl _), hv]; exact fun z => nomatch z
              · exact hal j a (by omega)
    · rintro σ H ⟨ti, kk, q1, q2, rfl, h1, h1b, h2, hK, hkl, htl, hor, hal, S⟩
      try dsimp only [tMethS1, WE, tSeq, tAsg, gName, tOp, tUn, tCB, tCons, tNil, tCall, tMethK1, tCallK1, tPar3, tRet, tRetN, tDrop, tTest, tB, tC, tNext, tAugS, tAug, sFld1, sFldAug1, tMeth1, tMake, tMakeK1, tSl, tPart, tNoPart, sDPut1, tDPop, tBM, tBM0, tPar, gSub, tChain, tNot, tNotV, tDG1, tDG2, tDNewT1, iKeys1, iEnum1, iList1, iTup1, iRng1, iRng2, List.set_cons_zero, List.set_cons_succ]
      try dsimp only [tMethS1, WE, tSeq, tAsg, gName, tOp, tUn, tCB, tCons, tNil, tCall, tMethK1, tCallK1, tPar3, tRet, tRetN, tDrop, tTest, tB, tC, tNext, tAugS, tAug, sFld1, sFldAug1, tMeth1, tMake, tMakeK1, tSl, tPart, tNoPart, sDPut1, tDPop, tBM, tBM0, tPar, gSub, tChain, tNot, tNotV, tDG1, tDG2, tDNewT1, iKeys1, iEnum1, iList1, iTup1, iRng1, iRng2, List.set_cons_zero, List.set_cons_succ]
      refine x_var (by exact rfl) ?_
      rw [show (q : Int).toNat = q from rfl] at hor
      exact k _ _ _ h1 h2 hK hkl htl hor hal (S.get 0 rfl) (S.get 1 rfl) S.out2
end
end G

set_option linter.all false
set_option maxRecDepth 100000
set_option maxHeartbeats 4000000
namespace G
open PySem PySem.Spec PyProof.Rows L2

theorem mem_cutV {xs : List V} {lo hi : Option Int} {v : V} (h : v ∈ cutV xs lo hi) : v ∈ xs := by
  unfold cutV at h
  exact List.mem_of_mem_drop (List.mem_of_mem_take h)
theorem len_cutV (xs : List V) (lo hi : Option Int) : (cutV xs lo hi).length ≤ xs.length := by
  unfold cutV
  rw [List.length_take, List.length_drop]
  omega
/-- pairs of a place and its piece -/
def SentH (H : Hp) (ps : List Int) (m : Nat) (sv : List V) : Prop := ∀ v ∈ sv, ∃ (a : Addr) (i : Nat) (z : Int), v = .ref a ∧ H a = some (.tup [.int i, .int z]) ∧ i < m ∧ ps[i]? = some z
/-- what was told: so far all had come, so far there is room -/
def ToldH (H : Hp) (m R t : Nat) (kv : List (Key × V)) (tv : List V) : Prop := ∀ v ∈ tv, ∃ (a : Addr) (g r : Nat), v = .ref a ∧ H a = some (.tup [.int g, .int r]) ∧ g ≤ m ∧ r ≤ R ∧ ∀ i : Nat, t ≤ i → i < g → valV kv (.inl (i : Int) : Key) ≠ none
theorem Kp.cam {ps : List Int} {t m i : Nat} {w z : Int} {kv : List (Key × V)} (h : Kp ps t m kv) (hi : i < m) (hz : ps[i]? = some z) : Kp ps t m (camK t w kv i (.int z)) := fun j v e => by
  unfold camK at e
  by_cases c : ((t : Int) ≤ i ∧ (i : Int) < t + w) ∧ valV kv (.inl (i : Int) : Key) = none
  · rw [if_pos c, valV_put] at e
    by_cases q : (.inl j : Key) = .inl (i : Int)
    · rw [if_pos q] at e
      cases e
      exact ⟨i, z, Sum.inl.inj q, by omega, hi, rfl, hz⟩
    · rw [if_neg q] at e
      exact h j v e
  · rw [if_neg c] at e
    exact h j v e
theorem cam_keep {t i : Nat} {w : Int} {v : V} {kv : List (Key × V)} {j : Int} (h : valV kv (.inl j : Key) ≠ none) : valV (camK t w kv i v) (.inl j : Key) ≠ none := by
  unfold camK
  split
  · rw [valV_put]
    by_cases q : (.inl j : Key) = .inl (i : Int)
    · rw [if_pos q]; exact fun z => nomatch z
    · rw [if_neg q]; exact h
  · exact h
theorem len_cam {t w y : Int} {k : List (Key × V)} {v : V} : (camK t w k y v).length ≤ k.length + 1 := by
  unfold camK
  split
  · exact length_putK _ _ _
  · omega
theorem dp_pairs {K : PySem.W.Frag} {H : Hp} : ∀ {xs : List V}, (∀ v ∈ xs, ∃ (a : Addr) (i j : Int), v = .ref a ∧ H a = some (.tup [.int i, .int j])) → ∃ ps : List (Int × Int), DpAll K H xs (ps.map fun p => .tuple [.int p.1, .int p.2]) ∧ ps.length = xs.length
  | [], _ => ⟨[], .nil, rfl⟩
  | v :: r, h => by
    obtain ⟨ps, h1, h2⟩ := dp_pairs (K := K) (H := H) (xs := r) fun w hw => h w (List.mem_cons_of_mem _ hw)
    obtain ⟨a, i, j, rfl, ha⟩ := h v List.mem_cons_self
    exact ⟨(i, j) :: ps, .cons (.tup (.of ha) (dp_ints (ns := [i, j]))) h1, by rw [List.length_cons, h2, List.length_cons]⟩
theorem lay_pairs : ∀ ps : List (Int × Int), PyData.canLayAll0 (ps.map fun p => PyData.tuple [.int p.1, .int p.2]) = true
  | [] => rfl
  | p :: r => by rw [List.map_cons, PyData.canLayAll0, lay_pairs r]; rfl
theorem dep_pairs : ∀ ps : List (Int × Int), PyData.depthAll (ps.map fun p => PyData.tuple [.int p.1, .int p.2]) ≤ 1
  | [] => Nat.zero_le _
  | p :: r => by
    rw [List.map_cons, PyData.depthAll]
    have := dep_pairs r
    have h1 : PyData.depth (.tuple [.int p.1, .int p.2]) = 1 := rfl
    omega
theorem sh_pairs (ps : List (Int × Int)) : SeqAt.shaped (.list (ps.map fun p => PyData.tuple [.int p.1, .int p.2])) = true := by
  unfold SeqAt.shaped
  rw [show PyData.canLay0 (.list (ps.map fun p => PyData.tuple [.int p.1, .int p.2])) = true from lay_pairs ps, PyData.depth, Bool.true_and]
  exact decide_eq_true (by have := dep_pairs ps; omega)
theorem x_neP0 {K : PySem.W.Frag} {H0 H : Hp} {ft : List Addr} {l : List Cell} {t t' : Nat} {p q : Addr} {xs : List V} {Q : VK} (S : Sep H0 ft H l) (n m : Nat) (h : l[n]? = some (t, p, .lst xs)) (h' : l[m]? = some (t', q, .lst [])) (hx : ∀ v ∈ xs, ∃ (a : Addr) (i j : Int), v = .ref a ∧ H a = some (.tup [.int i, .int j])) (k : Q (.bl (!decide (xs = []))) H) : rNeD K (.ref p) (.ref q) H Q := by
  obtain ⟨ps, h1, h2⟩ := dp_pairs (K := K) hx
  refine ⟨_, _, .lst (S.sl n h) h1, .lst (S.sl m h') .nil, sh_pairs ps, rfl, ?_⟩
  cases xs with
  | nil =>
    have : ps = [] := List.length_eq_zero_iff.mp h2
    subst this
    rw [show PyData.eqv (.list (([] : List (Int × Int)).map fun p => PyData.tuple [.int p.1, .int p.2])) (.list []) = true from eqv_list [] []]
    rw [decide_eq_true rfl] at k
    exact k
  | cons v r =>
    cases ps with
    | nil => cases h2
    | cons p ps =>
      rw [show PyData.eqv (.list ((p :: ps).map fun p => PyData.tuple [.int p.1, .int p.2])) (.list []) = false from by simp [PyData.eqv, PyData.eqvAll]]
      rw [decide_eq_false (fun z => nomatch z)] at k
      exact k
end G

set_option linter.all false
set_option maxRecDepth 100000
set_option maxHeartbeats 4000000
namespace G
open PySem PySem.Spec PyProof.Rows L2

def rRevL (K : PySem.W.Frag) : V → Hp → VK → Prop := fun x H Q => ∃ a xs, x = .ref a ∧ SqL K H a xs ∧ ∀ p, H p = none → Q (.ref p) (upd H p (.lst xs.reverse))
theorem pe_revL1 {X : Cx} {e : Expr} {te : TE} {pos p1 p2 p3 : Pos} {k} (K : PySem.W.Frag) (he : PE X e te) (h : X.K = K := by rfl) : PE X (.Subscript e (.Slice none none (some (.UnaryOp .USub (.Constant (.int 1) k p1) p2)) p3) pos) (tUn (rRevL K) te) := by subst h; exact pe_revL he
theorem x_revL {K : PySem.W.Frag} {H0 H : Hp} {ft : List Addr} {l : List Cell} {t : Nat} {p : Addr} {xs : List V} {Q : VK} (S : Sep H0 ft H l) (n : Nat) (h : l[n]? = some (t, p, .lst xs)) (q : ∀ r H', Sep H0 ft H' ((2, r, .lst xs.reverse) :: l) → Q (.ref r) H') : rRevL K (.ref p) H Q := ⟨p, xs, rfl, S.sl n h, x_new S _ q⟩
theorem at_of2 {α : Type} {xs : List α} {i : Int} (h0 : 0 ≤ i) (h : i < xs.length) : ∃ c, c ∈ xs ∧ atI xs i = some c := by
  have hl : i.toNat < xs.length := by omega
  refine ⟨xs[i.toNat], List.getElem_mem hl, ?_⟩
  unfold atI
  rw [ixN_in h0 h]
  exact List.getElem?_eq_getElem hl
def spArr (C CG : Addr) : Sp := fun vs H Q _ => ∃ (p q o dx d gp dg pl st tl : Addr) (n w : Int) (cs ps : List Int) (t m B h R : Nat) (c : Bool) (e : V) (kv : List (Key × V)) (sv tv : List V), vs = [.ref p, .ref o, .ref gp, .ref st, .ref tl] ∧
  Sep H [p, q, d, gp] H [(1, p, .lst [.int n, .ref q]), (1, q, .lst (cs.map V.int)), (0, o, .ins C dx (F_Taker w t d e)), (1, d, .dK kv), (1, gp, .ins CG dg (F_Giver (B : Int) (h : Int) pl c)), (0, pl, .lst ((seg ps h m).map V.int)), (0, st, .lst sv), (0, tl, .lst tv)] ∧
  Hold n cs ∧ n < 2 ^ 39 ∧ SentH H ps m sv ∧ ToldH H m R t kv tv ∧ Kp ps t m kv ∧ h ≤ m ∧ m ≤ ps.length ∧ kv.length ≤ 20000 ∧ sv.length ≤ 200 ∧ tv.length ≤ 100 ∧
  (∀ (n' : Int) (cs' : List Int) (kv' : List (Key × V)) (H' : Hp), n' ≤ n + 3 → Hold n' cs' → Kp ps t m kv' → kv'.length ≤ kv.length + 200 → (∀ i : Int, valV kv (.inl i : Key) ≠ none → valV kv' (.inl i : Key) ≠ none) →
    Sep H [p, q, d, gp] H' [(1, p, .lst [.int n', .ref q]), (1, q, .lst (cs'.map V.int)), (1, d, .dK kv'), (1, gp, .ins CG dg (F_Giver (B : Int) (h : Int) pl c))] → Q .non H') ∧
  (∀ (n' : Int) (cs' : List Int) (kv' : List (Key × V)) (pl' : Addr) (B' h' : Nat) (H' : Hp), n' ≤ n + 3 → Hold n' cs' → Kp ps t m kv' → kv'.length ≤ kv.length + 200 → (∀ i : Int, valV kv (.inl i : Key) ≠ none → valV kv' (.inl i : Key) ≠ none) → B ≤ B' → B' ≤ max B R → h ≤ h' → h' ≤ m → (∀ i : Nat, t ≤ i → i < h' → i < h ∨ valV kv (.inl (i : Int) : Key) ≠ none) →
    Sep H [p, q, d, gp] H' [(2, pl', .lst ((seg ps h' m).map V.int)), (1, p, .lst [.int n', .ref q]), (1, q, .lst (cs'.map V.int)), (1, d, .dK kv'), (1, gp, .ins CG dg (F_Giver (B' : Int) (h' : Int) pl' c))] → Q .non H')
theorem seg_drop {ps : List Int} {h g m : Nat} (h1 : h ≤ m) (h2 : g ≤ m) : ((seg ps h m).map V.int).drop ((g : Int) - h).toNat = (seg ps (max h g) m).map V.int := by
  rw [← List.map_drop]
  congr 1
  unfold seg
  rw [List.drop_take, List.drop_drop]
  have e1 : ((g : Int) - h).toNat = max h g - h := by omega
  rw [e1, show h + (max h g - h) = max h g by omega, show m - h - (max h g - h) = m - max h g by omega]
theorem nin4 {H : Hp} {a p q d g : Addr} {xs ys zs : List V} {kv : List (Key × V)} {C dx : Addr} {fs : List (Str × V)} (ha : H a = some (.tup xs)) (hp : H p = some (.lst ys)) (hq : H q = some (.lst zs)) (hd : H d = some (.dK kv)) (hg : H g = some (.ins C dx fs)) : a ∉ [p, q, d, g] := by
  simp only [List.mem_cons, List.not_mem_nil, or_false]
  rintro (rfl | rfl | rfl | rfl)
  · rw [ha] at hp; cases hp
  · rw [ha] at hq; cases hq
  · rw [ha] at hd; cases hd
  · rw [ha] at hg; cases hg
section
variable {P : Program} {w : World} {K : PySem.W.Frag} {mg : Str → Option Value} {base : Heap}
abbrev s_law_arrive : Stmt := (topS 17)
theorem sc_law_arrive : FnScope ["_law_hold", "_law_taker", "_law_giver", "_law_sent", "_law_told", "_law_way", "_law_back_from", "_law_some", "_law_place", "_law_piece", "_law_got", "_law_room"] ["_law_hold", "_law_taker", "_law_giver", "_law_sent", "_law_told"] (defScope s_law_arrive) := ⟨rfl, rfl, rfl, by decide +kernel, rfl, by decide +kernel, by decide +kernel⟩
theorem ok_law_arrive {f : Addr} {fd : FuncData} {C CG : Addr} (F : L2.Fun K "_law_arrive" "_law_arrive" s_law_arrive f fd) (cd : Cal P w K mg base CX0 1 "_law_draw" spDraw) (mcame : Met P w K mg base CX0 1 C "came" (spCame C)) (mheard : Met P w K mg base CX0 1 CG "heard" (spHeard CG)) (z_len : mg "len" = none) (z_max : mg "max" = none) : FnOk P w K mg base CX0 2 f fd ["_law_hold", "_law_taker", "_law_giver", "_law_sent", "_law_told"] (spArr C CG) := by
  refine F.ok sc_law_arrive (fun vs H Q E h => ?_) (fun cdv A outer s H0 vs Q E hr h => ?_)
  · obtain ⟨p, q, o, dx, d, gp, dg, pl, st, tl, n, w, cs, ps, t, m, B, h, R, c, e, kv, sv, tv, rfl, S, hh, hn, hsent, htold, hK, hhm, hml, hkl, hsl, htl, k1, k2⟩ := h
    rfl
  · obtain ⟨p, q, o, dx, d, gp, dg, pl, st, tl, n, w, cs, ps, t, m, B, h, R, c, e, kv, sv, tv, rfl, S, hh, hn, hsent, htold, hK, hhm, hml, hkl, hsl, htl, k1, k2⟩ := h
    have hu := hu_of hr
    have hp0 := S.get 0 rfl
    have hq0 := S.get 1 rfl
    have hd0 := S.get 3 rfl
    have hg0 := S.get 4 rfl
    refine ⟨_, pss_cons (ps_par (i := 5) (j := 6) rfl sc_law_arrive.nd rfl rfl (by decide) rfl rfl (pa_cons (pe_c cd hr (by decide) (by rfl) pass0 (pa_cons (pv 0) (pa_cons (pe_int) pa_nil))) (pa_cons (pe_c cd hr (by decide) (by rfl) pass0 (pa_cons (pv 0) (pa_cons (pe_int) pa_nil))) pa_nil)) rfl)
      (pss_cons (ps_set (i := 7) sc_law_arrive.nd rfl (.inl rfl) (pe_ifExp (pt_cmpR op_gt (pv 5) (pe_int) (nomark _)) (pe_slice (sl_listK K) (pv 3) (po_some (pe_un un_neg (pe_op op_add (pe_int) (pv 6)))) (po_none)) (pe_slice (sl_listK K) (pe_slice (sl_listK K) (pv 3) (po_some (pe_op op_sub (pe_op op_sub (pe_callB (cl_lenK K) (by rfl) z_len PySem.boot_len (pa_cons (pv 3) pa_nil)) (pe_int)) (pe_op op_mod (pv 6) (pe_callB (cl_max rfl) (by rfl) z_max (by decide +kernel) (pa_cons (pe_int) (pa_cons (pe_callB (cl_lenK K) (by rfl) z_len PySem.boot_len (pa_cons (pv 3) pa_nil)) pa_nil)))))) (po_none)) (po_none) (po_some (pe_int)))))
      (pss_cons (ps_for PassesOwn.never rfl (pi_listK K (pe_ifExp (pt_cmpR op_eq (pv 5) (pe_int) (nomark _)) (pe_revL1 K (pv 7)) (pv 7))) (pg_tupK K 2 rfl (pgs_cons (pg_name (i := 8) sc_law_arrive.nd rfl (.inl rfl)) (pgs_cons (pg_name (i := 9) sc_law_arrive.nd rfl (.inl rfl)) pgs_nil))) (pss_one (ps_expr (pe_mt mcame hr (by decide) pass0 (pv 1) (pa_cons (pv 8) (pa_cons (pv 9) pa_nil))))))
      (pss_one (ps_if (pt_cmpR (op_neDK K hr.units) (pv 4) (pe_lst1 pa_nil) (nomark _)) (pss_cons (ps_asg (pe_ix (ix_listK K) (pv 4) (pe_op op_sub (pe_op op_sub (pe_callB (cl_lenK K) (by rfl) z_len PySem.boot_len (pa_cons (pv 4) pa_nil)) (pe_int)) (pe_c cd hr (by decide) (by rfl) pass0 (pa_cons (pv 0) (pa_cons (pe_callB (cl_lenK K) (by rfl) z_len PySem.boot_len (pa_cons (pv 4) pa_nil)) pa_nil)))) (fun _ _ => rfl)) (pg_tupK K 2 rfl (pgs_cons (pg_name (i := 10) sc_law_arrive.nd rfl (.inl rfl)) (pgs_cons (pg_name (i := 11) sc_law_arrive.nd rfl (.inl rfl)) pgs_nil))))
      (pss_one (ps_if (pt_cmpR op_ne (pv 5) (pe_int) (nomark _)) (pss_one (ps_expr (pe_mt mheard hr (by decide) pass0 (pv 2) (pa_cons (pv 10) (pa_cons (pv 11) pa_nil))))) (pss_nil)))) (pss_nil))))), ?_⟩
    rw [show start ["_law_hold", "_law_taker", "_law_giver", "_law_sent", "_law_told", "_law_way", "_law_back_from", "_law_some", "_law_place", "_law_piece", "_law_got", "_law_room"] [V.ref p, V.ref o, V.ref gp, V.ref st, V.ref tl] = [some (V.ref p), some (V.ref o), some (V.ref gp), some (V.ref st), some (V.ref tl), none, none, none, none, none, none, none] from rfl]
    try dsimp only [tMethS1, WE, tSeq, tAsg, gName, tOp, tUn, tCB, tCons, tNil, tCall, tMethK1, tCallK1, tPar3, tRet, tRetN, tDrop, tTest, tB, tC, tNext, tAugS, tAug, sFld1, sFldAug1, tMeth1, tMake, tMakeK1, tSl, tPart, tNoPart, sDPut1, tDPop, tBM, tBM0, tPar, gSub, tChain, tNot, tNotV, tDG1, tDG2, tDNewT1, iKeys1, iEnum1, iList1, iTup1, iRng1, iRng2, List.set_cons_zero, List.set_cons_succ]
    refine x_var (by exact rfl) ?_
    refine c_draw S 0 1 (by exact rfl) (by exact rfl) hh (by first | omega | decide | (simp only [len_insAt, List.length_map, List.length_append, List.length_cons, List.length_nil, List.length_take, List.length_drop] at *; omega)) (by first | omega | decide | (simp only [len_insAt, List.length_map, List.length_append, List.length_cons, List.length_nil, List.length_take, List.length_drop] at *; omega)) (by first | omega | decide | (simp only [len_insAt, List.length_map, List.length_append, List.length_cons, List.length_nil, List.length_take, List.length_drop] at *; omega)) (fun r1 cs1 H r1a r1b hh S => ?_)
    simp only [List.set_cons_zero, List.set_cons_succ] at S
    refine x_var (by exact rfl) ?_
    refine c_draw S 0 1 (by exact rfl) (by exact rfl) hh (by first | omega | decide | (simp only [len_insAt, List.length_map, List.length_append, List.length_cons, List.length_nil, List.length_take, List.length_drop] at *; omega)) (by first | omega | decide | (simp only [len_insAt, List.length_map, List.length_append, List.length_cons, List.length_nil, List.length_take, List.length_drop] at *; omega)) (by first | omega | decide | (simp only [len_insAt, List.length_map, List.length_append, List.length_cons, List.length_nil, List.length_take, List.length_drop] at *; omega)) (fun r2 cs2 H r2a r2b hh S => ?_)
    simp only [List.set_cons_zero, List.set_cons_succ] at S
    refine ⟨_, _, rfl, ?_⟩
    try dsimp only [tMethS1, WE, tSeq, tAsg, gName, tOp, tUn, tCB, tCons, tNil, tCall, tMethK1, tCallK1, tPar3, tRet, tRetN, tDrop, tTest, tB, tC, tNext, tAugS, tAug, sFld1, sFldAug1, tMeth1, tMake, tMakeK1, tSl, tPart, tNoPart, sDPut1, tDPop, tBM, tBM0, tPar, gSub, tChain, tNot, tNotV, tDG1, tDG2, tDNewT1, iKeys1, iEnum1, iList1, iTup1, iRng1, iRng2, List.set_cons_zero, List.set_cons_succ]
    refine x_ifE ?_
    try dsimp only [tMethS1, WE, tSeq, tAsg, gName, tOp, tUn, tCB, tCons, tNil, tCall, tMethK1, tCallK1, tPar3, tRet, tRetN, tDrop, tTest, tB, tC, tNext, tAugS, tAug, sFld1, sFldAug1, tMeth1, tMake, tMakeK1, tSl, tPart, tNoPart, sDPut1, tDPop, tBM, tBM0, tPar, gSub, tChain, tNot, tNotV, tDG1, tDG2, tDNewT1, iKeys1, iEnum1, iList1, iTup1, iRng1, iRng2, List.set_cons_zero, List.set_cons_succ]
    refine x_var (by exact rfl) ?_
    refine x_I0 ?_
    refine ⟨_, rfl, ?_⟩
    refine ited (fun c1 => ?_) (fun c1 => ?_)
    · refine x_var (by exact rfl) ?_
      refine x_var (by exact rfl) ?_
      refine x_I0 ?_
      refine x_U ?_
      refine ⟨_, rfl, ?_⟩
      refine x_slL S 6 (by exact rfl) (fun sl1 H S => ?_)
      obtain ⟨zs, hzl, hzs, S⟩ : ∃ zs : List V, zs.length ≤ 200 ∧ (∀ v ∈ zs, v ∈ sv) ∧ Sep H0 [p, q, d, gp] H [(2, sl1, .lst zs), (1, p, .lst [.int (n + 1 + 1), .ref q]), (1, q, .lst (cs2.map V.int)), (0, o, .ins C dx (F_Taker w t d e)), (1, d, .dK kv), (1, gp, .ins CG dg (F_Giver (B : Int) (h : Int) pl c)), (0, pl, .lst ((seg ps h m).map V.int)), (0, st, .lst sv), (0, tl, .lst tv)] := ⟨_, Nat.le_trans (len_cutV _ _ _) (by assumption), fun v hv => mem_cutV hv, S.sub [0, 1, 2, 3, 4, 5, 6, 7, 8]⟩
      have hys := hzs
      have hyl := hzl
      try dsimp only [tMethS1, WE, tSeq, tAsg, gName, tOp, tUn, tCB, tCons, tNil, tCall, tMethK1, tCallK1, tPar3, tRet, tRetN, tDrop, tTest, tB, tC, tNext, tAugS, tAug, sFld1, sFldAug1, tMeth1, tMake, tMakeK1, tSl, tPart, tNoPart, sDPut1, tDPop, tBM, tBM0, tPar, gSub, tChain, tNot, tNotV, tDG1, tDG2, tDNewT1, iKeys1, iEnum1, iList1, iTup1, iRng1, iRng2, List.set_cons_zero, List.set_cons_succ]
      refine x_for ?_
      try dsimp only [tOp, tUn, tCB, tCons, tNil, tCall, tMethK1, tCallK1, tC, tMeth1, tMake, tMakeK1, tSl, tPart, tNoPart, tDPop, tChain, tNotV, tBM, tBM0, tDG1, tDG2, tDNewT1, iKeys1, iEnum1, iList1, iTup1, iRng1, iRng2]
      refine x_ifE ?_
      try dsimp only [tMethS1, WE, tSeq, tAsg, gName, tOp, tUn, tCB, tCons, tNil, tCall, tMethK1, tCallK1, tPar3, tRet, tRetN, tDrop, tTest, tB, tC, tNext, tAugS, tAug, sFld1, sFldAug1, tMeth1, tMake, tMakeK1, tSl, tPart, tNoPart, sDPut1, tDPop, tBM, tBM0, tPar, gSub, tChain, tNot, tNotV, tDG1, tDG2, tDNewT1, iKeys1, iEnum1, iList1, iTup1, iRng1, iRng2, List.set_cons_zero, List.set_cons_succ]
      refine x_var (by exact rfl) ?_
      refine x_eq ?_
      refine ⟨_, rfl, ?_⟩
      refine iteq (fun c2 => ?_) (fun c2 => ?_)
      · refine x_var (by exact rfl) ?_
        refine x_revL S 0 (by exact rfl) (fun sl2 H S => ?_)
        obtain ⟨zs, hzl, hzs, S⟩ : ∃ zs : List V, zs.length ≤ 200 ∧ (∀ v ∈ zs, v ∈ sv) ∧ Sep H0 [p, q, d, gp] H [(2, sl2, .lst zs), (1, p, .lst [.int (n + 1 + 1), .ref q]), (1, q, .lst (cs2.map V.int)), (0, o, .ins C dx (F_Taker w t d e)), (1, d, .dK kv), (1, gp, .ins CG dg (F_Giver (B : Int) (h : Int) pl c)), (0, pl, .lst ((seg ps h m).map V.int)), (0, st, .lst sv), (0, tl, .lst tv)] := ⟨_, by rw [List.length_reverse]; exact hzl, fun v hv => hzs v (List.mem_reverse.mp hv), S.sub [0, 2, 3, 4, 5, 6, 7, 8, 9]⟩
        refine x_ilist S 0 (by exact rfl) ?_
        refine forW (walk_list (xs := zs)) (fun i σ H1 => ∃ (kk : List (Key × V)) (q1 q2 : Option V), σ = [some (.ref p), some (.ref o), some (.ref gp), some (.ref st), some (.ref tl), some (.int r1), some (.int r2), some (.ref sl1), q1, q2, none, none] ∧ Kp ps t m kk ∧ kk.length ≤ kv.length + i ∧ (∀ i : Int, valV kv (.inl i : Key) ≠ none → valV kk (.inl i : Key) ≠ none) ∧ Sep H0 [p, q, d, gp] H1 [(2, sl2, .lst zs), (1, p, .lst [.int (n + 1 + 1), .ref q]), (1, q, .lst (cs2.map V.int)), (0, o, .ins C dx (F_Taker w t d e)), (1, d, .dK kk), (1, gp, .ins CG dg (F_Giver (B : Int) (h : Int) pl c)), (0, pl, .lst ((seg ps h m).map V.int)), (0, st, .lst sv), (0, tl, .lst tv)]) ?_ ?_ ?_ ?_
        · exact ⟨kv, _, _, rfl, hK, by omega, (fun _ h => h), S.sub [0, 1, 2, 3, 4, 5, 6, 7, 8]⟩
        · rintro i σ H hi ⟨kk, q1, q2, rfl, hK, hkl2, hkeep, S⟩
          exact S.sl 0 rfl
        · rintro i y σ H H9 hi ⟨kk, q1, q2, rfl, hK, hkl2, hkeep, S⟩ hy
          obtain ⟨rfl, hy⟩ := hy
          obtain ⟨a9, i9, z9, rfl, ha9, hi9, hz9⟩ := hsent _ (hzs _ (List.mem_of_getElem? hy))
          have hlz := lt_of_get hy
          refine ⟨_, _, rfl, .of (S.fr _ _ ha9 (nin4 ha9 hp0 hq0 hd0 hg0)), rfl, _, _, rfl, _, _, rfl, rfl, ?_⟩
          try dsimp only [tMethS1, WE, tSeq, tAsg, gName, tOp, tUn, tCB, tCons, tNil, tCall, tMethK1, tCallK1, tPar3, tRet, tRetN, tDrop, tTest, tB, tC, tNext, tAugS, tAug, sFld1, sFldAug1, tMeth1, tMake, tMakeK1, tSl, tPart, tNoPart, sDPut1, tDPop, tBM, tBM0, tPar, gSub, tChain, tNot, tNotV, tDG1, tDG2, tDNewT1, iKeys1, iEnum1, iList1, iTup1, iRng1, iRng2, List.set_cons_zero, List.set_cons_succ]
          try dsimp only [tMethS1, WE, tSeq, tAsg, gName, tOp, tUn, tCB, tCons, tNil, tCall, tMethK1, tCallK1, tPar3, tRet, tRetN, tDrop, tTest, tB, tC, tNext, tAugS, tAug, sFld1, sFldAug1, tMeth1, tMake, tMakeK1, tSl, tPart, tNoPart, sDPut1, tDPop, tBM, tBM0, tPar, gSub, tChain, tNot, tNotV, tDG1, tDG2, tDNewT1, iKeys1, iEnum1, iList1, iTup1, iRng1, iRng2, List.set_cons_zero, List.set_cons_succ]
          refine x_var (by exact rfl) ?_
          refine x_meth S 3 (by exact rfl) nk_Taker_came ?_
          refine x_var (by exact rfl) ?_
          refine x_var (by exact rfl) ?_
          refine c_came S 3 4 (by exact rfl) (by exact rfl) (by omega) (fun H S => ?_)
          simp only [List.set_cons_zero, List.set_cons_succ] at S
          have hcl := len_cam (t := t) (w := w) (y := i9) (k := kk) (v := .int z9)
          exact ⟨_, _, _, rfl, hK.cam hi9 hz9, by omega, fun j hj => cam_keep (hkeep j hj), S⟩
        · rintro σ H ⟨kk, q1, q2, rfl, hK, hkl2, hkeep, S⟩
          try dsimp only [tMethS1, WE, tSeq, tAsg, gName, tOp, tUn, tCB, tCons, tNil, tCall, tMethK1, tCallK1, tPar3, tRet, tRetN, tDrop, tTest, tB, tC, tNext, tAugS, tAug, sFld1, sFldAug1, tMeth1, tMake, tMakeK1, tSl, tPart, tNoPart, sDPut1, tDPop, tBM, tBM0, tPar, gSub, tChain, tNot, tNotV, tDG1, tDG2, tDNewT1, iKeys1, iEnum1, iList1, iTup1, iRng1, iRng2, List.set_cons_zero, List.set_cons_succ]
          try dsimp only [tMethS1, WE, tSeq, tAsg, gName, tOp, tUn, tCB, tCons, tNil, tCall, tMethK1, tCallK1, tPar3, tRet, tRetN, tDrop, tTest, tB, tC, tNext, tAugS, tAug, sFld1, sFldAug1, tMeth1, tMake, tMakeK1, tSl, tPart, tNoPart, sDPut1, tDPop, tBM, tBM0, tPar, gSub, tChain, tNot, tNotV, tDG1, tDG2, tDNewT1, iKeys1, iEnum1, iList1, iTup1, iRng1, iRng2, List.set_cons_zero, List.set_cons_succ]
          refine x_if ?_
          try dsimp only [tMethS1, WE, tSeq, tAsg, gName, tOp, tUn, tCB, tCons, tNil, tCall, tMethK1, tCallK1, tPar3, tRet, tRetN, tDrop, tTest, tB, tC, tNext, tAugS, tAug, sFld1, sFldAug1, tMeth1, tMake, tMakeK1, tSl, tPart, tNoPart, sDPut1, tDPop, tBM, tBM0, tPar, gSub, tChain, tNot, tNotV, tDG1, tDG2, tDNewT1, iKeys1, iEnum1, iList1, iTup1, iRng1, iRng2, List.set_cons_zero, List.set_cons_succ]
          refine x_var (by exact rfl) ?_
          refine x_lst S (by exact Nat.le_of_ble_eq_true rfl) (fun L1 H S => ?_)
          refine x_neP0 S 9 0 (by exact rfl) (by exact rfl) (fun v hv => by obtain ⟨a, g, r, e, ha, _⟩ := htold v hv; exact ⟨a, g, r, e, S.fr _ _ ha (nin4 ha hp0 hq0 hd0 hg0)⟩) ?_
          refine ⟨_, rfl, ?_⟩
          refine itend (fun c3 => ?_) (fun c3 => ?_)
          · have htp : 0 < tv.length := List.length_pos_iff.mpr c3
            try dsimp only [tMethS1, WE, tSeq, tAsg, gName, tOp, tUn, tCB, tCons, tNil, tCall, tMethK1, tCallK1, tPar3, tRet, tRetN, tDrop, tTest, tB, tC, tNext, tAugS, tAug, sFld1, sFldAug1, tMeth1, tMake, tMakeK1, tSl, tPart, tNoPart, sDPut1, tDPop, tBM, tBM0, tPar, gSub, tChain, tNot, tNotV, tDG1, tDG2, tDNewT1, iKeys1, iEnum1, iList1, iTup1, iRng1, iRng2, List.set_cons_zero, List.set_cons_succ]
            refine x_var (by exact rfl) ?_
            refine x_var (by exact rfl) ?_
            refine x_len S 9 (by exact rfl) ?_
            refine x_I0 ?_
            refine x_var (by exact rfl) ?_
            refine x_var (by exact rfl) ?_
            refine x_len S 9 (by exact rfl) ?_
            refine c_draw S 2 3 (by exact rfl) (by exact rfl) hh (by first | omega | decide | (simp only [len_insAt, List.length_map, List.length_append, List.length_cons, List.length_nil, List.length_take, List.length_drop] at *; omega)) (by first | omega | decide | (simp only [len_insAt, List.length_map, List.length_append, List.length_cons, List.length_nil, List.length_take, List.length_drop] at *; omega)) (by first | omega | decide | (simp only [len_insAt, List.length_map, List.length_append, List.length_cons, List.length_nil, List.length_take, List.length_drop] at *; omega)) (fun r3 cs3 H r3a r3b hh S => ?_)
            simp only [List.set_cons_zero, List.set_cons_succ] at S
            refine x_I0 ?_
            obtain ⟨v9, hv9, ha9⟩ := at_of2 (xs := tv) (i := (tv.length : Int) - 1 - r3) (by omega) (by omega)
            obtain ⟨b9, g9, r9, rfl, hb9, hg9, hr9, hall9⟩ := htold _ hv9
            refine ⟨_, _, _, _, rfl, rfl, S.sl 9 rfl, ha9, ?_⟩
            refine ⟨_, _, rfl, .of (S.fr _ _ hb9 (nin4 hb9 hp0 hq0 hd0 hg0)), rfl, _, _, rfl, _, _, rfl, rfl, ?_⟩
            try dsimp only [tMethS1, WE, tSeq, tAsg, gName, tOp, tUn, tCB, tCons, tNil, tCall, tMethK1, tCallK1, tPar3, tRet, tRetN, tDrop, tTest, tB, tC, tNext, tAugS, tAug, sFld1, sFldAug1, tMeth1, tMake, tMakeK1, tSl, tPart, tNoPart, sDPut1, tDPop, tBM, tBM0, tPar, gSub, tChain, tNot, tNotV, tDG1, tDG2, tDNewT1, iKeys1, iEnum1, iList1, iTup1, iRng1, iRng2, List.set_cons_zero, List.set_cons_succ]
            refine x_if ?_
            try dsimp only [tMethS1, WE, tSeq, tAsg, gName, tOp, tUn, tCB, tCons, tNil, tCall, tMethK1, tCallK1, tPar3, tRet, tRetN, tDrop, tTest, tB, tC, tNext, tAugS, tAug, sFld1, sFldAug1, tMeth1, tMake, tMakeK1, tSl, tPart, tNoPart, sDPut1, tDPop, tBM, tBM0, tPar, gSub, tChain, tNot, tNotV, tDG1, tDG2, tDNewT1, iKeys1, iEnum1, iList1, iTup1, iRng1, iRng2, List.set_cons_zero, List.set_cons_succ]
            refine x_var (by exact rfl) ?_
            refine x_ne ?_
            refine ⟨_, rfl, ?_⟩
            refine itne (fun c4 => ?_) (fun c4 => ?_)
            · try dsimp only [tMethS1, WE, tSeq, tAsg, gName, tOp, tUn, tCB, tCons, tNil, tCall, tMethK1, tCallK1, tPar3, tRet, tRetN, tDrop, tTest, tB, tC, tNext, tAugS, tAug, sFld1, sFldAug1, tMeth1, tMake, tMakeK1, tSl, tPart, tNoPart, sDPut1, tDPop, tBM, tBM0, tPar, gSub, tChain, tNot, tNotV, tDG1, tDG2, tDNewT1, iKeys1, iEnum1, iList1, iTup1, iRng1, iRng2, List.set_cons_zero, List.set_cons_succ]
              refine x_var (by exact rfl) ?_
              refine x_meth S 6 (by exact rfl) nk_Giver_heard ?_
              refine x_var (by exact rfl) ?_
              refine x_var (by exact rfl) ?_
              refine c_heard S 6 7 (by exact rfl) (by exact rfl) (fun pl1 H S => ?_)
              simp only [List.set_cons_zero, List.set_cons_succ] at S
              rw [seg_drop (by omega) (by omega)] at S
              refine k2 _ _ _ pl1 (max B r9) (max h g9) _ (by omega) hh hK (by omega) hkeep (by omega) (by omega) (by omega) (by omega) (fun j a b => ?_) ?_
              · by_cases c9 : j < h
                · exact .inl c9
                · exact .inr (hall9 j a (by omega))
              · rw [show (h : Int) + max ((g9 : Int) - h) 0 = ((max h g9 : Nat) : Int) by omega, show max (B : Int) (r9 : Int) = ((max B r9 : Nat) : Int) by omega] at S
                exact S.sub [0, 3, 4, 6, 7]
            · exact k1 _ _ _ _ (by omega) hh hK (by omega) hkeep (S.sub [2, 3, 5, 6])
          · exact k1 _ _ _ _ (by omega) hh hK (by omega) hkeep (S.sub [2, 3, 5, 6])
      · refine x_var (by exact rfl) ?_
        refine x_ilist S 0 (by exact rfl) ?_
        refine forW (walk_list (xs := zs)) (fun i σ H1 => ∃ (kk : List (Key × V)) (q1 q2 : Option V), σ = [some (.ref p), some (.ref o), some (.ref gp), some (.ref st), some (.ref tl), some (.int r1), some (.int r2), some (.ref sl1), q1, q2, none, none] ∧ Kp ps t m kk ∧ kk.length ≤ kv.length + i ∧ (∀ i : Int, valV kv (.inl i : Key) ≠ none → valV kk (.inl i : Key) ≠ none) ∧ Sep H0 [p, q, d, gp] H1 [(2, sl1, .lst zs), (1, p, .lst [.int (n + 1 + 1), .ref q]), (1, q, .lst (cs2.map V.int)), (0, o, .ins C dx (F_Taker w t d e)), (1, d, .dK kk), (1, gp, .ins CG dg (F_Giver (B : Int) (h : Int) pl c)), (0, pl, .lst ((seg ps h m).map V.int)), (0, st, .lst sv), (0, tl, .lst tv)]) ?_ ?_ ?_ ?_
        · exact ⟨kv, _, _, rfl, hK, by omega, (fun _ h => h), S.sub [0, 1, 2, 3, 4, 5, 6, 7, 8]⟩
        · rintro i σ H hi ⟨kk, q1, q2, rfl, hK, hkl2, hkeep, S⟩
          exact S.sl 0 rfl
        · rintro i y σ H H9 hi ⟨kk, q1, q2, rfl, hK, hkl2, hkeep, S⟩ hy
          obtain ⟨rfl, hy⟩ := hy
          obtain ⟨a9, i9, z9, rfl, ha9, hi9, hz9⟩ := hsent _ (hzs _ (List.mem_of_getElem? hy))
          have hlz := lt_of_get hy
          refine ⟨_, _, rfl, .of (S.fr _ _ ha9 (nin4 ha9 hp0 hq0 hd0 hg0)), rfl, _, _, rfl, _, _, rfl, rfl, ?_⟩
          try dsimp only [tMethS1, WE, tSeq, tAsg, gName, tOp, tUn, tCB, tCons, tNil, tCall, tMethK1, tCallK1, tPar3, tRet, tRetN, tDrop, tTest, tB, tC, tNext, tAugS, tAug, sFld1, sFldAug1, tMeth1, tMake, tMakeK1, tSl, tPart, tNoPart, sDPut1, tDPop, tBM, tBM0, tPar, gSub, tChain, tNot, tNotV, tDG1, tDG2, tDNewT1, iKeys1, iEnum1, iList1, iTup1, iRng1, iRng2, List.set_cons_zero, List.set_cons_succ]
          try dsimp only [tMethS1, WE, tSeq, tAsg, gName, tOp, tUn, tCB, tCons, tNil, tCall, tMethK1, tCallK1, tPar3, tRet, tRetN, tDrop, tTest, tB, tC, tNext, tAugS, tAug, sFld1, sFldAug1, tMeth1, tMake, tMakeK1, tSl, tPart, tNoPart, sDPut1, tDPop, tBM, tBM0, tPar, gSub, tChain, tNot, tNotV, tDG1, tDG2, tDNewT1, iKeys1, iEnum1, iList1, iTup1, iRng1, iRng2, List.set_cons_zero, List.set_cons_succ]
          refine x_var (by exact rfl) ?_
          refine x_meth S 3 (by exact rfl) nk_Taker_came ?_
          refine x_var (by exact rfl) ?_
          refine x_var (by exact rfl) ?_
          refine c_came S 3 4 (by exact rfl) (by exact rfl) (by omega) (fun H S => ?_)
          simp only [List.set_cons_zero, List.set_cons_succ] at S
          have hcl := len_cam (t := t) (w := w) (y := i9) (k := kk) (v := .int z9)
          exact ⟨_, _, _, rfl, hK.cam hi9 hz9, by omega, fun j hj => cam_keep (hkeep j hj), S⟩
        · rintro σ H ⟨kk, q1, q2, rfl, hK, hkl2, hkeep, S⟩
          try dsimp only [tMethS1, WE, tSeq, tAsg, gName, tOp, tUn, tCB, tCons, tNil, tCall, tMethK1, tCallK1, tPar3, tRet, tRetN, tDrop, tTest, tB, tC, tNext, tAugS, tAug, sFld1, sFldAug1, tMeth1, tMake, tMakeK1, tSl, tPart, tNoPart, sDPut1, tDPop, tBM, tBM0, tPar, gSub, tChain, tNot, tNotV, tDG1, tDG2, tDNewT1, iKeys1, iEnum1, iList1, iTup1, iRng1, iRng2, List.set_cons_zero, List.set_cons_succ]
          try dsimp only [tMethS1, WE, tSeq, tAsg, gName, tOp, tUn, tCB, tCons, tNil, tCall, tMethK1, tCallK1, tPar3, tRet, tRetN, tDrop, tTest, tB, tC, tNext, tAugS, tAug, sFld1, sFldAug1, tMeth1, tMake, tMakeK1, tSl, tPart, tNoPart, sDPut1, tDPop, tBM, tBM0, tPar, gSub, tChain, tNot, tNotV, tDG1, tDG2, tDNewT1, iKeys1, iEnum1, iList1, iTup1, iRng1, iRng2, List.set_cons_zero, List.set_cons_succ]
          refine x_if ?_
          try dsimp only [tMethS1, WE, tSeq, tAsg, gName, tOp, tUn, tCB, tCons, tNil, tCall, tMethK1, tCallK1, tPar3, tRet, tRetN, tDrop, tTest, tB, tC, tNext, tAugS, tAug, sFld1, sFldAug1, tMeth1, tMake, tMakeK1, tSl, tPart, tNoPart, sDPut1, tDPop, tBM, tBM0, tPar, gSub, tChain, tNot, tNotV, tDG1, tDG2, tDNewT1, iKeys1, iEnum1, iList1, iTup1, iRng1, iRng2, List.set_cons_zero, List.set_cons_succ]
          refine x_var (by exact rfl) ?_
          refine x_lst S (by exact Nat.le_of_ble_eq_true rfl) (fun L2 H S => ?_)
          refine x_neP0 S 9 0 (by exact rfl) (by exact rfl) (fun v hv => by obtain ⟨a, g, r, e, ha, _⟩ := htold v hv; exact ⟨a, g, r, e, S.fr _ _ ha (nin4 ha hp0 hq0 hd0 hg0)⟩) ?_
          refine ⟨_, rfl, ?_⟩
          refine itend (fun c5 => ?_) (fun c5 => ?_)
          · have htp : 0 < tv.length := List.length_pos_iff.mpr c5
            try dsimp only [tMethS1, WE, tSeq, tAsg, gName, tOp, tUn, tCB, tCons, tNil, tCall, tMethK1, tCallK1, tPar3, tRet, tRetN, tDrop, tTest, tB, tC, tNext, tAugS, tAug, sFld1, sFldAug1, tMeth1, tMake, tMakeK1, tSl, tPart, tNoPart, sDPut1, tDPop, tBM, tBM0, tPar, gSub, tChain, tNot, tNotV, tDG1, tDG2, tDNewT1, iKeys1, iEnum1, iList1, iTup1, iRng1, iRng2, List.set_cons_zero, List.set_cons_succ]
            refine x_var (by exact rfl) ?_
            refine x_var (by exact rfl) ?_
            refine x_len S 9 (by exact rfl) ?_
            refine x_I0 ?_
            refine x_var (by exact rfl) ?_
            refine x_var (by exact rfl) ?_
            refine x_len S 9 (by exact rfl) ?_
            refine c_draw S 2 3 (by exact rfl) (by exact rfl) hh (by first | omega | decide | (simp only [len_insAt, List.length_map, List.length_append, List.length_cons, List.length_nil, List.length_take, List.length_drop] at *; omega)) (by first | omega | decide | (simp only [len_insAt, List.length_map, List.length_append, List.length_cons, List.length_nil, List.length_take, List.length_drop] at *; omega)) (by first | omega | decide | (simp only [len_insAt, List.length_map, List.length_append, List.length_cons, List.length_nil, List.length_take, List.length_drop] at *; omega)) (fun r4 cs4 H r4a r4b hh S => ?_)
            simp only [List.set_cons_zero, List.set_cons_succ] at S
            refine x_I0 ?_
            obtain ⟨v9, hv9, ha9⟩ := at_of2 (xs := tv) (i := (tv.length : Int) - 1 - r4) (by omega) (by omega)
            obtain ⟨b9, g9, r9, rfl, hb9, hg9, hr9, hall9⟩ := htold _ hv9
            refine ⟨_, _, _, _, rfl, rfl, S.sl 9 rfl, ha9, ?_⟩
            refine ⟨_, _, rfl, .of (S.fr _ _ hb9 (nin4 hb9 hp0 hq0 hd0 hg0)), rfl, _, _, rfl, _, _, rfl, rfl, ?_⟩
            try dsimp only [tMethS1, WE, tSeq, tAsg, gName, tOp, tUn, tCB, tCons, tNil, tCall, tMethK1, tCallK1, tPar3, tRet, tRetN, tDrop, tTest, tB, tC, tNext, tAugS, tAug, sFld1, sFldAug1, tMeth1, tMake, tMakeK1, tSl, tPart, tNoPart, sDPut1, tDPop, tBM, tBM0, tPar, gSub, tChain, tNot, tNotV, tDG1, tDG2, tDNewT1, iKeys1, iEnum1, iList1, iTup1, iRng1, iRng2, List.set_cons_zero, List.set_cons_succ]
            refine x_if ?_
            try dsimp only [tMethS1, WE, tSeq, tAsg, gName, tOp, tUn, tCB, tCons, tNil, tCall, tMethK1, tCallK1, tPar3, tRet, tRetN, tDrop, tTest, tB, tC, tNext, tAugS, tAug, sFld1, sFldAug1, tMeth1, tMake, tMakeK1, tSl, tPart, tNoPart, sDPut1, tDPop, tBM, tBM0, tPar, gSub, tChain, tNot, tNotV, tDG1, tDG2, tDNewT1, iKeys1, iEnum1, iList1, iTup1, iRng1, iRng2, List.set_cons_zero, List.set_cons_succ]
            refine x_var (by exact rfl) ?_
            refine x_ne ?_
            refine ⟨_, rfl, ?_⟩
            refine itne (fun c6 => ?_) (fun c6 => ?_)
            · try dsimp only [tMethS1, WE, tSeq, tAsg, gName, tOp, tUn, tCB, tCons, tNil, tCall, tMethK1, tCallK1, tPar3, tRet, tRetN, tDrop, tTest, tB, tC, tNext, tAugS, tAug, sFld1, sFldAug1, tMeth1, tMake, tMakeK1, tSl, tPart, tNoPart, sDPut1, tDPop, tBM, tBM0, tPar, gSub, tChain, tNot, tNotV, tDG1, tDG2, tDNewT1, iKeys1, iEnum1, iList1, iTup1, iRng1, iRng2, List.set_cons_zero, List.set_cons_succ]
              refine x_var (by exact rfl) ?_
              refine x_meth S 6 (by exact rfl) nk_Giver_heard ?_
              refine x_var (by exact rfl) ?_
              refine x_var (by exact rfl) ?_
              refine c_heard S 6 7 (by exact rfl) (by exact rfl) (fun pl2 H S => ?_)
              simp only [List.set_cons_zero, List.set_cons_succ] at S
              rw [seg_drop (by omega) (by omega)] at S
              refine k2 _ _ _ pl2 (max B r9) (max h g9) _ (by omega) hh hK (by omega) hkeep (by omega) (by omega) (by omega) (by omega) (fun j a b => ?_) ?_
              · by_cases c9 : j < h
                · exact .inl c9
                · exact .inr (hall9 j a (by omega))
              · rw [show (h : Int) + max ((g9 : Int) - h) 0 = ((max h g9 : Nat) : Int) by omega, show max (B : Int) (r9 : Int) = ((max B r9 : Nat) : Int) by omega] at S
                exact S.sub [0, 3, 4, 6, 7]
            · exact k1 _ _ _ _ (by omega) hh hK (by omega) hkeep (S.sub [2, 3, 5, 6])
          · exact k1 _ _ _ _ (by omega) hh hK (by omega) hkeep (S.sub [2, 3, 5, 6])
    · refine x_var (by exact rfl) ?_
      refine x_var (by exact rfl) ?_
      refine x_len S 6 (by exact rfl) ?_
      refine x_I0 ?_
      refine x_var (by exact rfl) ?_
      refine x_var (by exact rfl) ?_
      refine x_len S 6 (by exact rfl) ?_
      refine x_max ?_
      refine x_I (by first | decide | (show (0 : Int) < _; omega)) ?_
      refine x_I0 ?_
      refine ⟨_, rfl, ?_⟩
      refine x_slL S 6 (by exact rfl) (fun sl3 H S => ?_)
      obtain ⟨zs, hzl, hzs, S⟩ : ∃ zs : List V, zs.length ≤ 200 ∧ (∀ v ∈ zs, v ∈ sv) ∧ Sep H0 [p, q, d, gp] H [(2, sl3, .lst zs), (1, p, .lst [.int (n + 1 + 1), .ref q]), (1, q, .lst (cs2.map V.int)), (0, o, .ins C dx (F_Taker w t d e)), (1, d, .dK kv), (1, gp, .ins CG dg (F_Giver (B : Int) (h : Int) pl c)), (0, pl, .lst ((seg ps h m).map V.int)), (0, st, .lst sv), (0, tl, .lst tv)] := ⟨_, Nat.le_trans (len_cutV _ _ _) (by assumption), fun v hv => mem_cutV hv, S.sub [0, 1, 2, 3, 4, 5, 6, 7, 8]⟩
      have hys := hzs
      have hyl := hzl
      refine ⟨_, rfl, ?_⟩
      refine x_slL S 0 (by exact rfl) (fun sl4 H S => ?_)
      obtain ⟨zs, hzl, hzs, S⟩ : ∃ zs : List V, zs.length ≤ 200 ∧ (∀ v ∈ zs, v ∈ sv) ∧ Sep H0 [p, q, d, gp] H [(2, sl4, .lst zs), (1, p, .lst [.int (n + 1 + 1), .ref q]), (1, q, .lst (cs2.map V.int)), (0, o, .ins C dx (F_Taker w t d e)), (1, d, .dK kv), (1, gp, .ins CG dg (F_Giver (B : Int) (h : Int) pl c)), (0, pl, .lst ((seg ps h m).map V.int)), (0, st, .lst sv), (0, tl, .lst tv)] := ⟨_, Nat.le_trans (len_cutV _ _ _) (by assumption), fun v hv => hys v (mem_cutV hv), S.sub [0, 2, 3, 4, 5, 6, 7, 8, 9]⟩
      have hys := hzs
      have hyl := hzl
      try dsimp only [tMethS1, WE, tSeq, tAsg, gName, tOp, tUn, tCB, tCons, tNil, tCall, tMethK1, tCallK1, tPar3, tRet, tRetN, tDrop, tTest, tB, tC, tNext, tAugS, tAug, sFld1, sFldAug1, tMeth1, tMake, tMakeK1, tSl, tPart, tNoPart, sDPut1, tDPop, tBM, tBM0, tPar, gSub, tChain, tNot, tNotV, tDG1, tDG2, tDNewT1, iKeys1, iEnum1, iList1, iTup1, iRng1, iRng2, List.set_cons_zero, List.set_cons_succ]
      refine x_for ?_
      try dsimp only [tOp, tUn, tCB, tCons, tNil, tCall, tMethK1, tCallK1, tC, tMeth1, tMake, tMakeK1, tSl, tPart, tNoPart, tDPop, tChain, tNotV, tBM, tBM0, tDG1, tDG2, tDNewT1, iKeys1, iEnum1, iList1, iTup1, iRng1, iRng2]
      refine x_ifE ?_
      try dsimp only [tMethS1, WE, tSeq, tAsg, gName, tOp, tUn, tCB, tCons, tNil, tCall, tMethK1, tCallK1, tPar3, tRet, tRetN, tDrop, tTest, tB, tC, tNext, tAugS, tAug, sFld1, sFldAug1, tMeth1, tMake, tMakeK1, tSl, tPart, tNoPart, sDPut1, tDPop, tBM, tBM0, tPar, gSub, tChain, tNot, tNotV, tDG1, tDG2, tDNewT1, iKeys1, iEnum1, iList1, iTup1, iRng1, iRng2, List.set_cons_zero, List.set_cons_succ]
      refine x_var (by exact rfl) ?_
      refine x_eq ?_
      refine ⟨_, rfl, ?_⟩
      refine iteq (fun c7 => ?_) (fun c7 => ?_)
      · refine x_var (by exact rfl) ?_
        refine x_revL S 0 (by exact rfl) (fun sl5 H S => ?_)
        obtain ⟨zs, hzl, hzs, S⟩ : ∃ zs : List V, zs.length ≤ 200 ∧ (∀ v ∈ zs, v ∈ sv) ∧ Sep H0 [p, q, d, gp] H [(2, sl5, .lst zs), (1, p, .lst [.int (n + 1 + 1), .ref q]), (1, q, .lst (cs2.map V.int)), (0, o, .ins C dx (F_Taker w t d e)), (1, d, .dK kv), (1, gp, .ins CG dg (F_Giver (B : Int) (h : Int) pl c)), (0, pl, .lst ((seg ps h m).map V.int)), (0, st, .lst sv), (0, tl, .lst tv)] := ⟨_, by rw [List.length_reverse]; exact hzl, fun v hv => hzs v (List.mem_reverse.mp hv), S.sub [0, 2, 3, 4, 5, 6, 7, 8, 9]⟩
        refine x_ilist S 0 (by exact rfl) ?_
        refine forW (walk_list (xs := zs)) (fun i σ H1 => ∃ (kk : List (Key × V)) (q1 q2 : Option V), σ = [some (.ref p), some (.ref o), some (.ref gp), some (.ref st), some (.ref tl), some (.int r1), some (.int r2), some (.ref sl4), q1, q2, none, none] ∧ Kp ps t m kk ∧ kk.length ≤ kv.length + i ∧ (∀ i : Int, valV kv (.inl i : Key) ≠ none → valV kk (.inl i : Key) ≠ none) ∧ Sep H0 [p, q, d, gp] H1 [(2, sl5, .lst zs), (1, p, .lst [.int (n + 1 + 1), .ref q]), (1, q, .lst (cs2.map V.int)), (0, o, .ins C dx (F_Taker w t d e)), (1, d, .dK kk), (1, gp, .ins CG dg (F_Giver (B : Int) (h : Int) pl c)), (0, pl, .lst ((seg ps h m).map V.int)), (0, st, .lst sv), (0, tl, .lst tv)]) ?_ ?_ ?_ ?_
        · exact ⟨kv, _, _, rfl, hK, by omega, (fun _ h => h), S.sub [0, 1, 2, 3, 4, 5, 6, 7, 8]⟩
        · rintro i σ H hi ⟨kk, q1, q2, rfl, hK, hkl2, hkeep, S⟩
          exact S.sl 0 rfl
        · rintro i y σ H H9 hi ⟨kk, q1, q2, rfl, hK, hkl2, hkeep, S⟩ hy
          obtain ⟨rfl, hy⟩ := hy
          obtain ⟨a9, i9, z9, rfl, ha9, hi9, hz9⟩ := hsent _ (hzs _ (List.mem_of_getElem? hy))
          have hlz := lt_of_get hy
          refine ⟨_, _, rfl, .of (S.fr _ _ ha9 (nin4 ha9 hp0 hq0 hd0 hg0)), rfl, _, _, rfl, _, _, rfl, rfl, ?_⟩
          try dsimp only [tMethS1, WE, tSeq, tAsg, gName, tOp, tUn, tCB, tCons, tNil, tCall, tMethK1, tCallK1, tPar3, tRet, tRetN, tDrop, tTest, tB, tC, tNext, tAugS, tAug, sFld1, sFldAug1, tMeth1, tMake, tMakeK1, tSl, tPart, tNoPart, sDPut1, tDPop, tBM, tBM0, tPar, gSub, tChain, tNot, tNotV, tDG1, tDG2, tDNewT1, iKeys1, iEnum1, iList1, iTup1, iRng1, iRng2, List.set_cons_zero, List.set_cons_succ]
          try dsimp only [tMethS1, WE, tSeq, tAsg, gName, tOp, tUn, tCB, tCons, tNil, tCall, tMethK1, tCallK1, tPar3, tRet, tRetN, tDrop, tTest, tB, tC, tNext, tAugS, tAug, sFld1, sFldAug1, tMeth1, tMake, tMakeK1, tSl, tPart, tNoPart, sDPut1, tDPop, tBM, tBM0, tPar, gSub, tChain, tNot, tNotV, tDG1, tDG2, tDNewT1, iKeys1, iEnum1, iList1, iTup1, iRng1, iRng2, List.set_cons_zero, List.set_cons_succ]
          refine x_var (by exact rfl) ?_
          refine x_meth S 3 (by exact rfl) nk_Taker_came ?_
          refine x_var (by exact rfl) ?_
          refine x_var (by exact rfl) ?_
          refine c_came S 3 4 (by exact rfl) (by exact rfl) (by omega) (fun H S => ?_)
          simp only [List.set_cons_zero, List.set_cons_succ] at S
          have hcl := len_cam (t := t) (w := w) (y := i9) (k := kk) (v := .int z9)
          exact ⟨_, _, _, rfl, hK.cam hi9 hz9, by omega, fun j hj => cam_keep (hkeep j hj), S⟩
        · rintro σ H ⟨kk, q1, q2, rfl, hK, hkl2, hkeep, S⟩
          try dsimp only [tMethS1, WE, tSeq, tAsg, gName, tOp, tUn, tCB, tCons, tNil, tCall, tMethK1, tCallK1, tPar3, tRet, tRetN, tDrop, tTest, tB, tC, tNext, tAugS, tAug, sFld1, sFldAug1, tMeth1, tMake, tMakeK1, tSl, tPart, tNoPart, sDPut1, tDPop, tBM, tBM0, tPar, gSub, tChain, tNot, tNotV, tDG1, tDG2, tDNewT1, iKeys1, iEnum1, iList1, iTup1, iRng1, iRng2, List.set_cons_zero, List.set_cons_succ]
          try dsimp only [tMethS1, WE, tSeq, tAsg, gName, tOp, tUn, tCB, tCons, tNil, tCall, tMethK1, tCallK1, tPar3, tRet, tRetN, tDrop, tTest, tB, tC, tNext, tAugS, tAug, sFld1, sFldAug1, tMeth1, tMake, tMakeK1, tSl, tPart, tNoPart, sDPut1, tDPop, tBM, tBM0, tPar, gSub, tChain, tNot, tNotV, tDG1, tDG2, tDNewT1, iKeys1, iEnum1, iList1, iTup1, iRng1, iRng2, List.set_cons_zero, List.set_cons_succ]
          refine x_if ?_
          try dsimp only [tMethS1, WE, tSeq, tAsg, gName, tOp, tUn, tCB, tCons, tNil, tCall, tMethK1, tCallK1, tPar3, tRet, tRetN, tDrop, tTest, tB, tC, tNext, tAugS, tAug, sFld1, sFldAug1, tMeth1, tMake, tMakeK1, tSl, tPart, tNoPart, sDPut1, tDPop, tBM, tBM0, tPar, gSub, tChain, tNot, tNotV, tDG1, tDG2, tDNewT1, iKeys1, iEnum1, iList1, iTup1, iRng1, iRng2, List.set_cons_zero, List.set_cons_succ]
          refine x_var (by exact rfl) ?_
          refine x_lst S (by exact Nat.le_of_ble_eq_true rfl) (fun L3 H S => ?_)
          refine x_neP0 S 9 0 (by exact rfl) (by exact rfl) (fun v hv => by obtain ⟨a, g, r, e, ha, _⟩ := htold v hv; exact ⟨a, g, r, e, S.fr _ _ ha (nin4 ha hp0 hq0 hd0 hg0)⟩) ?_
          refine ⟨_, rfl, ?_⟩
          refine itend (fun c8 => ?_) (fun c8 => ?_)
          · have htp : 0 < tv.length := List.length_pos_iff.mpr c8
            try dsimp only [tMethS1, WE, tSeq, tAsg, gName, tOp, tUn, tCB, tCons, tNil, tCall, tMethK1, tCallK1, tPar3, tRet, tRetN, tDrop, tTest, tB, tC, tNext, tAugS, tAug, sFld1, sFldAug1, tMeth1, tMake, tMakeK1, tSl, tPart, tNoPart, sDPut1, tDPop, tBM, tBM0, tPar, gSub, tChain, tNot, tNotV, tDG1, tDG2, tDNewT1, iKeys1, iEnum1, iList1, iTup1, iRng1, iRng2, List.set_cons_zero, List.set_cons_succ]
            refine x_var (by exact rfl) ?_
            refine x_var (by exact rfl) ?_
            refine x_len S 9 (by exact rfl) ?_
            refine x_I0 ?_
            refine x_var (by exact rfl) ?_
            refine x_var (by exact rfl) ?_
            refine x_len S 9 (by exact rfl) ?_
            refine c_draw S 2 3 (by exact rfl) (by exact rfl) hh (by first | omega | decide | (simp only [len_insAt, List.length_map, List.length_append, List.length_cons, List.length_nil, List.length_take, List.length_drop] at *; omega)) (by first | omega | decide | (simp only [len_insAt, List.length_map, List.length_append, List.length_cons, List.length_nil, List.length_take, List.length_drop] at *; omega)) (by first | omega | decide | (simp only [len_insAt, List.length_map, List.length_append, List.length_cons, List.length_nil, List.length_take, List.length_drop] at *; omega)) (fun r5 cs5 H r5a r5b hh S => ?_)
            simp only [List.set_cons_zero, List.set_cons_succ] at S
            refine x_I0 ?_
            obtain ⟨v9, hv9, ha9⟩ := at_of2 (xs := tv) (i := (tv.length : Int) - 1 - r5) (by omega) (by omega)
            obtain ⟨b9, g9, r9, rfl, hb9, hg9, hr9, hall9⟩ := htold _ hv9
            refine ⟨_, _, _, _, rfl, rfl, S.sl 9 rfl, ha9, ?_⟩
            refine ⟨_, _, rfl, .of (S.fr _ _ hb9 (nin4 hb9 hp0 hq0 hd0 hg0)), rfl, _, _, rfl, _, _, rfl, rfl, ?_⟩
            try dsimp only [tMethS1, WE, tSeq, tAsg, gName, tOp, tUn, tCB, tCons, tNil, tCall, tMethK1, tCallK1, tPar3, tRet, tRetN, tDrop, tTest, tB, tC, tNext, tAugS, tAug, sFld1, sFldAug1, tMeth1, tMake, tMakeK1, tSl, tPart, tNoPart, sDPut1, tDPop, tBM, tBM0, tPar, gSub, tChain, tNot, tNotV, tDG1, tDG2, tDNewT1, iKeys1, iEnum1, iList1, iTup1, iRng1, iRng2, List.set_cons_zero, List.set_cons_succ]
            refine x_if ?_
            try dsimp only [tMethS1, WE, tSeq, tAsg, gName, tOp, tUn, tCB, tCons, tNil, tCall, tMethK1, tCallK1, tPar3, tRet, tRetN, tDrop, tTest, tB, tC, tNext, tAugS, tAug, sFld1, sFldAug1, tMeth1, tMake, tMakeK1, tSl, tPart, tNoPart, sDPut1, tDPop, tBM, tBM0, tPar, gSub, tChain, tNot, tNotV, tDG1, tDG2, tDNewT1, iKeys1, iEnum1, iList1, iTup1, iRng1, iRng2, List.set_cons_zero, List.set_cons_succ]
            refine x_var (by exact rfl) ?_
            refine x_ne ?_
            refine ⟨_, rfl, ?_⟩
            refine itne (fun c9 => ?_) (fun c9 => ?_)
            · try dsimp only [tMethS1, WE, tSeq, tAsg, gName, tOp, tUn, tCB, tCons, tNil, tCall, tMethK1, tCallK1, tPar3, tRet, tRetN, tDrop, tTest, tB, tC, tNext, tAugS, tAug, sFld1, sFldAug1, tMeth1, tMake, tMakeK1, tSl, tPart, tNoPart, sDPut1, tDPop, tBM, tBM0, tPar, gSub, tChain, tNot, tNotV, tDG1, tDG2, tDNewT1, iKeys1, iEnum1, iList1, iTup1, iRng1, iRng2, List.set_cons_zero, List.set_cons_succ]
              refine x_var (by exact rfl) ?_
              refine x_meth S 6 (by exact rfl) nk_Giver_heard ?_
              refine x_var (by exact rfl) ?_
              refine x_var (by exact rfl) ?_
              refine c_heard S 6 7 (by exact rfl) (by exact rfl) (fun pl3 H S => ?_)
              simp only [List.set_cons_zero, List.set_cons_succ] at S
              rw [seg_drop (by omega) (by omega)] at S
              refine k2 _ _ _ pl3 (max B r9) (max h g9) _ (by omega) hh hK (by omega) hkeep (by omega) (by omega) (by omega) (by omega) (fun j a b => ?_) ?_
              · by_cases c9 : j < h
                · exact .inl c9
                · exact .inr (hall9 j a (by omega))
              · rw [show (h : Int) + max ((g9 : Int) - h) 0 = ((max h g9 : Nat) : Int) by omega, show max (B : Int) (r9 : Int) = ((max B r9 : Nat) : Int) by omega] at S
                exact S.sub [0, 3, 4, 6, 7]
            · exact k1 _ _ _ _ (by omega) hh hK (by omega) hkeep (S.sub [2, 3, 5, 6])
          · exact k1 _ _ _ _ (by omega) hh hK (by omega) hkeep (S.sub [2, 3, 5, 6])
      · refine x_var (by exact rfl) ?_
        refine x_ilist S 0 (by exact rfl) ?_
        refine forW (walk_list (xs := zs)) (fun i σ H1 => ∃ (kk : List (Key × V)) (q1 q2 : Option V), σ = [some (.ref p), some (.ref o), some (.ref gp), some (.ref st), some (.ref tl), some (.int r1), some (.int r2), some (.ref sl4), q1, q2, none, none] ∧ Kp ps t m kk ∧ kk.length ≤ kv.length + i ∧ (∀ i : Int, valV kv (.inl i : Key) ≠ none → valV kk (.inl i : Key) ≠ none) ∧ Sep H0 [p, q, d, gp] H1 [(2, sl4, .lst zs), (1, p, .lst [.int (n + 1 + 1), .ref q]), (1, q, .lst (cs2.map V.int)), (0, o, .ins C dx (F_Taker w t d e)), (1, d, .dK kk), (1, gp, .ins CG dg (F_Giver (B : Int) (h : Int) pl c)), (0, pl, .lst ((seg ps h m).map V.int)), (0, st, .lst sv), (0, tl, .lst tv)]) ?_ ?_ ?_ ?_
        · exact ⟨kv, _, _, rfl, hK, by omega, (fun _ h => h), S.sub [0, 1, 2, 3, 4, 5, 6, 7, 8]⟩
        · rintro i σ H hi ⟨kk, q1, q2, rfl, hK, hkl2, hkeep, S⟩
          exact S.sl 0 rfl
        · rintro i y σ H H9 hi ⟨kk, q1, q2, rfl, hK, hkl2, hkeep, S⟩ hy
          obtain ⟨rfl, hy⟩ := hy
          obtain ⟨a9, i9, z9, rfl, ha9, hi9, hz9⟩ := hsent _ (hzs _ (List.mem_of_getElem? hy))
          have hlz := lt_of_get hy
          refine ⟨_, _, rfl, .of (S.fr _ _ ha9 (nin4 ha9 hp0 hq0 hd0 hg0)), rfl, _, _, rfl, _, _, rfl, rfl, ?_⟩
          try dsimp only [tMethS1, WE, tSeq, tAsg, gName, tOp, tUn, tCB, tCons, tNil, tCall, tMethK1, tCallK1, tPar3, tRet, tRetN, tDrop, tTest, tB, tC, tNext, tAugS, tAug, sFld1, sFldAug1, tMeth1, tMake, tMakeK1, tSl, tPart, tNoPart, sDPut1, tDPop, tBM, tBM0, tPar, gSub, tChain, tNot, tNotV, tDG1, tDG2, tDNewT1, iKeys1, iEnum1, iList1, iTup1, iRng1, iRng2, List.set_cons_zero, List.set_cons_succ]
          try dsimp only [tMethS1, WE, tSeq, tAsg, gName, tOp, tUn, tCB, tCons, tNil, tCall, tMethK1, tCallK1, tPar3, tRet, tRetN, tDrop, tTest, tB, tC, tNext, tAugS, tAug, sFld1, sFldAug1, tMeth1, tMake, tMakeK1, tSl, tPart, tNoPart, sDPut1, tDPop, tBM, tBM0, tPar, gSub, tChain, tNot, tNotV, tDG1, tDG2, tDNewT1, iKeys1, iEnum1, iList1, iTup1, iRng1, iRng2, List.set_cons_zero, List.set_cons_succ]
          refine x_var (by exact rfl) ?_
          refine x_meth S 3 (by exact rfl) nk_Taker_came ?_
          refine x_var (by exact rfl) ?_
          refine x_var (by exact rfl) ?_
          refine c_came S 3 4 (by exact rfl) (by exact rfl) (by omega) (fun H S => ?_)
          simp only [List.set_cons_zero, List.set_cons_succ] at S
          have hcl := len_cam (t := t) (w := w) (y := i9) (k := kk) (v := .int z9)
          exact ⟨_, _, _, rfl, hK.cam hi9 hz9, by omega, fun j hj => cam_keep (hkeep j hj), S⟩
        · rintro σ H ⟨kk, q1, q2, rfl, hK, hkl2, hkeep, S⟩
          try dsimp only [tMethS1, WE, tSeq, tAsg, gName, tOp, tUn, tCB, tCons, tNil, tCall, tMethK1, tCallK1, tPar3, tRet, tRetN, tDrop, tTest, tB, tC, tNext, tAugS, tAug, sFld1, sFldAug1, tMeth1, tMake, tMakeK1, tSl, tPart, tNoPart, sDPut1, tDPop, tBM, tBM0, tPar, gSub, tChain, tNot, tNotV, tDG1, tDG2, tDNewT1, iKeys1, iEnum1, iList1, iTup1, iRng1, iRng2, List.set_cons_zero, List.set_cons_succ]
          try dsimp only [tMethS1, WE, tSeq, tAsg, gName, tOp, tUn, tCB, tCons, tNil, tCall, tMethK1, tCallK1, tPar3, tRet, tRetN, tDrop, tTest, tB, tC, tNext, tAugS, tAug, sFld1, sFldAug1, tMeth1, tMake, tMakeK1, tSl, tPart, tNoPart, sDPut1, tDPop, tBM, tBM0, tPar, gSub, tChain, tNot, tNotV, tDG1, tDG2, tDNewT1, iKeys1, iEnum1, iList1, iTup1, iRng1, iRng2, List.set_cons_zero, List.set_cons_succ]
          refine x_if ?_
          try dsimp only [tMethS1, WE, tSeq, tAsg, gName, tOp, tUn, tCB, tCons, tNil, tCall, tMethK1, tCallK1, tPar3, tRet, tRetN, tDrop, tTest, tB, tC, tNext, tAugS, tAug, sFld1, sFldAug1, tMeth1, tMake, tMakeK1, tSl, tPart, tNoPart, sDPut1, tDPop, tBM, tBM0, tPar, gSub, tChain, tNot, tNotV, tDG1, tDG2, tDNewT1, iKeys1, iEnum1, iList1, iTup1, iRng1, iRng2, List.set_cons_zero, List.set_cons_succ]
          refine x_var (by exact rfl) ?_
          refine x_lst S (by exact Nat.le_of_ble_eq_true rfl) (fun L4 H S => ?_)
          refine x_neP0 S 9 0 (by exact rfl) (by exact rfl) (fun v hv => by obtain ⟨a, g, r, e, ha, _⟩ := htold v hv; exact ⟨a, g, r, e, S.fr _ _ ha (nin4 ha hp0 hq0 hd0 hg0)⟩) ?_
          refine ⟨_, rfl, ?_⟩
          refine itend (fun c10 => ?_) (fun c10 => ?_)
          · have htp : 0 < tv.length := List.length_pos_iff.mpr c10
            try dsimp only [tMethS1, WE, tSeq, tAsg, gName, tOp, tUn, tCB, tCons, tNil, tCall, tMethK1, tCallK1, tPar3, tRet, tRetN, tDrop, tTest, tB, tC, tNext, tAugS, tAug, sFld1, sFldAug1, tMeth1, tMake, tMakeK1, tSl, tPart, tNoPart, sDPut1, tDPop, tBM, tBM0, tPar, gSub, tChain, tNot, tNotV, tDG1, tDG2, tDNewT1, iKeys1, iEnum1, iList1, iTup1, iRng1, iRng2, List.set_cons_zero, List.set_cons_succ]
            refine x_var (by exact rfl) ?_
            refine x_var (by exact rfl) ?_
            refine x_len S 9 (by exact rfl) ?_
            refine x_I0 ?_
            refine x_var (by exact rfl) ?_
            refine x_var (by exact rfl) ?_
            refine x_len S 9 (by exact rfl) ?_
            refine c_draw S 2 3 (by exact rfl) (by exact rfl) hh (by first | omega | decide | (simp only [len_insAt, List.length_map, List.length_append, List.length_cons, List.length_nil, List.length_take, List.length_drop] at *; omega)) (by first | omega | decide | (simp only [len_insAt, List.length_map, List.length_append, List.length_cons, List.length_nil, List.length_take, List.length_drop] at *; omega)) (by first | omega | decide | (simp only [len_insAt, List.length_map, List.length_append, List.length_cons, List.length_nil, List.length_take, List.length_drop] at *; omega)) (fun r6 cs6 H r6a r6b hh S => ?_)
            simp only [List.set_cons_zero, List.set_cons_succ] at S
            refine x_I0 ?_
            obtain ⟨v9, hv9, ha9⟩ := at_of2 (xs := tv) (i := (tv.length : Int) - 1 - r6) (by omega) (by omega)
            obtain ⟨b9, g9, r9, rfl, hb9, hg9, hr9, hall9⟩ := htold _ hv9
            refine ⟨_, _, _, _, rfl, rfl, S.sl 9 rfl, ha9, ?_⟩
            refine ⟨_, _, rfl, .of (S.fr _ _ hb9 (nin4 hb9 hp0 hq0 hd0 hg0)), rfl, _, _, rfl, _, _, rfl, rfl, ?_⟩
            try dsimp only [tMethS1, WE, tSeq, tAsg, gName, tOp, tUn, tCB, tCons, tNil, tCall, tMethK1, tCallK1, tPar3, tRet, tRetN, tDrop, tTest, tB, tC, tNext, tAugS, tAug, sFld1, sFldAug1, tMeth1, tMake, tMakeK1, tSl, tPart, tNoPart, sDPut1, tDPop, tBM, tBM0, tPar, gSub, tChain, tNot, tNotV, tDG1, tDG2, tDNewT1, iKeys1, iEnum1, iList1, iTup1, iRng1, iRng2, List.set_cons_zero, List.set_cons_succ]
            refine x_if ?_
            try dsimp only [tMethS1, WE, tSeq, tAsg, gName, tOp, tUn, tCB, tCons, tNil, tCall, tMethK1, tCallK1, tPar3, tRet, tRetN, tDrop, tTest, tB, tC, tNext, tAugS, tAug, sFld1, sFldAug1, tMeth1, tMake, tMakeK1, tSl, tPart, tNoPart, sDPut1, tDPop, tBM, tBM0, tPar, gSub, tChain, tNot, tNotV, tDG1, tDG2, tDNewT1, iKeys1, iEnum1, iList1, iTup1, iRng1, iRng2, List.set_cons_zero, List.set_cons_succ]
            refine x_var (by exact rfl) ?_
            refine x_ne ?_
            refine ⟨_, rfl, ?_⟩
            refine itne (fun c11 => ?_) (fun c11 => ?_)
            · try dsimp only [tMethS1, WE, tSeq, tAsg, gName, tOp, tUn, tCB, tCons, tNil, tCall, tMethK1, tCallK1, tPar3, tRet, tRetN, tDrop, tTest, tB, tC, tNext, tAugS, tAug, sFld1, sFldAug1, tMeth1, tMake, tMakeK1, tSl, tPart, tNoPart, sDPut1, tDPop, tBM, tBM0, tPar, gSub, tChain, tNot, tNotV, tDG1, tDG2, tDNewT1, iKeys1, iEnum1, iList1, iTup1, iRng1, iRng2, List.set_cons_zero, List.set_cons_succ]
              refine x_var (by exact rfl) ?_
              refine x_meth S 6 (by exact rfl) nk_Giver_heard ?_
              refine x_var (by exact rfl) ?_
              refine x_var (by exact rfl) ?_
              refine c_heard S 6 7 (by exact rfl) (by exact rfl) (fun pl4 H S => ?_)
              simp only [List.set_cons_zero, List.set_cons_succ] at S
              rw [seg_drop (by omega) (by omega)] at S
              refine k2 _ _ _ pl4 (max B r9) (max h g9) _ (by omega) hh hK (by omega) hkeep (by omega) (by omega) (by omega) (by omega) (fun j a b => ?_) ?_
              · by_cases c9 : j < h
                · exact .inl c9
                · exact .inr (hall9 j a (by omega))
              · rw [show (h : Int) + max ((g9 : Int) - h) 0 = ((max h g9 : Nat) : Int) by omega, show max (B : Int) (r9 : Int) = ((max B r9 : Nat) : Int) by omega] at S
                exact S.sub [0, 3, 4, 6, 7]
            · exact k1 _ _ _ _ (by omega) hh hK (by omega) hkeep (S.sub [2, 3, 5, 6])
          · exact k1 _ _ _ _ (by omega) hh hK (by omega) hkeep (S.sub [2, 3, 5, 6])
end
end G

set_option linter.all false
set_option maxRecDepth 100000
set_option maxHeartbeats 4000000
namespace G
open PySem PySem.Spec PyProof.Rows L2

theorem Sep.callN {H0 H H' : Hp} {ft : List Addr} {l m : List Cell} (S : Sep H0 ft H l) (S' : Sep H [] H' m) (hm : ∀ c ∈ m, c.1 = 2) : Sep H0 ft H' (m ++ l) :=
  S.join (o' := []) (S.stay fun b o e => S'.fr b o e (by simp)) rfl (by rw [List.append_nil]; exact S') hm
def EndE (en : Bool) (ps : List Int) (e : V) : Prop := e = if en = true then .int (ps.length : Nat) else .non
theorem EndE.v {en : Bool} {ps : List Int} {e : V} (h : EndE en ps e) : EndV e := by
  cases en with
  | true => exact .inr ⟨_, h⟩
  | false => exact .inl h
def spRightK (C CG : Addr) : Sp := fun vs H Q _ => ∃ (o dx d gp dg pl pc sa : Addr) (w t m B h : Nat) (c en : Bool) (e : V) (ps : List Int), vs = [.ref gp, .ref o, .ref pc, .ref sa] ∧
  Sep H [] H [(0, gp, .ins CG dg (F_Giver (B : Int) (h : Int) pl c)), (0, pl, .lst ((seg ps h m).map V.int)), (0, o, .ins C dx (F_Taker (w : Int) (t : Int) d e)), (0, pc, .lst (ps.map V.int)), (0, sa, .tup [.int t, .int w, .bl en])] ∧
  h ≤ m ∧ m ≤ ps.length ∧ t ≤ m ∧ m ≤ t + w ∧ ps.length ≤ 100 ∧ EndE en ps e ∧ ∀ H' : Hp, (∀ b o, H b = some o → H' b = some o) → Q (.bl true) H'
section
variable {P : Program} {w : World} {K : PySem.W.Frag} {mg : Str → Option Value} {base : Heap}
abbrev s_law_right : Stmt := (topS 19)
theorem sc_law_right : FnScope ["_law_giver", "_law_taker", "_law_pieces", "_law_state", "_law_many", "_law_wide_here", "_law_ended", "_law_pair"] ["_law_giver", "_law_taker", "_law_pieces", "_law_state"] (defScope s_law_right) := ⟨rfl, rfl, rfl, by decide +kernel, rfl, by decide +kernel, by decide +kernel⟩
theorem ok_law_right {f : Addr} {fd : FuncData} {C CG : Addr} (F : L2.Fun K "_law_right" "_law_right" s_law_right f fd) (mmany : Met P w K mg base CX0 1 CG "many" (spMany CG)) (mwanted : Met P w K mg base CX0 1 CG "wanted" (spWanted CG)) (misended : Met P w K mg base CX0 1 C "is_ended" (spIsEnded C)) (ctr : Cal P w K mg base CX0 1 "_law_truth" spTruth) (z_len : mg "len" = none) : FnOk P w K mg base CX0 2 f fd ["_law_giver", "_law_taker", "_law_pieces", "_law_state"] (spRightK C CG) := by
  refine F.ok sc_law_right (fun vs H Q E h => ?_) (fun cdv A outer s H0 vs Q E hr h => ?_)
  · obtain ⟨o, dx, d, gp, dg, pl, pc, sa, w, t, m, B, h, c, en, e, ps, rfl, S, hhm, hml0, htm, hmw, hps, he, k⟩ := h
    rfl
  · obtain ⟨o, dx, d, gp, dg, pl, pc, sa, w, t, m, B, h, c, en, e, ps, rfl, S, hhm, hml0, htm, hmw, hps, he, k⟩ := h
    have hu := hu_of hr
    have hml := len_seg (ps := ps) (h := h) (m := m) (by omega) (by omega)
    refine ⟨_, pss_cons (ps_asg (pv 3) (pg_tup rfl (pgs_cons (pg_name (i := 4) sc_law_right.nd rfl (.inl rfl)) (pgs_cons (pg_name (i := 5) sc_law_right.nd rfl (.inl rfl)) (pgs_cons (pg_name (i := 6) sc_law_right.nd rfl (.inl rfl)) (pgs_nil))))))
      (pss_cons (ps_if ((pw_or (pt_cmpR op_lt (pv 4) (pe_int) (nomark _)) (pw_or (pt_cmpR op_gt (pe_mt0 mmany hr (by decide) pass0 (pv 0)) (pe_op op_add (pv 4) (pv 5)) (nomark _)) (pw_or1 (pt_cmpR op_gt (pe_mt0 mmany hr (by decide) pass0 (pv 0)) (pe_callB (cl_lenK K) (by rfl) z_len PySem.boot_len (pa_cons (pv 2) pa_nil)) (nomark _))))).pt) (pss_one (ps_never)) (pss_nil))
      (pss_cons (ps_if (pt_cmpR (op_neDK K hr.units) (pe_lc (own := [("_law_pair", 7)]) (g := gName 7) rfl sc_law_right.nd (pi_listK K (pe_mt0 mwanted hr (by decide) pass0 (pv 0))) (blkOk_by (N := ["_law_giver", "_law_taker", "_law_pieces", "_law_state", "_law_many", "_law_wide_here", "_law_ended", "_law_pair"]) (sc := defScope s_law_right) (by decide +kernel)) (fun _ _ _ _ _ => pg_name (i := 7) sc_law_right.nd rfl (.inl rfl)) (fun _ _ _ _ _ => pts_one ((pw_or (pt_cmpR op_ge (pe_ix (ix_tupK K) (pv 7) (pe_int) (fun _ _ => rfl)) (pe_mt0 mmany hr (by decide) pass0 (pv 0)) (nomark _)) (pw_or1 (pt_cmpR op_ne (pe_ix (ix_tupK K) (pv 7) (pe_int) (fun _ _ => rfl)) (pe_ix (ix_listK K) (pv 2) (pe_ix (ix_tupK K) (pv 7) (pe_int) (fun _ _ => rfl)) (fun _ _ => rfl)) (nomark _)))).pt)) (fun _ _ _ _ _ => pe_never)) (pe_lst1 pa_nil) (nomark _)) (pss_one (ps_never)) (pss_nil))
      (pss_one (ps_ret (pe_c ctr hr (by decide) (by rfl) pass0 (pa_cons (pe_mt0 misended hr (by decide) pass0 (pv 1)) (pa_cons (pe_and (pv 6) (pe_one (pe_cmpR op_eq (pv 4) (pe_callB (cl_lenK K) (by rfl) z_len PySem.boot_len (pa_cons (pv 2) pa_nil)) (nomark _)))) pa_nil))))))), ?_⟩
    rw [show start ["_law_giver", "_law_taker", "_law_pieces", "_law_state", "_law_many", "_law_wide_here", "_law_ended", "_law_pair"] [V.ref gp, V.ref o, V.ref pc, V.ref sa] = [some (V.ref gp), some (V.ref o), some (V.ref pc), some (V.ref sa), none, none, none, none] from rfl]
    try dsimp only [tMethS1, WE, tSeq, tAsg, gName, tOp, tUn, tCB, tCons, tNil, tCall, tMethK1, tCallK1, tPar3, tRet, tRetN, tDrop, tTest, tB, tC, tNext, tAugS, tAug, sFld1, sFldAug1, tMeth1, tMake, tMakeK1, tSl, tPart, tNoPart, sDPut1, tDPop, tBM, tBM0, tPar, gSub, tChain, tNot, tNotV, tDG1, tDG2, tDNewT1, iKeys1, iEnum1, iList1, iTup1, iRng1, iRng2, List.set_cons_zero, List.set_cons_succ]
    refine x_var (by exact rfl) ?_
    refine ⟨_, _, rfl, S.st 4 rfl, rfl, _, _, rfl, _, _, rfl, _, _, rfl, rfl, ?_⟩
    try dsimp only [tMethS1, WE, tSeq, tAsg, gName, tOp, tUn, tCB, tCons, tNil, tCall, tMethK1, tCallK1, tPar3, tRet, tRetN, tDrop, tTest, tB, tC, tNext, tAugS, tAug, sFld1, sFldAug1, tMeth1, tMake, tMakeK1, tSl, tPart, tNoPart, sDPut1, tDPop, tBM, tBM0, tPar, gSub, tChain, tNot, tNotV, tDG1, tDG2, tDNewT1, iKeys1, iEnum1, iList1, iTup1, iRng1, iRng2, List.set_cons_zero, List.set_cons_succ]
    refine x_if ?_
    try dsimp only [tMethS1, WE, tSeq, tAsg, gName, tOp, tUn, tCB, tCons, tNil, tCall, tMethK1, tCallK1, tPar3, tRet, tRetN, tDrop, tTest, tB, tC, tNext, tAugS, tAug, sFld1, sFldAug1, tMeth1, tMake, tMakeK1, tSl, tPart, tNoPart, sDPut1, tDPop, tBM, tBM0, tPar, gSub, tChain, tNot, tNotV, tDG1, tDG2, tDNewT1, iKeys1, iEnum1, iList1, iTup1, iRng1, iRng2, List.set_cons_zero, List.set_cons_succ]
    refine x_or ?_
    try dsimp only [tMethS1, WE, tSeq, tAsg, gName, tOp, tUn, tCB, tCons, tNil, tCall, tMethK1, tCallK1, tPar3, tRet, tRetN, tDrop, tTest, tB, tC, tNext, tAugS, tAug, sFld1, sFldAug1, tMeth1, tMake, tMakeK1, tSl, tPart, tNoPart, sDPut1, tDPop, tBM, tBM0, tPar, gSub, tChain, tNot, tNotV, tDG1, tDG2, tDNewT1, iKeys1, iEnum1, iList1, iTup1, iRng1, iRng2, List.set_cons_zero, List.set_cons_succ]
    refine x_var (by exact rfl) ?_
    refine x_I0 ?_
    refine ⟨_, rfl, ?_⟩
    refine ited (fun c1 => ?_) (fun c1 => ?_)
    · exact absurd c1 (by omega)
    · refine x_or ?_
      try dsimp only [tMethS1, WE, tSeq, tAsg, gName, tOp, tUn, tCB, tCons, tNil, tCall, tMethK1, tCallK1, tPar3, tRet, tRetN, tDrop, tTest, tB, tC, tNext, tAugS, tAug, sFld1, sFldAug1, tMeth1, tMake, tMakeK1, tSl, tPart, tNoPart, sDPut1, tDPop, tBM, tBM0, tPar, gSub, tChain, tNot, tNotV, tDG1, tDG2, tDNewT1, iKeys1, iEnum1, iList1, iTup1, iRng1, iRng2, List.set_cons_zero, List.set_cons_succ]
      refine x_var (by exact rfl) ?_
      refine x_meth S 0 (by exact rfl) nk_Giver_many ?_
      refine c_many S 0 1 (by exact rfl) (by exact rfl) ?_
      refine x_var (by exact rfl) ?_
      refine x_var (by exact rfl) ?_
      refine x_I0 ?_
      refine x_I0 ?_
      refine ⟨_, rfl, ?_⟩
      refine ited (fun c2 => ?_) (fun c2 => ?_)
      · exact absurd c2 (by omega)
      · refine x_var (by exact rfl) ?_
        refine x_meth S 0 (by exact rfl) nk_Giver_many ?_
        refine c_many S 0 1 (by exact rfl) (by exact rfl) ?_
        refine x_var (by exact rfl) ?_
        refine x_lenI S 3 (by exact rfl) ?_
        refine x_I0 ?_
        refine ⟨_, rfl, ?_⟩
        refine ited (fun c3 => ?_) (fun c3 => ?_)
        · exact absurd c3 (by omega)
        · try dsimp only [tMethS1, WE, tSeq, tAsg, gName, tOp, tUn, tCB, tCons, tNil, tCall, tMethK1, tCallK1, tPar3, tRet, tRetN, tDrop, tTest, tB, tC, tNext, tAugS, tAug, sFld1, sFldAug1, tMeth1, tMake, tMakeK1, tSl, tPart, tNoPart, sDPut1, tDPop, tBM, tBM0, tPar, gSub, tChain, tNot, tNotV, tDG1, tDG2, tDNewT1, iKeys1, iEnum1, iList1, iTup1, iRng1, iRng2, List.set_cons_zero, List.set_cons_succ]
          refine x_if ?_
          try dsimp only [tMethS1, WE, tSeq, tAsg, gName, tOp, tUn, tCB, tCons, tNil, tCall, tMethK1, tCallK1, tPar3, tRet, tRetN, tDrop, tTest, tB, tC, tNext, tAugS, tAug, sFld1, sFldAug1, tMeth1, tMake, tMakeK1, tSl, tPart, tNoPart, sDPut1, tDPop, tBM, tBM0, tPar, gSub, tChain, tNot, tNotV, tDG1, tDG2, tDNewT1, iKeys1, iEnum1, iList1, iTup1, iRng1, iRng2, List.set_cons_zero, List.set_cons_succ]
          refine x_lc ?_
          try dsimp only [tOp, tUn, tCB, tCons, tNil, tCall, tMethK1, tCallK1, tC, tMeth1, tMake, tMakeK1, tSl, tPart, tNoPart, tDPop, tChain, tNotV, tBM, tBM0, tDG1, tDG2, tDNewT1, iKeys1, iEnum1, iList1, iTup1, iRng1, iRng2]
          refine x_var (by exact rfl) ?_
          refine x_meth S 0 (by exact rfl) nk_Giver_wanted ?_
          refine ⟨_, _, _, _, _, _, _, rfl, S.get 0 rfl, S.get 1 rfl, by omega, fun wr ws M H hM hW S9 => ?_⟩
          have S := (S.callN S9 (fun c hc => (List.mem_cons.mp hc).elim (fun e => by rw [e]) (hM c))).tail 5
          rw [List.drop_eq_nil_of_le (by exact Nat.le_of_ble_eq_true rfl), List.append_nil] at S
          dsimp only [List.take_succ_cons, List.take_zero, List.drop_succ_cons, List.drop_zero, List.cons_append, List.nil_append, List.append_nil] at S
          refine x_ilist S 5 (by exact rfl) ?_
          refine lcW (walk_list (xs := ws)) S (fun D1 H S => ⟨fun i H1 => Sep H0 [] H1 ((2, D1, .lst []) :: (0, gp, .ins CG dg (F_Giver (B : Int) (h : Int) pl c)) :: (0, pl, .lst ((seg ps h m).map V.int)) :: (0, o, .ins C dx (F_Taker (w : Int) (t : Int) d e)) :: (0, pc, .lst (ps.map V.int)) :: (0, sa, .tup [.int t, .int w, .bl en]) :: (2, wr, .lst ws) :: M), ?_, ?_, ?_, ?_⟩)
          · exact S
          · rintro i H hi S
            exact S.sl 6 rfl
          · rintro i y H H9 hi S hy
            obtain ⟨rfl, hy⟩ := hy
            obtain ⟨a9, x9, rfl, hx9, hc9⟩ := hW.2 i _ hy
            obtain ⟨z9, hz9, rfl⟩ := elem_of hx9
            have hil := lt_of_get hz9
            have hsl := len_seg (ps := ps) (h := h) (m := m) (by omega) (by omega)
            rw [List.length_map] at hsl
            have hpz : ps[h + i]? = some z9 := by unfold seg at hz9; rw [List.getElem?_take_of_lt (by omega), List.getElem?_drop] at hz9; exact hz9
            have hpl := lt_of_get hpz
            refine ⟨rfl, ?_⟩
            try dsimp only [tMethS1, WE, wipe, tYes, tSeq, tAsg, gName, tOp, tUn, tCB, tCons, tNil, tCall, tMethK1, tCallK1, tPar3, tRet, tRetN, tDrop, tTest, tB, tC, tNext, tAugS, tAug, sFld1, sFldAug1, tMeth1, tMake, tMakeK1, tSl, tPart, tNoPart, sDPut1, tDPop, tBM, tBM0, tPar, gSub, tChain, tNot, tNotV, tDG1, tDG2, tDNewT1, iKeys1, iEnum1, iList1, iTup1, iRng1, iRng2, List.set_cons_zero, List.set_cons_succ]
            refine x_or ?_
            try dsimp only [tMethS1, WE, tSeq, tAsg, gName, tOp, tUn, tCB, tCons, tNil, tCall, tMethK1, tCallK1, tPar3, tRet, tRetN, tDrop, tTest, tB, tC, tNext, tAugS, tAug, sFld1, sFldAug1, tMeth1, tMake, tMakeK1, tSl, tPart, tNoPart, sDPut1, tDPop, tBM, tBM0, tPar, gSub, tChain, tNot, tNotV, tDG1, tDG2, tDNewT1, iKeys1, iEnum1, iList1, iTup1, iRng1, iRng2, List.set_cons_zero, List.set_cons_succ]
            refine x_var (by exact rfl) ?_
            refine x_ixTf (S.cellT 7 hc9) (by exact (by exact rfl)) ?_
            refine x_var (by exact rfl) ?_
            refine x_meth S 1 (by exact rfl) nk_Giver_many ?_
            refine c_many S 1 2 (by exact rfl) (by exact rfl) ?_
            refine x_I0 ?_
            refine ⟨_, rfl, ?_⟩
            refine ited (fun c4 => ?_) (fun c4 => ?_)
            · exact absurd c4 (by omega)
            · refine x_var (by exact rfl) ?_
              refine x_ixTf (S.cellT 7 hc9) (by exact (by exact rfl)) ?_
              refine x_var (by exact rfl) ?_
              refine x_var (by exact rfl) ?_
              refine x_ixTf (S.cellT 7 hc9) (by exact (by exact rfl)) ?_
              refine x_ixI S 4 (by exact rfl) (by omega) (by omega) (fun v1 hv1 => ?_)
              refine x_ne ?_
              refine ⟨_, rfl, ?_⟩
              refine itne (fun c5 => ?_) (fun c5 => ?_)
              · exact absurd (by rw [show ((h : Int) + (i : Nat)).toNat = h + i by omega, hpz] at hv1; exact Option.some.inj hv1) c5
              · exact S
          · rintro H S
            refine x_lst S (by exact Nat.le_of_ble_eq_true rfl) (fun L1 H S => ?_)
            refine x_neL (xs := []) (ys := []) S 1 0 (by exact rfl) (by exact rfl) ?_
            refine ⟨_, rfl, ?_⟩
            refine itend (fun h => absurd rfl h) (fun c6 => ?_)
            try dsimp only [tMethS1, WE, tSeq, tAsg, gName, tOp, tUn, tCB, tCons, tNil, tCall, tMethK1, tCallK1, tPar3, tRet, tRetN, tDrop, tTest, tB, tC, tNext, tAugS, tAug, sFld1, sFldAug1, tMeth1, tMake, tMakeK1, tSl, tPart, tNoPart, sDPut1, tDPop, tBM, tBM0, tPar, gSub, tChain, tNot, tNotV, tDG1, tDG2, tDNewT1, iKeys1, iEnum1, iList1, iTup1, iRng1, iRng2, List.set_cons_zero, List.set_cons_succ]
            refine x_var (by exact rfl) ?_
            refine x_meth S 4 (by exact rfl) nk_Taker_is_ended ?_
            refine c_isended S 4 (by exact rfl) he.v ?_
            cases en with
            | true =>
              refine x_andV ?_
              try dsimp only [tMethS1, WE, tSeq, tAsg, gName, tOp, tUn, tCB, tCons, tNil, tCall, tMethK1, tCallK1, tPar3, tRet, tRetN, tDrop, tTest, tB, tC, tNext, tAugS, tAug, sFld1, sFldAug1, tMeth1, tMake, tMakeK1, tSl, tPart, tNoPart, sDPut1, tDPop, tBM, tBM0, tPar, gSub, tChain, tNot, tNotV, tDG1, tDG2, tDNewT1, iKeys1, iEnum1, iList1, iTup1, iRng1, iRng2, List.set_cons_zero, List.set_cons_succ]
              refine x_var (by exact rfl) ?_
              refine ⟨_, rfl, ?_⟩
              refine iteT ?_
              refine x_var (by exact rfl) ?_
              refine x_var (by exact rfl) ?_
              refine x_lenI S 5 (by exact rfl) ?_
              refine x_eq ?_
              refine c_truth ?_
              have he2 : e = .int (ps.length : Nat) := he
              subst he2
              have hq : V.bl (endN (V.int (ps.length : Nat)) (t : Nat)) = V.bl (decide (V.int (t : Nat) = V.int (ps.length : Nat))) := congrArg V.bl (decide_eq_decide.mpr ⟨fun a => by rw [show t = ps.length by omega], fun a => by have := V.int.inj a; omega⟩)
              rw [decide_eq_true hq]
              exact k _ (fun b o e => S.fr b o e (by simp))
            | false =>
              refine x_andV ?_
              try dsimp only [tMethS1, WE, tSeq, tAsg, gName, tOp, tUn, tCB, tCons, tNil, tCall, tMethK1, tCallK1, tPar3, tRet, tRetN, tDrop, tTest, tB, tC, tNext, tAugS, tAug, sFld1, sFldAug1, tMeth1, tMake, tMakeK1, tSl, tPart, tNoPart, sDPut1, tDPop, tBM, tBM0, tPar, gSub, tChain, tNot, tNotV, tDG1, tDG2, tDNewT1, iKeys1, iEnum1, iList1, iTup1, iRng1, iRng2, List.set_cons_zero, List.set_cons_succ]
              refine x_var (by exact rfl) ?_
              refine ⟨_, rfl, ?_⟩
              refine iteF ?_
              refine c_truth ?_
              have he2 : e = .non := he
              subst he2
              rw [decide_eq_true (by rfl)]
              exact k _ (fun b o e => S.fr b o e (by simp))
end
end G

set_option linter.all false
set_option maxRecDepth 100000
set_option maxHeartbeats 4000000
namespace G
open PySem PySem.Spec PyProof.Rows L2

structure Way (ps : List Int) (w B h m t : Nat) (c : Bool) (kv : List (Key × V)) : Prop where
  hm : h ≤ m
  ml : m ≤ ps.length
  mB : m ≤ B
  Bt : B ≤ t + w
  tm : t ≤ m
  K : Kp ps t m kv
  hk : ∀ i : Nat, t ≤ i → i < h → valV kv (.inl (i : Int) : Key) ≠ none
  sh : c = true → m = ps.length
def spLed (C CG : Addr) : Sp := fun vs H Q _ => ∃ (o dx d gp dg pl pc : Addr) (w t m B h : Nat) (c en : Bool) (e : V) (kv : List (Key × V)) (ps : List Int), vs = [.ref gp, .ref o, .ref pc, .int t] ∧
  Sep H [gp, pl, o, d] H [(1, gp, .ins CG dg (F_Giver (B : Int) (h : Int) pl c)), (1, pl, .lst ((seg ps h m).map V.int)), (1, o, .ins C dx (F_Taker (w : Int) (t : Int) d e)), (1, d, .dK kv), (0, pc, .lst (ps.map V.int))] ∧
  Way ps w B h m t c kv ∧ 1 ≤ w ∧ w ≤ 64 ∧ ps.length ≤ 100 ∧ kv.length ≤ 20000 ∧ EndE en ps e ∧ (en = true → m = ps.length) ∧ ∀ H' : Hp, Q (.bl true) H'
theorem Kp.up {ps : List Int} {t m m' : Nat} {kv : List (Key × V)} (h : Kp ps t m kv) (hm : m ≤ m') : Kp ps t m' kv := fun i v e => by
  obtain ⟨n, z, e1, e2, e3, e4⟩ := h i v e
  exact ⟨n, z, e1, e2, by omega, e4⟩
theorem Kp.out {ps : List Int} {t m : Nat} {kv : List (Key × V)} (h : Kp ps t m kv) {i : Nat} (hi : m ≤ i) : valV kv (.inl (i : Int) : Key) = none := by
  cases e : valV kv (.inl (i : Int) : Key) with
  | none => rfl
  | some v =>
    obtain ⟨n, z, e1, e2, e3, e4⟩ := h _ v e
    omega
theorem cam_in {t i : Nat} {w : Int} {v : V} {kv : List (Key × V)} (h1 : t ≤ i) (h2 : (i : Int) < t + w) : valV (camK t w kv i v) (.inl (i : Int) : Key) ≠ none := by
  unfold camK
  by_cases c : valV kv (.inl (i : Int) : Key) = none
  · rw [if_pos ⟨⟨by omega, h2⟩, c⟩, valV_put, if_pos rfl]
    exact fun z => nomatch z
  · rw [if_neg (fun z => c z.2)]
    exact c
/-- behind the last number taken nothing stands: it is the put ones' number -/
theorem took_all {kv : List (Key × V)} {ps : List Int} {t t' m w : Nat} (hw : w ≤ 64) (hmw : m ≤ t + w) (h1 : t' ≤ m) (hin : ∀ i : Nat, t ≤ i → i < m → valV kv (.inl (i : Int) : Key) ≠ none) (h0 : t ≤ t') (ho : t' = t + 70 ∨ valV kv (.inl (t' : Int) : Key) = none) : t' = m := by
  rcases ho with ho | ho
  · omega
  · by_cases c : t' < m
    · exact absurd ho (hin t' h0 c)
    · omega
theorem reach_at {kv : List (Key × V)} {ps : List Int} {m : Nat} {g : Int} (hK : Kp ps m m kv) (r : Reach kv (m : Int) g) : g = m := by
  by_cases c : g = m
  · exact c
  · have := r.le
    have h := r.all m (Int.le_refl _) (by omega)
    exact absurd (hK.out (Nat.le_refl m)) h
end G

set_option linter.all false
set_option maxRecDepth 100000
set_option maxHeartbeats 4000000
namespace G
open PySem PySem.Spec PyProof.Rows L2
theorem Sep.front {H0 H : Hp} {ft : List Addr} {l : List Cell} (S : Sep H0 ft H l) (n : Nat) : Sep H0 ft H (l.take n) :=
  ⟨List.Sublist.nodup (List.Sublist.map _ (List.take_sublist n l)) S.nd, fun c hc => S.rd c (List.mem_of_mem_take hc), S.fr, fun c hc => S.wr c (List.mem_of_mem_take hc), fun c hc => S.nw c (List.mem_of_mem_take hc), S.ex⟩
theorem Sep.free {H0 H : Hp} {ft : List Addr} {l l' : List Cell} (S : Sep H0 ft H l) (e : l'.map (·.2) = l.map (·.2)) (h2 : ∀ c ∈ l', c.1 = 2) : Sep (fun _ => none) [] H l' := by
  have em : l'.map (·.2.1) = l.map (·.2.1) := by
    have := congrArg (List.map Prod.fst) e
    rw [List.map_map, List.map_map] at this
    exact this
  refine ⟨by rw [em]; exact S.nd, fun c hc => ?_, (fun _ _ h => nomatch h), fun c hc z => ?_, (fun _ _ _ => rfl), (fun _ h => nomatch h)⟩
  · have : c.2 ∈ l.map (·.2) := by rw [← e]; exact List.mem_map.mpr ⟨c, hc, rfl⟩
    obtain ⟨d, hd, ed⟩ := List.mem_map.mp this
    have := S.rd d hd
    rw [ed] at this
    exact this
  · rw [h2 c hc] at z; cases z
section
variable {P : Program} {w9 : World} {K : PySem.W.Frag} {mg : Str → Option Value} {base : Heap}
abbrev s_law_led : Stmt := (topS 18)
theorem sc_law_led : FnScope ["_law_giver", "_law_taker", "_law_pieces", "_law_many", "_law_turn", "_law_place", "_law_piece", "_law_got", "_law_room"] ["_law_giver", "_law_taker", "_law_pieces", "_law_many"] (defScope s_law_led) := ⟨rfl, rfl, rfl, by decide +kernel, rfl, by decide +kernel, by decide +kernel⟩
theorem ok_law_led {f : Addr} {fd : FuncData} {C CG : Addr} (F : L2.Fun K "_law_led" "_law_led" s_law_led f fd) (clp : Cal P w9 K mg base CX0 3 "_law_put" (spLPut CG)) (clt : Cal P w9 K mg base CX0 2 "_law_taken" (spLTk C)) (mmany : Met P w9 K mg base CX0 1 CG "many" (spMany CG)) (misshut : Met P w9 K mg base CX0 1 CG "is_shut" (spIsShut CG)) (mshut : Met P w9 K mg base CX0 1 CG "shut" (spShut0 CG)) (mwanted : Met P w9 K mg base CX0 1 CG "wanted" (spWanted CG)) (mheard : Met P w9 K mg base CX0 1 CG "heard" (spHeard CG)) (mcame : Met P w9 K mg base CX0 1 C "came" (spCame C)) (mends : Met P w9 K mg base CX0 1 C "ends" (spEnds C)) (mtold : Met P w9 K mg base CX0 1 C "told" (spTold C)) (misended : Met P w9 K mg base CX0 1 C "is_ended" (spIsEnded C)) (mhasall : Met P w9 K mg base CX0 2 C "has_all" (spHasAll C)) (z_len : mg "len" = none) (z_range : mg "range" = none) : FnOk P w9 K mg base CX0 4 f fd ["_law_giver", "_law_taker", "_law_pieces", "_law_many"] (spLed C CG) := by
  refine F.ok sc_law_led (fun vs H Q E h => ?_) (fun cdv A outer s H0 vs Q E hr h => ?_)
  · obtain ⟨o, dx, d, gp, dg, pl, pc, w, t, m, B, h, c, en, e, kv, ps, rfl, S, hW, hw1, hw2, hps, hkl, he, hen, k⟩ := h
    rfl
  · obtain ⟨o, dx, d, gp, dg, pl, pc, w, t, m, B, h, c, en, e, kv, ps, rfl, S, hW, hw1, hw2, hps, hkl, he, hen, k⟩ := h
    have hu := hu_of hr
    replace S : Sep (fun _ => none) [] H0 [(2, gp, .ins CG dg (F_Giver (B : Int) (h : Int) pl c)), (2, pl, .lst ((seg ps h m).map V.int)), (2, o, .ins C dx (F_Taker (w : Int) (t : Int) d e)), (2, d, .dK kv), (2, pc, .lst (ps.map V.int))] := S.free rfl (by simp)
    refine ⟨_, pss_cons (ps_for PassesOwn.never rfl (pi_range1 (by rfl) z_range (pa_cons (pe_op op_add (pe_callB (cl_lenK K) (by rfl) z_len PySem.boot_len (pa_cons (pv 2) pa_nil)) (pe_int)) pa_nil)) (pg_name (i := 4) sc_law_led.nd rfl (.inl rfl)) (pss_cons (ps_expr (pe_c clp hr (by decide) (by rfl) pass0 (pa_cons (pv 0) (pa_cons (pv 2) (pa_cons (pe_int) pa_nil)))))
      (pss_cons (ps_if ((pw_and (pt_cmpR op_eq (pe_mt0 mmany hr (by decide) pass0 (pv 0)) (pe_callB (cl_lenK K) (by rfl) z_len PySem.boot_len (pa_cons (pv 2) pa_nil)) (nomark _)) (pw_and1 (pt_not (pt_val (pe_mt0 misshut hr (by decide) pass0 (pv 0)))))).pt) (pss_one (ps_expr (pe_mt0 mshut hr (by decide) pass0 (pv 0)))) (pss_nil))
      (pss_cons (ps_for PassesOwn.never rfl (pi_listK K (pe_mt0 mwanted hr (by decide) pass0 (pv 0))) (pg_tupK K 2 rfl (pgs_cons (pg_name (i := 5) sc_law_led.nd rfl (.inl rfl)) (pgs_cons (pg_name (i := 6) sc_law_led.nd rfl (.inl rfl)) pgs_nil))) (pss_one (ps_expr (pe_mt mcame hr (by decide) pass0 (pv 1) (pa_cons (pv 5) (pa_cons (pv 6) pa_nil))))))
      (pss_cons (ps_if (pt_val (pe_mt0 misshut hr (by decide) pass0 (pv 0))) (pss_one (ps_expr (pe_mt mends hr (by decide) pass0 (pv 1) (pa_cons (pe_mt0 mmany hr (by decide) pass0 (pv 0)) pa_nil)))) (pss_nil))
      (pss_cons (ps_set (i := 3) sc_law_led.nd rfl (.inl rfl) (pe_c clt hr (by decide) (by rfl) pass0 (pa_cons (pv 1) (pa_cons (pv 2) (pa_cons (pv 3) (pa_cons (pe_int) pa_nil))))))
      (pss_cons (ps_if (pt_cmpR op_lt (pv 3) (pe_int) (nomark _)) (pss_one (ps_never)) (pss_nil))
      (pss_cons (ps_asg (pe_mt0 mtold hr (by decide) pass0 (pv 1)) (pg_tup rfl (pgs_cons (pg_name (i := 7) sc_law_led.nd rfl (.inl rfl)) (pgs_cons (pg_name (i := 8) sc_law_led.nd rfl (.inl rfl)) (pgs_nil)))))
      (pss_one (ps_expr (pe_mt mheard hr (by decide) pass0 (pv 0) (pa_cons (pv 7) (pa_cons (pv 8) pa_nil)))))))))))))
      (pss_one (ps_ret (pe_and (pe_cmpR op_eq (pv 3) (pe_callB (cl_lenK K) (by rfl) z_len PySem.boot_len (pa_cons (pv 2) pa_nil)) (nomark _)) (pe_and (pe_cmpR (op_eqDK K hr.units) (pe_mt0 mwanted hr (by decide) pass0 (pv 0)) (pe_lst1 pa_nil) (nomark _)) (pe_and (pe_mt0 misended hr (by decide) pass0 (pv 1)) (pe_one (pe_mt0 mhasall hr (by decide) pass0 (pv 1)))))))), ?_⟩
    rw [show start ["_law_giver", "_law_taker", "_law_pieces", "_law_many", "_law_turn", "_law_place", "_law_piece", "_law_got", "_law_room"] [V.ref gp, V.ref o, V.ref pc, V.int t] = [some (V.ref gp), some (V.ref o), some (V.ref pc), some (V.int t), none, none, none, none, none] from rfl]
    try dsimp only [tMethS1, WE, tSeq, tAsg, gName, tOp, tUn, tCB, tCons, tNil, tCall, tMethK1, tCallK1, tPar3, tRet, tRetN, tDrop, tTest, tB, tC, tNext, tAugS, tAug, sFld1, sFldAug1, tMeth1, tMake, tMakeK1, tSl, tPart, tNoPart, sDPut1, tDPop, tBM, tBM0, tPar, gSub, tChain, tNot, tNotV, tDG1, tDG2, tDNewT1, iKeys1, iEnum1, iList1, iTup1, iRng1, iRng2, List.set_cons_zero, List.set_cons_succ]
    refine x_for ?_
    try dsimp only [tOp, tUn, tCB, tCons, tNil, tCall, tMethK1, tCallK1, tC, tMeth1, tMake, tMakeK1, tSl, tPart, tNoPart, tDPop, tChain, tNotV, tBM, tBM0, tDG1, tDG2, tDNewT1, iKeys1, iEnum1, iList1, iTup1, iRng1, iRng2]
    refine x_var (by exact rfl) ?_
    refine x_lenI S 4 (by exact rfl) ?_
    refine x_I0 ?_
    refine ⟨_, rfl, by omega, by omega, ?_⟩
    refine forR (fun i σ H1 => ∃ (B h m t : Nat) (pl : Addr) (c en : Bool) (e : V) (kv : List (Key × V)) (q1 q2 q3 q4 q5 : Option V), σ = [some (.ref gp), some (.ref o), some (.ref pc), some (.int (t : Nat)), q1, q2, q3, q4, q5] ∧ Way ps w B h m t c kv ∧ EndE en ps e ∧ (en = true → m = ps.length) ∧ kv.length ≤ 20000 + 100 * i ∧ (1 ≤ i → t = m ∧ h = m ∧ B = m + w ∧ min ps.length (i - 1) ≤ m ∧ (m = ps.length → c = true ∧ en = true)) ∧ Sep (fun _ => none) [] H1 [(2, gp, .ins CG dg (F_Giver (B : Int) (h : Int) pl c)), (2, pl, .lst ((seg ps h m).map V.int)), (2, o, .ins C dx (F_Taker (w : Int) (t : Int) d e)), (2, d, .dK kv), (2, pc, .lst (ps.map V.int))]) ?_ ?_ ?_
    · exact ⟨B, h, m, t, pl, c, en, e, kv, _, _, _, _, _, rfl, hW, he, hen, by omega, (fun z => absurd z (by omega)), S⟩
    · rintro i σ H hi ⟨B, h, m, t, pl, c, en, e, kv, q1, q2, q3, q4, q5, rfl, hW, he, hen, hkl, hpr, S⟩
      try dsimp only [tMethS1, WE, tSeq, tAsg, gName, tOp, tUn, tCB, tCons, tNil, tCall, tMethK1, tCallK1, tPar3, tRet, tRetN, tDrop, tTest, tB, tC, tNext, tAugS, tAug, sFld1, sFldAug1, tMeth1, tMake, tMakeK1, tSl, tPart, tNoPart, sDPut1, tDPop, tBM, tBM0, tPar, gSub, tChain, tNot, tNotV, tDG1, tDG2, tDNewT1, iKeys1, iEnum1, iList1, iTup1, iRng1, iRng2, List.set_cons_zero, List.set_cons_succ]
      try dsimp only [tMethS1, WE, tSeq, tAsg, gName, tOp, tUn, tCB, tCons, tNil, tCall, tMethK1, tCallK1, tPar3, tRet, tRetN, tDrop, tTest, tB, tC, tNext, tAugS, tAug, sFld1, sFldAug1, tMeth1, tMake, tMakeK1, tSl, tPart, tNoPart, sDPut1, tDPop, tBM, tBM0, tPar, gSub, tChain, tNot, tNotV, tDG1, tDG2, tDNewT1, iKeys1, iEnum1, iList1, iTup1, iRng1, iRng2, List.set_cons_zero, List.set_cons_succ]
      refine x_var (by exact rfl) ?_
      refine x_var (by exact rfl) ?_
      refine ⟨_, _, _, _, B, h, m, 70, c, ps, rfl, S.pre [(0, 0), (1, 1), (0, 4)], hW.hm, hW.ml, hps, hW.mB, hW.sh, by omega, fun H e1 F => ?_⟩
      have S := S.chg1 1 rfl F e1
      simp only [List.set_cons_zero, List.set_cons_succ] at S
      have hBt := hW.Bt
      have htm := hW.tm
      have hmB := hW.mB
      have hhm := hW.hm
      have hml := hW.ml
      obtain ⟨m1, hm1⟩ : ∃ m1, m1 = min (min ps.length B) (m + 70) := ⟨_, rfl⟩
      rw [← hm1] at S
      have hm1a : m1 ≤ ps.length ∧ m1 ≤ B ∧ m ≤ m1 ∧ (m1 = ps.length ∨ m1 = B) := by omega
      obtain ⟨hm1c, hm1d, hm1f, hm1e⟩ := hm1a
      clear hm1
      have hlen1 := len_seg (ps := ps) (h := h) (m := m1) (by omega) (by omega)
      have hK1 := hW.K.up (m' := m1) (by omega)
      try dsimp only [tMethS1, WE, tSeq, tAsg, gName, tOp, tUn, tCB, tCons, tNil, tCall, tMethK1, tCallK1, tPar3, tRet, tRetN, tDrop, tTest, tB, tC, tNext, tAugS, tAug, sFld1, sFldAug1, tMeth1, tMake, tMakeK1, tSl, tPart, tNoPart, sDPut1, tDPop, tBM, tBM0, tPar, gSub, tChain, tNot, tNotV, tDG1, tDG2, tDNewT1, iKeys1, iEnum1, iList1, iTup1, iRng1, iRng2, List.set_cons_zero, List.set_cons_succ]
      refine x_if ?_
      try dsimp only [tMethS1, WE, tSeq, tAsg, gName, tOp, tUn, tCB, tCons, tNil, tCall, tMethK1, tCallK1, tPar3, tRet, tRetN, tDrop, tTest, tB, tC, tNext, tAugS, tAug, sFld1, sFldAug1, tMeth1, tMake, tMakeK1, tSl, tPart, tNoPart, sDPut1, tDPop, tBM, tBM0, tPar, gSub, tChain, tNot, tNotV, tDG1, tDG2, tDNewT1, iKeys1, iEnum1, iList1, iTup1, iRng1, iRng2, List.set_cons_zero, List.set_cons_succ]
      refine x_and ?_
      try dsimp only [tMethS1, WE, tSeq, tAsg, gName, tOp, tUn, tCB, tCons, tNil, tCall, tMethK1, tCallK1, tPar3, tRet, tRetN, tDrop, tTest, tB, tC, tNext, tAugS, tAug, sFld1, sFldAug1, tMeth1, tMake, tMakeK1, tSl, tPart, tNoPart, sDPut1, tDPop, tBM, tBM0, tPar, gSub, tChain, tNot, tNotV, tDG1, tDG2, tDNewT1, iKeys1, iEnum1, iList1, iTup1, iRng1, iRng2, List.set_cons_zero, List.set_cons_succ]
      refine x_var (by exact rfl) ?_
      refine x_meth S 0 (by exact rfl) nk_Giver_many ?_
      refine c_many S 0 1 (by exact rfl) (by exact rfl) ?_
      refine x_var (by exact rfl) ?_
      refine x_lenI S 4 (by exact rfl) ?_
      refine x_eq ?_
      refine ⟨_, rfl, ?_⟩
      refine iteq (fun c1 => ?_) (fun c1 => ?_)
      · refine x_var (by exact rfl) ?_
        refine x_meth S 0 (by exact rfl) nk_Giver_is_shut ?_
        refine c_isshut S 0 (by exact rfl) ?_
        refine ⟨_, rfl, ?_⟩
        refine itnb (fun c2 => ?_) (fun c2 => ?_)
        · subst c2
          try dsimp only [tMethS1, WE, tSeq, tAsg, gName, tOp, tUn, tCB, tCons, tNil, tCall, tMethK1, tCallK1, tPar3, tRet, tRetN, tDrop, tTest, tB, tC, tNext, tAugS, tAug, sFld1, sFldAug1, tMeth1, tMake, tMakeK1, tSl, tPart, tNoPart, sDPut1, tDPop, tBM, tBM0, tPar, gSub, tChain, tNot, tNotV, tDG1, tDG2, tDNewT1, iKeys1, iEnum1, iList1, iTup1, iRng1, iRng2, List.set_cons_zero, List.set_cons_succ]
          refine x_var (by exact rfl) ?_
          refine x_meth S 0 (by exact rfl) nk_Giver_shut ?_
          refine c_shut0 S 0 (by exact rfl) (fun H S => ?_)
          simp only [List.set_cons_zero, List.set_cons_succ] at S
          try dsimp only [tMethS1, WE, tSeq, tAsg, gName, tOp, tUn, tCB, tCons, tNil, tCall, tMethK1, tCallK1, tPar3, tRet, tRetN, tDrop, tTest, tB, tC, tNext, tAugS, tAug, sFld1, sFldAug1, tMeth1, tMake, tMakeK1, tSl, tPart, tNoPart, sDPut1, tDPop, tBM, tBM0, tPar, gSub, tChain, tNot, tNotV, tDG1, tDG2, tDNewT1, iKeys1, iEnum1, iList1, iTup1, iRng1, iRng2, List.set_cons_zero, List.set_cons_succ]
          refine x_for ?_
          try dsimp only [tOp, tUn, tCB, tCons, tNil, tCall, tMethK1, tCallK1, tC, tMeth1, tMake, tMakeK1, tSl, tPart, tNoPart, tDPop, tChain, tNotV, tBM, tBM0, tDG1, tDG2, tDNewT1, iKeys1, iEnum1, iList1, iTup1, iRng1, iRng2]
          refine x_var (by exact rfl) ?_
          refine x_meth S 0 (by exact rfl) nk_Giver_wanted ?_
          refine ⟨_, _, _, _, _, _, _, rfl, S.get 0 rfl, S.get 1 rfl, by omega, fun wr ws M H hM hWn S9 => ?_⟩
          have S := (S.callN S9 (fun c hc => (List.mem_cons.mp hc).elim (fun e => by rw [e]) (hM c))).tail 5
          rw [List.drop_eq_nil_of_le (by exact Nat.le_of_ble_eq_true rfl), List.append_nil] at S
          dsimp only [List.take_succ_cons, List.take_zero, List.drop_succ_cons, List.drop_zero, List.cons_append, List.nil_append, List.append_nil] at S
          refine x_ilist S 5 (by exact rfl) ?_
          refine forW (walk_list (xs := ws)) (fun j σ H1 => ∃ (kk : List (Key × V)) (q2 q3 : Option V), σ = [some (.ref gp), some (.ref o), some (.ref pc), some (.int (t : Nat)), some (.int (0 + (i : Nat))), q2, q3, q4, q5] ∧ Kp ps t m1 kk ∧ kk.length ≤ kv.length + j ∧ (∀ i : Int, valV kv (.inl i : Key) ≠ none → valV kk (.inl i : Key) ≠ none) ∧ (∀ a : Nat, a < j → t ≤ h + a → valV kk (.inl ((h + a : Nat) : Int) : Key) ≠ none) ∧ Sep (fun _ => none) [] H1 ((2, gp, .ins CG dg (F_Giver (B : Int) (h : Int) pl true)) :: (2, pl, .lst ((seg ps h m1).map V.int)) :: (2, o, .ins C dx (F_Taker (w : Int) (t : Int) d e)) :: (2, d, .dK kk) :: (2, pc, .lst (ps.map V.int)) :: (2, wr, .lst ws) :: M)) ?_ ?_ ?_ ?_
          · exact ⟨kv, _, _, rfl, hK1, by omega, (fun _ h => h), (fun a ha => by omega), S⟩
          · rintro j σ H hi ⟨kk, q2, q3, rfl, hK2, hkl2, hkeep, hall, S⟩
            exact S.sl 5 rfl
          · rintro j y σ H H9 hi ⟨kk, q2, q3, rfl, hK2, hkl2, hkeep, hall, S⟩ hy
            obtain ⟨rfl, hy⟩ := hy
            obtain ⟨a9, x9, rfl, hx9, hc9⟩ := hWn.2 j _ hy
            obtain ⟨z9, hz9, rfl⟩ := elem_of hx9
            have hil := lt_of_get hz9
            have hsl := hlen1
            rw [List.length_map] at hsl
            have hpz : ps[h + j]? = some z9 := by unfold seg at hz9; rw [List.getElem?_take_of_lt (by omega), List.getElem?_drop] at hz9; exact hz9
            refine ⟨_, _, rfl, .of (S.cellT 6 hc9), rfl, _, _, rfl, _, _, rfl, rfl, ?_⟩
            try dsimp only [tMethS1, WE, tSeq, tAsg, gName, tOp, tUn, tCB, tCons, tNil, tCall, tMethK1, tCallK1, tPar3, tRet, tRetN, tDrop, tTest, tB, tC, tNext, tAugS, tAug, sFld1, sFldAug1, tMeth1, tMake, tMakeK1, tSl, tPart, tNoPart, sDPut1, tDPop, tBM, tBM0, tPar, gSub, tChain, tNot, tNotV, tDG1, tDG2, tDNewT1, iKeys1, iEnum1, iList1, iTup1, iRng1, iRng2, List.set_cons_zero, List.set_cons_succ]
            try dsimp only [tMethS1, WE, tSeq, tAsg, gName, tOp, tUn, tCB, tCons, tNil, tCall, tMethK1, tCallK1, tPar3, tRet, tRetN, tDrop, tTest, tB, tC, tNext, tAugS, tAug, sFld1, sFldAug1, tMeth1, tMake, tMakeK1, tSl, tPart, tNoPart, sDPut1, tDPop, tBM, tBM0, tPar, gSub, tChain, tNot, tNotV, tDG1, tDG2, tDNewT1, iKeys1, iEnum1, iList1, iTup1, iRng1, iRng2, List.set_cons_zero, List.set_cons_succ]
            refine x_var (by exact rfl) ?_
            refine x_meth S 2 (by exact rfl) nk_Taker_came ?_
            refine x_var (by exact rfl) ?_
            refine x_var (by exact rfl) ?_
            refine c_came S 2 3 (by exact rfl) (by exact rfl) (by omega) (fun H S => ?_)
            simp only [List.set_cons_zero, List.set_cons_succ] at S
            rw [show (h : Int) + (j : Nat) = ((h + j : Nat) : Int) from rfl] at S
            have hcl := len_cam (t := t) (w := w) (y := ((h + j : Nat) : Int)) (k := kk) (v := .int z9)
            refine ⟨_, _, _, rfl, hK2.cam (by omega) hpz, by omega, fun i hi => cam_keep (hkeep i hi), fun a ha hta => ?_, S⟩
            by_cases ea : a = j
            · subst ea; exact cam_in hta (by omega)
            · exact cam_keep (hall a (by omega) hta)
          · rintro σ H ⟨kk, q2, q3, rfl, hK2, hkl2, hkeep, hall, S⟩
            have hwl := hWn.1
            rw [hwl, hlen1] at hall hkl2
            have hin : ∀ i : Nat, t ≤ i → i < m1 → valV kk (.inl (i : Int) : Key) ≠ none := fun i a b => by
              by_cases ci : i < h
              · exact hkeep _ (hW.hk i a ci)
              · have := hall (i - h) (by omega) (by omega)
                rw [show h + (i - h) = i by omega] at this
                exact this
            try dsimp only [tMethS1, WE, tSeq, tAsg, gName, tOp, tUn, tCB, tCons, tNil, tCall, tMethK1, tCallK1, tPar3, tRet, tRetN, tDrop, tTest, tB, tC, tNext, tAugS, tAug, sFld1, sFldAug1, tMeth1, tMake, tMakeK1, tSl, tPart, tNoPart, sDPut1, tDPop, tBM, tBM0, tPar, gSub, tChain, tNot, tNotV, tDG1, tDG2, tDNewT1, iKeys1, iEnum1, iList1, iTup1, iRng1, iRng2, List.set_cons_zero, List.set_cons_succ]
            try dsimp only [tMethS1, WE, tSeq, tAsg, gName, tOp, tUn, tCB, tCons, tNil, tCall, tMethK1, tCallK1, tPar3, tRet, tRetN, tDrop, tTest, tB, tC, tNext, tAugS, tAug, sFld1, sFldAug1, tMeth1, tMake, tMakeK1, tSl, tPart, tNoPart, sDPut1, tDPop, tBM, tBM0, tPar, gSub, tChain, tNot, tNotV, tDG1, tDG2, tDNewT1, iKeys1, iEnum1, iList1, iTup1, iRng1, iRng2, List.set_cons_zero, List.set_cons_succ]
            refine x_if ?_
            try dsimp only [tMethS1, WE, tSeq, tAsg, gName, tOp, tUn, tCB, tCons, tNil, tCall, tMethK1, tCallK1, tPar3, tRet, tRetN, tDrop, tTest, tB, tC, tNext, tAugS, tAug, sFld1, sFldAug1, tMeth1, tMake, tMakeK1, tSl, tPart, tNoPart, sDPut1, tDPop, tBM, tBM0, tPar, gSub, tChain, tNot, tNotV, tDG1, tDG2, tDNewT1, iKeys1, iEnum1, iList1, iTup1, iRng1, iRng2, List.set_cons_zero, List.set_cons_succ]
            refine x_var (by exact rfl) ?_
            refine x_meth S 0 (by exact rfl) nk_Giver_is_shut ?_
            refine c_isshut S 0 (by exact rfl) ?_
            refine ⟨_, rfl, ?_⟩
            refine iteT ?_
            try dsimp only [tMethS1, WE, tSeq, tAsg, gName, tOp, tUn, tCB, tCons, tNil, tCall, tMethK1, tCallK1, tPar3, tRet, tRetN, tDrop, tTest, tB, tC, tNext, tAugS, tAug, sFld1, sFldAug1, tMeth1, tMake, tMakeK1, tSl, tPart, tNoPart, sDPut1, tDPop, tBM, tBM0, tPar, gSub, tChain, tNot, tNotV, tDG1, tDG2, tDNewT1, iKeys1, iEnum1, iList1, iTup1, iRng1, iRng2, List.set_cons_zero, List.set_cons_succ]
            refine x_var (by exact rfl) ?_
            refine x_meth S 2 (by exact rfl) nk_Taker_ends ?_
            refine x_var (by exact rfl) ?_
            refine x_meth S 0 (by exact rfl) nk_Giver_many ?_
            refine c_many S 0 1 (by exact rfl) (by exact rfl) ?_
            refine c_ends S 2 (by exact rfl) (fun H S => ?_)
            simp only [List.set_cons_zero, List.set_cons_succ] at S
            try dsimp only [tMethS1, WE, tSeq, tAsg, gName, tOp, tUn, tCB, tCons, tNil, tCall, tMethK1, tCallK1, tPar3, tRet, tRetN, tDrop, tTest, tB, tC, tNext, tAugS, tAug, sFld1, sFldAug1, tMeth1, tMake, tMakeK1, tSl, tPart, tNoPart, sDPut1, tDPop, tBM, tBM0, tPar, gSub, tChain, tNot, tNotV, tDG1, tDG2, tDNewT1, iKeys1, iEnum1, iList1, iTup1, iRng1, iRng2, List.set_cons_zero, List.set_cons_succ]
            refine x_var (by exact rfl) ?_
            refine x_var (by exact rfl) ?_
            refine x_var (by exact rfl) ?_
            refine ⟨_, _, _, _, _, t, m1, 70, _, _, ps, rfl, S.pre [(1, 2), (1, 3), (0, 4)], hK2, by omega, by omega, fun t2 kv2 H gt1 gt2 gt3 gt4 gt5 gt6 gt7 e1 e2 F => ?_⟩
            have S := S.chg2 2 3 rfl rfl (by decide) F e1 e2
            simp only [List.set_cons_zero, List.set_cons_succ] at S
            obtain rfl : m1 = t2 := (took_all (ps := ps) hw2 (by omega) (gt2 (by omega)) hin gt1 gt6).symm
            try dsimp only [tMethS1, WE, tSeq, tAsg, gName, tOp, tUn, tCB, tCons, tNil, tCall, tMethK1, tCallK1, tPar3, tRet, tRetN, tDrop, tTest, tB, tC, tNext, tAugS, tAug, sFld1, sFldAug1, tMeth1, tMake, tMakeK1, tSl, tPart, tNoPart, sDPut1, tDPop, tBM, tBM0, tPar, gSub, tChain, tNot, tNotV, tDG1, tDG2, tDNewT1, iKeys1, iEnum1, iList1, iTup1, iRng1, iRng2, List.set_cons_zero, List.set_cons_succ]
            refine x_if ?_
            try dsimp only [tMethS1, WE, tSeq, tAsg, gName, tOp, tUn, tCB, tCons, tNil, tCall, tMethK1, tCallK1, tPar3, tRet, tRetN, tDrop, tTest, tB, tC, tNext, tAugS, tAug, sFld1, sFldAug1, tMeth1, tMake, tMakeK1, tSl, tPart, tNoPart, sDPut1, tDPop, tBM, tBM0, tPar, gSub, tChain, tNot, tNotV, tDG1, tDG2, tDNewT1, iKeys1, iEnum1, iList1, iTup1, iRng1, iRng2, List.set_cons_zero, List.set_cons_succ]
            refine x_var (by exact rfl) ?_
            refine x_I0 ?_
            refine ⟨_, rfl, ?_⟩
            refine ited (fun c4 => ?_) (fun c4 => ?_)
            · exact absurd c4 (by omega)
            · try dsimp only [tMethS1, WE, tSeq, tAsg, gName, tOp, tUn, tCB, tCons, tNil, tCall, tMethK1, tCallK1, tPar3, tRet, tRetN, tDrop, tTest, tB, tC, tNext, tAugS, tAug, sFld1, sFldAug1, tMeth1, tMake, tMakeK1, tSl, tPart, tNoPart, sDPut1, tDPop, tBM, tBM0, tPar, gSub, tChain, tNot, tNotV, tDG1, tDG2, tDNewT1, iKeys1, iEnum1, iList1, iTup1, iRng1, iRng2, List.set_cons_zero, List.set_cons_succ]
              refine x_var (by exact rfl) ?_
              refine x_meth S 2 (by exact rfl) nk_Taker_told ?_
              refine c_told S 2 3 (by exact rfl) (by exact rfl) (fun g2 ug2 H rg2 S => ?_)
              obtain rfl := reach_at gt3 rg2
              refine ⟨_, _, rfl, S.st 0 rfl, rfl, _, _, rfl, _, _, rfl, rfl, ?_⟩
              try dsimp only [tMethS1, WE, tSeq, tAsg, gName, tOp, tUn, tCB, tCons, tNil, tCall, tMethK1, tCallK1, tPar3, tRet, tRetN, tDrop, tTest, tB, tC, tNext, tAugS, tAug, sFld1, sFldAug1, tMeth1, tMake, tMakeK1, tSl, tPart, tNoPart, sDPut1, tDPop, tBM, tBM0, tPar, gSub, tChain, tNot, tNotV, tDG1, tDG2, tDNewT1, iKeys1, iEnum1, iList1, iTup1, iRng1, iRng2, List.set_cons_zero, List.set_cons_succ]
              refine x_var (by exact rfl) ?_
              refine x_meth S 1 (by exact rfl) nk_Giver_heard ?_
              refine x_var (by exact rfl) ?_
              refine x_var (by exact rfl) ?_
              refine c_heard S 1 2 (by exact rfl) (by exact rfl) (fun pn2 H S => ?_)
              simp only [List.set_cons_zero, List.set_cons_succ] at S
              have he2 : (if e = V.non then V.int ((h : Int) + ((List.map V.int (seg ps h m1)).length : Nat)) else e) = .int (ps.length : Nat) := by
                cases en with
                | true => (have he3 : e = .int (ps.length : Nat) := he; subst he3; rw [if_neg (by intro z; cases z)])
                | false => (have he3 : e = .non := he; subst he3; rw [if_pos rfl, show (h : Int) + ((List.map V.int (seg ps h m1)).length : Nat) = (ps.length : Nat) by omega])
              rw [he2] at S
              rw [seg_drop (by omega) (Nat.le_refl _), show max h m1 = m1 by omega, show (h : Int) + max ((m1 : Int) - h) 0 = (m1 : Int) by omega, show max (B : Int) ((m1 : Int) + w) = ((m1 + w : Nat) : Int) by omega] at S
              replace S := S.subT 8 [2, 0, 4, 5, 6]
              have S : Sep (fun _ => none) [] H [(2, gp, .ins CG dg (F_Giver ((m1 + w : Nat) : Int) (m1 : Int) pn2 true)), (2, pn2, .lst ((seg ps m1 m1).map V.int)), (2, o, .ins C dx (F_Taker (w : Int) (m1 : Int) d (.int (ps.length : Nat)))), (2, d, .dK kv2), (2, pc, .lst (ps.map V.int))] := Sep.front S 5
              exact ⟨m1 + w, m1, m1, m1, pn2, true, true, _, kv2, _, _, _, _, _, rfl, ⟨Nat.le_refl _, by omega, by omega, Nat.le_refl _, Nat.le_refl _, gt3, fun i a b => by omega, fun _ => by omega⟩, rfl, (fun _ => by omega), by omega, (fun _ => ⟨rfl, rfl, rfl, by omega, fun _ => ⟨rfl, rfl⟩⟩), S⟩
        · subst c2
          try dsimp only [tMethS1, WE, tSeq, tAsg, gName, tOp, tUn, tCB, tCons, tNil, tCall, tMethK1, tCallK1, tPar3, tRet, tRetN, tDrop, tTest, tB, tC, tNext, tAugS, tAug, sFld1, sFldAug1, tMeth1, tMake, tMakeK1, tSl, tPart, tNoPart, sDPut1, tDPop, tBM, tBM0, tPar, gSub, tChain, tNot, tNotV, tDG1, tDG2, tDNewT1, iKeys1, iEnum1, iList1, iTup1, iRng1, iRng2, List.set_cons_zero, List.set_cons_succ]
          refine x_for ?_
          try dsimp only [tOp, tUn, tCB, tCons, tNil, tCall, tMethK1, tCallK1, tC, tMeth1, tMake, tMakeK1, tSl, tPart, tNoPart, tDPop, tChain, tNotV, tBM, tBM0, tDG1, tDG2, tDNewT1, iKeys1, iEnum1, iList1, iTup1, iRng1, iRng2]
          refine x_var (by exact rfl) ?_
          refine x_meth S 0 (by exact rfl) nk_Giver_wanted ?_
          refine ⟨_, _, _, _, _, _, _, rfl, S.get 0 rfl, S.get 1 rfl, by omega, fun wr ws M H hM hWn S9 => ?_⟩
          have S := (S.callN S9 (fun c hc => (List.mem_cons.mp hc).elim (fun e => by rw [e]) (hM c))).tail 5
          rw [List.drop_eq_nil_of_le (by exact Nat.le_of_ble_eq_true rfl), List.append_nil] at S
          dsimp only [List.take_succ_cons, List.take_zero, List.drop_succ_cons, List.drop_zero, List.cons_append, List.nil_append, List.append_nil] at S
          refine x_ilist S 5 (by exact rfl) ?_
          refine forW (walk_list (xs := ws)) (fun j σ H1 => ∃ (kk : List (Key × V)) (q2 q3 : Option V), σ = [some (.ref gp), some (.ref o), some (.ref pc), some (.int (t : Nat)), some (.int (0 + (i : Nat))), q2, q3, q4, q5] ∧ Kp ps t m1 kk ∧ kk.length ≤ kv.length + j ∧ (∀ i : Int, valV kv (.inl i : Key) ≠ none → valV kk (.inl i : Key) ≠ none) ∧ (∀ a : Nat, a < j → t ≤ h + a → valV kk (.inl ((h + a : Nat) : Int) : Key) ≠ none) ∧ Sep (fun _ => none) [] H1 ((2, gp, .ins CG dg (F_Giver (B : Int) (h : Int) pl true)) :: (2, pl, .lst ((seg ps h m1).map V.int)) :: (2, o, .ins C dx (F_Taker (w : Int) (t : Int) d e)) :: (2, d, .dK kk) :: (2, pc, .lst (ps.map V.int)) :: (2, wr, .lst ws) :: M)) ?_ ?_ ?_ ?_
          · exact ⟨kv, _, _, rfl, hK1, by omega, (fun _ h => h), (fun a ha => by omega), S⟩
          · rintro j σ H hi ⟨kk, q2, q3, rfl, hK2, hkl2, hkeep, hall, S⟩
            exact S.sl 5 rfl
          · rintro j y σ H H9 hi ⟨kk, q2, q3, rfl, hK2, hkl2, hkeep, hall, S⟩ hy
            obtain ⟨rfl, hy⟩ := hy
            obtain ⟨a9, x9, rfl, hx9, hc9⟩ := hWn.2 j _ hy
            obtain ⟨z9, hz9, rfl⟩ := elem_of hx9
            have hil := lt_of_get hz9
            have hsl := hlen1
            rw [List.length_map] at hsl
            have hpz : ps[h + j]? = some z9 := by unfold seg at hz9; rw [List.getElem?_take_of_lt (by omega), List.getElem?_drop] at hz9; exact hz9
            refine ⟨_, _, rfl, .of (S.cellT 6 hc9), rfl, _, _, rfl, _, _, rfl, rfl, ?_⟩
            try dsimp only [tMethS1, WE, tSeq, tAsg, gName, tOp, tUn, tCB, tCons, tNil, tCall, tMethK1, tCallK1, tPar3, tRet, tRetN, tDrop, tTest, tB, tC, tNext, tAugS, tAug, sFld1, sFldAug1, tMeth1, tMake, tMakeK1, tSl, tPart, tNoPart, sDPut1, tDPop, tBM, tBM0, tPar, gSub, tChain, tNot, tNotV, tDG1, tDG2, tDNewT1, iKeys1, iEnum1, iList1, iTup1, iRng1, iRng2, List.set_cons_zero, List.set_cons_succ]
            try dsimp only [tMethS1, WE, tSeq, tAsg, gName, tOp, tUn, tCB, tCons, tNil, tCall, tMethK1, tCallK1, tPar3, tRet, tRetN, tDrop, tTest, tB, tC, tNext, tAugS, tAug, sFld1, sFldAug1, tMeth1, tMake, tMakeK1, tSl, tPart, tNoPart, sDPut1, tDPop, tBM, tBM0, tPar, gSub, tChain, tNot, tNotV, tDG1, tDG2, tDNewT1, iKeys1, iEnum1, iList1, iTup1, iRng1, iRng2, List.set_cons_zero, List.set_cons_succ]
            refine x_var (by exact rfl) ?_
            refine x_meth S 2 (by exact rfl) nk_Taker_came ?_
            refine x_var (by exact rfl) ?_
            refine x_var (by exact rfl) ?_
            refine c_came S 2 3 (by exact rfl) (by exact rfl) (by omega) (fun H S => ?_)
            simp only [List.set_cons_zero, List.set_cons_succ] at S
            rw [show (h : Int) + (j : Nat) = ((h + j : Nat) : Int) from rfl] at S
            have hcl := len_cam (t := t) (w := w) (y := ((h + j : Nat) : Int)) (k := kk) (v := .int z9)
            refine ⟨_, _, _, rfl, hK2.cam (by omega) hpz, by omega, fun i hi => cam_keep (hkeep i hi), fun a ha hta => ?_, S⟩
            by_cases ea : a = j
            · subst ea; exact cam_in hta (by omega)
            · exact cam_keep (hall a (by omega) hta)
          · rintro σ H ⟨kk, q2, q3, rfl, hK2, hkl2, hkeep, hall, S⟩
            have hwl := hWn.1
            rw [hwl, hlen1] at hall hkl2
            have hin : ∀ i : Nat, t ≤ i → i < m1 → valV kk (.inl (i : Int) : Key) ≠ none := fun i a b => by
              by_cases ci : i < h
              · exact hkeep _ (hW.hk i a ci)
              · have := hall (i - h) (by omega) (by omega)
                rw [show h + (i - h) = i by omega] at this
                exact this
            try dsimp only [tMethS1, WE, tSeq, tAsg, gName, tOp, tUn, tCB, tCons, tNil, tCall, tMethK1, tCallK1, tPar3, tRet, tRetN, tDrop, tTest, tB, tC, tNext, tAugS, tAug, sFld1, sFldAug1, tMeth1, tMake, tMakeK1, tSl, tPart, tNoPart, sDPut1, tDPop, tBM, tBM0, tPar, gSub, tChain, tNot, tNotV, tDG1, tDG2, tDNewT1, iKeys1, iEnum1, iList1, iTup1, iRng1, iRng2, List.set_cons_zero, List.set_cons_succ]
            try dsimp only [tMethS1, WE, tSeq, tAsg, gName, tOp, tUn, tCB, tCons, tNil, tCall, tMethK1, tCallK1, tPar3, tRet, tRetN, tDrop, tTest, tB, tC, tNext, tAugS, tAug, sFld1, sFldAug1, tMeth1, tMake, tMakeK1, tSl, tPart, tNoPart, sDPut1, tDPop, tBM, tBM0, tPar, gSub, tChain, tNot, tNotV, tDG1, tDG2, tDNewT1, iKeys1, iEnum1, iList1, iTup1, iRng1, iRng2, List.set_cons_zero, List.set_cons_succ]
            refine x_if ?_
            try dsimp only [tMethS1, WE, tSeq, tAsg, gName, tOp, tUn, tCB, tCons, tNil, tCall, tMethK1, tCallK1, tPar3, tRet, tRetN, tDrop, tTest, tB, tC, tNext, tAugS, tAug, sFld1, sFldAug1, tMeth1, tMake, tMakeK1, tSl, tPart, tNoPart, sDPut1, tDPop, tBM, tBM0, tPar, gSub, tChain, tNot, tNotV, tDG1, tDG2, tDNewT1, iKeys1, iEnum1, iList1, iTup1, iRng1, iRng2, List.set_cons_zero, List.set_cons_succ]
            refine x_var (by exact rfl) ?_
            refine x_meth S 0 (by exact rfl) nk_Giver_is_shut ?_
            refine c_isshut S 0 (by exact rfl) ?_
            refine ⟨_, rfl, ?_⟩
            refine iteT ?_
            try dsimp only [tMethS1, WE, tSeq, tAsg, gName, tOp, tUn, tCB, tCons, tNil, tCall, tMethK1, tCallK1, tPar3, tRet, tRetN, tDrop, tTest, tB, tC, tNext, tAugS, tAug, sFld1, sFldAug1, tMeth1, tMake, tMakeK1, tSl, tPart, tNoPart, sDPut1, tDPop, tBM, tBM0, tPar, gSub, tChain, tNot, tNotV, tDG1, tDG2, tDNewT1, iKeys1, iEnum1, iList1, iTup1, iRng1, iRng2, List.set_cons_zero, List.set_cons_succ]
            refine x_var (by exact rfl) ?_
            refine x_meth S 2 (by exact rfl) nk_Taker_ends ?_
            refine x_var (by exact rfl) ?_
            refine x_meth S 0 (by exact rfl) nk_Giver_many ?_
            refine c_many S 0 1 (by exact rfl) (by exact rfl) ?_
            refine c_ends S 2 (by exact rfl) (fun H S => ?_)
            simp only [List.set_cons_zero, List.set_cons_succ] at S
            try dsimp only [tMethS1, WE, tSeq, tAsg, gName, tOp, tUn, tCB, tCons, tNil, tCall, tMethK1, tCallK1, tPar3, tRet, tRetN, tDrop, tTest, tB, tC, tNext, tAugS, tAug, sFld1, sFldAug1, tMeth1, tMake, tMakeK1, tSl, tPart, tNoPart, sDPut1, tDPop, tBM, tBM0, tPar, gSub, tChain, tNot, tNotV, tDG1, tDG2, tDNewT1, iKeys1, iEnum1, iList1, iTup1, iRng1, iRng2, List.set_cons_zero, List.set_cons_succ]
            refine x_var (by exact rfl) ?_
            refine x_var (by exact rfl) ?_
            refine x_var (by exact rfl) ?_
            refine ⟨_, _, _, _, _, t, m1, 70, _, _, ps, rfl, S.pre [(1, 2), (1, 3), (0, 4)], hK2, by omega, by omega, fun t2 kv2 H gt1 gt2 gt3 gt4 gt5 gt6 gt7 e1 e2 F => ?_⟩
            have S := S.chg2 2 3 rfl rfl (by decide) F e1 e2
            simp only [List.set_cons_zero, List.set_cons_succ] at S
            obtain rfl : m1 = t2 := (took_all (ps := ps) hw2 (by omega) (gt2 (by omega)) hin gt1 gt6).symm
            try dsimp only [tMethS1, WE, tSeq, tAsg, gName, tOp, tUn, tCB, tCons, tNil, tCall, tMethK1, tCallK1, tPar3, tRet, tRetN, tDrop, tTest, tB, tC, tNext, tAugS, tAug, sFld1, sFldAug1, tMeth1, tMake, tMakeK1, tSl, tPart, tNoPart, sDPut1, tDPop, tBM, tBM0, tPar, gSub, tChain, tNot, tNotV, tDG1, tDG2, tDNewT1, iKeys1, iEnum1, iList1, iTup1, iRng1, iRng2, List.set_cons_zero, List.set_cons_succ]
            refine x_if ?_
            try dsimp only [tMethS1, WE, tSeq, tAsg, gName, tOp, tUn, tCB, tCons, tNil, tCall, tMethK1, tCallK1, tPar3, tRet, tRetN, tDrop, tTest, tB, tC, tNext, tAugS, tAug, sFld1, sFldAug1, tMeth1, tMake, tMakeK1, tSl, tPart, tNoPart, sDPut1, tDPop, tBM, tBM0, tPar, gSub, tChain, tNot, tNotV, tDG1, tDG2, tDNewT1, iKeys1, iEnum1, iList1, iTup1, iRng1, iRng2, List.set_cons_zero, List.set_cons_succ]
            refine x_var (by exact rfl) ?_
            refine x_I0 ?_
            refine ⟨_, rfl, ?_⟩
            refine ited (fun c3 => ?_) (fun c3 => ?_)
            · exact absurd c3 (by omega)
            · try dsimp only [tMethS1, WE, tSeq, tAsg, gName, tOp, tUn, tCB, tCons, tNil, tCall, tMethK1, tCallK1, tPar3, tRet, tRetN, tDrop, tTest, tB, tC, tNext, tAugS, tAug, sFld1, sFldAug1, tMeth1, tMake, tMakeK1, tSl, tPart, tNoPart, sDPut1, tDPop, tBM, tBM0, tPar, gSub, tChain, tNot, tNotV, tDG1, tDG2, tDNewT1, iKeys1, iEnum1, iList1, iTup1, iRng1, iRng2, List.set_cons_zero, List.set_cons_succ]
              refine x_var (by exact rfl) ?_
              refine x_meth S 2 (by exact rfl) nk_Taker_told ?_
              refine c_told S 2 3 (by exact rfl) (by exact rfl) (fun g1 ug1 H rg1 S => ?_)
              obtain rfl := reach_at gt3 rg1
              refine ⟨_, _, rfl, S.st 0 rfl, rfl, _, _, rfl, _, _, rfl, rfl, ?_⟩
              try dsimp only [tMethS1, WE, tSeq, tAsg, gName, tOp, tUn, tCB, tCons, tNil, tCall, tMethK1, tCallK1, tPar3, tRet, tRetN, tDrop, tTest, tB, tC, tNext, tAugS, tAug, sFld1, sFldAug1, tMeth1, tMake, tMakeK1, tSl, tPart, tNoPart, sDPut1, tDPop, tBM, tBM0, tPar, gSub, tChain, tNot, tNotV, tDG1, tDG2, tDNewT1, iKeys1, iEnum1, iList1, iTup1, iRng1, iRng2, List.set_cons_zero, List.set_cons_succ]
              refine x_var (by exact rfl) ?_
              refine x_meth S 1 (by exact rfl) nk_Giver_heard ?_
              refine x_var (by exact rfl) ?_
              refine x_var (by exact rfl) ?_
              refine c_heard S 1 2 (by exact rfl) (by exact rfl) (fun pn1 H S => ?_)
              simp only [List.set_cons_zero, List.set_cons_succ] at S
              have he2 : (if e = V.non then V.int ((h : Int) + ((List.map V.int (seg ps h m1)).length : Nat)) else e) = .int (ps.length : Nat) := by
                cases en with
                | true => (have he3 : e = .int (ps.length : Nat) := he; subst he3; rw [if_neg (by intro z; cases z)])
                | false => (have he3 : e = .non := he; subst he3; rw [if_pos rfl, show (h : Int) + ((List.map V.int (seg ps h m1)).length : Nat) = (ps.length : Nat) by omega])
              rw [he2] at S
              rw [seg_drop (by omega) (Nat.le_refl _), show max h m1 = m1 by omega, show (h : Int) + max ((m1 : Int) - h) 0 = (m1 : Int) by omega, show max (B : Int) ((m1 : Int) + w) = ((m1 + w : Nat) : Int) by omega] at S
              replace S := S.subT 8 [2, 0, 4, 5, 6]
              have S : Sep (fun _ => none) [] H [(2, gp, .ins CG dg (F_Giver ((m1 + w : Nat) : Int) (m1 : Int) pn1 true)), (2, pn1, .lst ((seg ps m1 m1).map V.int)), (2, o, .ins C dx (F_Taker (w : Int) (m1 : Int) d (.int (ps.length : Nat)))), (2, d, .dK kv2), (2, pc, .lst (ps.map V.int))] := Sep.front S 5
              exact ⟨m1 + w, m1, m1, m1, pn1, true, true, _, kv2, _, _, _, _, _, rfl, ⟨Nat.le_refl _, by omega, by omega, Nat.le_refl _, Nat.le_refl _, gt3, fun i a b => by omega, fun _ => by omega⟩, rfl, (fun _ => by omega), by omega, (fun _ => ⟨rfl, rfl, rfl, by omega, fun _ => ⟨rfl, rfl⟩⟩), S⟩
      · refine iteF ?_
        try dsimp only [tMethS1, WE, tSeq, tAsg, gName, tOp, tUn, tCB, tCons, tNil, tCall, tMethK1, tCallK1, tPar3, tRet, tRetN, tDrop, tTest, tB, tC, tNext, tAugS, tAug, sFld1, sFldAug1, tMeth1, tMake, tMakeK1, tSl, tPart, tNoPart, sDPut1, tDPop, tBM, tBM0, tPar, gSub, tChain, tNot, tNotV, tDG1, tDG2, tDNewT1, iKeys1, iEnum1, iList1, iTup1, iRng1, iRng2, List.set_cons_zero, List.set_cons_succ]
        refine x_for ?_
        try dsimp only [tOp, tUn, tCB, tCons, tNil, tCall, tMethK1, tCallK1, tC, tMeth1, tMake, tMakeK1, tSl, tPart, tNoPart, tDPop, tChain, tNotV, tBM, tBM0, tDG1, tDG2, tDNewT1, iKeys1, iEnum1, iList1, iTup1, iRng1, iRng2]
        refine x_var (by exact rfl) ?_
        refine x_meth S 0 (by exact rfl) nk_Giver_wanted ?_
        refine ⟨_, _, _, _, _, _, _, rfl, S.get 0 rfl, S.get 1 rfl, by omega, fun wr ws M H hM hWn S9 => ?_⟩
        have S := (S.callN S9 (fun c hc => (List.mem_cons.mp hc).elim (fun e => by rw [e]) (hM c))).tail 5
        rw [List.drop_eq_nil_of_le (by exact Nat.le_of_ble_eq_true rfl), List.append_nil] at S
        dsimp only [List.take_succ_cons, List.take_zero, List.drop_succ_cons, List.drop_zero, List.cons_append, List.nil_append, List.append_nil] at S
        refine x_ilist S 5 (by exact rfl) ?_
        refine forW (walk_list (xs := ws)) (fun j σ H1 => ∃ (kk : List (Key × V)) (q2 q3 : Option V), σ = [some (.ref gp), some (.ref o), some (.ref pc), some (.int (t : Nat)), some (.int (0 + (i : Nat))), q2, q3, q4, q5] ∧ Kp ps t m1 kk ∧ kk.length ≤ kv.length + j ∧ (∀ i : Int, valV kv (.inl i : Key) ≠ none → valV kk (.inl i : Key) ≠ none) ∧ (∀ a : Nat, a < j → t ≤ h + a → valV kk (.inl ((h + a : Nat) : Int) : Key) ≠ none) ∧ Sep (fun _ => none) [] H1 ((2, gp, .ins CG dg (F_Giver (B : Int) (h : Int) pl c)) :: (2, pl, .lst ((seg ps h m1).map V.int)) :: (2, o, .ins C dx (F_Taker (w : Int) (t : Int) d e)) :: (2, d, .dK kk) :: (2, pc, .lst (ps.map V.int)) :: (2, wr, .lst ws) :: M)) ?_ ?_ ?_ ?_
        · exact ⟨kv, _, _, rfl, hK1, by omega, (fun _ h => h), (fun a ha => by omega), S⟩
        · rintro j σ H hi ⟨kk, q2, q3, rfl, hK2, hkl2, hkeep, hall, S⟩
          exact S.sl 5 rfl
        · rintro j y σ H H9 hi ⟨kk, q2, q3, rfl, hK2, hkl2, hkeep, hall, S⟩ hy
          obtain ⟨rfl, hy⟩ := hy
          obtain ⟨a9, x9, rfl, hx9, hc9⟩ := hWn.2 j _ hy
          obtain ⟨z9, hz9, rfl⟩ := elem_of hx9
          have hil := lt_of_get hz9
          have hsl := hlen1
          rw [List.length_map] at hsl
          have hpz : ps[h + j]? = some z9 := by unfold seg at hz9; rw [List.getElem?_take_of_lt (by omega), List.getElem?_drop] at hz9; exact hz9
          refine ⟨_, _, rfl, .of (S.cellT 6 hc9), rfl, _, _, rfl, _, _, rfl, rfl, ?_⟩
          try dsimp only [tMethS1, WE, tSeq, tAsg, gName, tOp, tUn, tCB, tCons, tNil, tCall, tMethK1, tCallK1, tPar3, tRet, tRetN, tDrop, tTest, tB, tC, tNext, tAugS, tAug, sFld1, sFldAug1, tMeth1, tMake, tMakeK1, tSl, tPart, tNoPart, sDPut1, tDPop, tBM, tBM0, tPar, gSub, tChain, tNot, tNotV, tDG1, tDG2, tDNewT1, iKeys1, iEnum1, iList1, iTup1, iRng1, iRng2, List.set_cons_zero, List.set_cons_succ]
          try dsimp only [tMethS1, WE, tSeq, tAsg, gName, tOp, tUn, tCB, tCons, tNil, tCall, tMethK1, tCallK1, tPar3, tRet, tRetN, tDrop, tTest, tB, tC, tNext, tAugS, tAug, sFld1, sFldAug1, tMeth1, tMake, tMakeK1, tSl, tPart, tNoPart, sDPut1, tDPop, tBM, tBM0, tPar, gSub, tChain, tNot, tNotV, tDG1, tDG2, tDNewT1, iKeys1, iEnum1, iList1, iTup1, iRng1, iRng2, List.set_cons_zero, List.set_cons_succ]
          refine x_var (by exact rfl) ?_
          refine x_meth S 2 (by exact rfl) nk_Taker_came ?_
          refine x_var (by exact rfl) ?_
          refine x_var (by exact rfl) ?_
          refine c_came S 2 3 (by exact rfl) (by exact rfl) (by omega) (fun H S => ?_)
          simp only [List.set_cons_zero, List.set_cons_succ] at S
          rw [show (h : Int) + (j : Nat) = ((h + j : Nat) : Int) from rfl] at S
          have hcl := len_cam (t := t) (w := w) (y := ((h + j : Nat) : Int)) (k := kk) (v := .int z9)
          refine ⟨_, _, _, rfl, hK2.cam (by omega) hpz, by omega, fun i hi => cam_keep (hkeep i hi), fun a ha hta => ?_, S⟩
          by_cases ea : a = j
          · subst ea; exact cam_in hta (by omega)
          · exact cam_keep (hall a (by omega) hta)
        · rintro σ H ⟨kk, q2, q3, rfl, hK2, hkl2, hkeep, hall, S⟩
          have hwl := hWn.1
          rw [hwl, hlen1] at hall hkl2
          have hin : ∀ i : Nat, t ≤ i → i < m1 → valV kk (.inl (i : Int) : Key) ≠ none := fun i a b => by
            by_cases ci : i < h
            · exact hkeep _ (hW.hk i a ci)
            · have := hall (i - h) (by omega) (by omega)
              rw [show h + (i - h) = i by omega] at this
              exact this
          try dsimp only [tMethS1, WE, tSeq, tAsg, gName, tOp, tUn, tCB, tCons, tNil, tCall, tMethK1, tCallK1, tPar3, tRet, tRetN, tDrop, tTest, tB, tC, tNext, tAugS, tAug, sFld1, sFldAug1, tMeth1, tMake, tMakeK1, tSl, tPart, tNoPart, sDPut1, tDPop, tBM, tBM0, tPar, gSub, tChain, tNot, tNotV, tDG1, tDG2, tDNewT1, iKeys1, iEnum1, iList1, iTup1, iRng1, iRng2, List.set_cons_zero, List.set_cons_succ]
          try dsimp only [tMethS1, WE, tSeq, tAsg, gName, tOp, tUn, tCB, tCons, tNil, tCall, tMethK1, tCallK1, tPar3, tRet, tRetN, tDrop, tTest, tB, tC, tNext, tAugS, tAug, sFld1, sFldAug1, tMeth1, tMake, tMakeK1, tSl, tPart, tNoPart, sDPut1, tDPop, tBM, tBM0, tPar, gSub, tChain, tNot, tNotV, tDG1, tDG2, tDNewT1, iKeys1, iEnum1, iList1, iTup1, iRng1, iRng2, List.set_cons_zero, List.set_cons_succ]
          refine x_if ?_
          try dsimp only [tMethS1, WE, tSeq, tAsg, gName, tOp, tUn, tCB, tCons, tNil, tCall, tMethK1, tCallK1, tPar3, tRet, tRetN, tDrop, tTest, tB, tC, tNext, tAugS, tAug, sFld1, sFldAug1, tMeth1, tMake, tMakeK1, tSl, tPart, tNoPart, sDPut1, tDPop, tBM, tBM0, tPar, gSub, tChain, tNot, tNotV, tDG1, tDG2, tDNewT1, iKeys1, iEnum1, iList1, iTup1, iRng1, iRng2, List.set_cons_zero, List.set_cons_succ]
          refine x_var (by exact rfl) ?_
          refine x_meth S 0 (by exact rfl) nk_Giver_is_shut ?_
          refine c_isshut S 0 (by exact rfl) ?_
          refine ⟨_, rfl, ?_⟩
          refine iteb (fun c5 => ?_) (fun c5 => ?_)
          · exfalso
            have := hW.sh c5
            omega
          · subst c5
            try dsimp only [tMethS1, WE, tSeq, tAsg, gName, tOp, tUn, tCB, tCons, tNil, tCall, tMethK1, tCallK1, tPar3, tRet, tRetN, tDrop, tTest, tB, tC, tNext, tAugS, tAug, sFld1, sFldAug1, tMeth1, tMake, tMakeK1, tSl, tPart, tNoPart, sDPut1, tDPop, tBM, tBM0, tPar, gSub, tChain, tNot, tNotV, tDG1, tDG2, tDNewT1, iKeys1, iEnum1, iList1, iTup1, iRng1, iRng2, List.set_cons_zero, List.set_cons_succ]
            refine x_var (by exact rfl) ?_
            refine x_var (by exact rfl) ?_
            refine x_var (by exact rfl) ?_
            refine ⟨_, _, _, _, _, t, m1, 70, _, _, ps, rfl, S.pre [(1, 2), (1, 3), (0, 4)], hK2, by omega, by omega, fun t2 kv2 H gt1 gt2 gt3 gt4 gt5 gt6 gt7 e1 e2 F => ?_⟩
            have S := S.chg2 2 3 rfl rfl (by decide) F e1 e2
            simp only [List.set_cons_zero, List.set_cons_succ] at S
            obtain rfl : m1 = t2 := (took_all (ps := ps) hw2 (by omega) (gt2 (by omega)) hin gt1 gt6).symm
            try dsimp only [tMethS1, WE, tSeq, tAsg, gName, tOp, tUn, tCB, tCons, tNil, tCall, tMethK1, tCallK1, tPar3, tRet, tRetN, tDrop, tTest, tB, tC, tNext, tAugS, tAug, sFld1, sFldAug1, tMeth1, tMake, tMakeK1, tSl, tPart, tNoPart, sDPut1, tDPop, tBM, tBM0, tPar, gSub, tChain, tNot, tNotV, tDG1, tDG2, tDNewT1, iKeys1, iEnum1, iList1, iTup1, iRng1, iRng2, List.set_cons_zero, List.set_cons_succ]
            refine x_if ?_
            try dsimp only [tMethS1, WE, tSeq, tAsg, gName, tOp, tUn, tCB, tCons, tNil, tCall, tMethK1, tCallK1, tPar3, tRet, tRetN, tDrop, tTest, tB, tC, tNext, tAugS, tAug, sFld1, sFldAug1, tMeth1, tMake, tMakeK1, tSl, tPart, tNoPart, sDPut1, tDPop, tBM, tBM0, tPar, gSub, tChain, tNot, tNotV, tDG1, tDG2, tDNewT1, iKeys1, iEnum1, iList1, iTup1, iRng1, iRng2, List.set_cons_zero, List.set_cons_succ]
            refine x_var (by exact rfl) ?_
            refine x_I0 ?_
            refine ⟨_, rfl, ?_⟩
            refine ited (fun c6 => ?_) (fun c6 => ?_)
            · exact absurd c6 (by omega)
            · try dsimp only [tMethS1, WE, tSeq, tAsg, gName, tOp, tUn, tCB, tCons, tNil, tCall, tMethK1, tCallK1, tPar3, tRet, tRetN, tDrop, tTest, tB, tC, tNext, tAugS, tAug, sFld1, sFldAug1, tMeth1, tMake, tMakeK1, tSl, tPart, tNoPart, sDPut1, tDPop, tBM, tBM0, tPar, gSub, tChain, tNot, tNotV, tDG1, tDG2, tDNewT1, iKeys1, iEnum1, iList1, iTup1, iRng1, iRng2, List.set_cons_zero, List.set_cons_succ]
              refine x_var (by exact rfl) ?_
              refine x_meth S 2 (by exact rfl) nk_Taker_told ?_
              refine c_told S 2 3 (by exact rfl) (by exact rfl) (fun g3 ug3 H rg3 S => ?_)
              obtain rfl := reach_at gt3 rg3
              refine ⟨_, _, rfl, S.st 0 rfl, rfl, _, _, rfl, _, _, rfl, rfl, ?_⟩
              try dsimp only [tMethS1, WE, tSeq, tAsg, gName, tOp, tUn, tCB, tCons, tNil, tCall, tMethK1, tCallK1, tPar3, tRet, tRetN, tDrop, tTest, tB, tC, tNext, tAugS, tAug, sFld1, sFldAug1, tMeth1, tMake, tMakeK1, tSl, tPart, tNoPart, sDPut1, tDPop, tBM, tBM0, tPar, gSub, tChain, tNot, tNotV, tDG1, tDG2, tDNewT1, iKeys1, iEnum1, iList1, iTup1, iRng1, iRng2, List.set_cons_zero, List.set_cons_succ]
              refine x_var (by exact rfl) ?_
              refine x_meth S 1 (by exact rfl) nk_Giver_heard ?_
              refine x_var (by exact rfl) ?_
              refine x_var (by exact rfl) ?_
              refine c_heard S 1 2 (by exact rfl) (by exact rfl) (fun pn3 H S => ?_)
              simp only [List.set_cons_zero, List.set_cons_succ] at S
              rw [seg_drop (by omega) (Nat.le_refl _), show max h m1 = m1 by omega, show (h : Int) + max ((m1 : Int) - h) 0 = (m1 : Int) by omega, show max (B : Int) ((m1 : Int) + w) = ((m1 + w : Nat) : Int) by omega] at S
              replace S := S.subT 8 [2, 0, 4, 5, 6]
              have S : Sep (fun _ => none) [] H [(2, gp, .ins CG dg (F_Giver ((m1 + w : Nat) : Int) (m1 : Int) pn3 false)), (2, pn3, .lst ((seg ps m1 m1).map V.int)), (2, o, .ins C dx (F_Taker (w : Int) (m1 : Int) d e)), (2, d, .dK kv2), (2, pc, .lst (ps.map V.int))] := Sep.front S 5
              exact ⟨m1 + w, m1, m1, m1, pn3, false, en, e, kv2, _, _, _, _, _, rfl, ⟨Nat.le_refl _, by omega, by omega, Nat.le_refl _, Nat.le_refl _, gt3, fun i a b => by omega, fun z => nomatch z⟩, he, (fun z => by have := hen z; omega), by omega, (fun _ => ⟨rfl, rfl, rfl, by omega, fun z => by omega⟩), S⟩
    · rintro σ H ⟨B, h, m, t, pl, c, en, e, kv, q1, q2, q3, q4, q5, rfl, hW, he, hen, hkl, hpr, S⟩
      obtain ⟨p1, p2, p3, p4, p5⟩ := hpr (by omega)
      have hml := hW.ml
      have hlen : m = ps.length := by omega
      have hhm := hW.hm
      have hlen1 := len_seg (ps := ps) (h := h) (m := m) (by omega) (by omega)
      obtain ⟨hc9, hen9⟩ := p5 hlen
      have he9 : e = .int (ps.length : Nat) := by have he8 := he; unfold EndE at he8; rw [hen9, if_pos rfl] at he8; exact he8
      have hie : endN e (t : Nat) = true := by rw [he9]; exact decide_eq_true (show ((t : Nat) : Int) ≥ (ps.length : Nat) by omega)
      try dsimp only [tMethS1, WE, tSeq, tAsg, gName, tOp, tUn, tCB, tCons, tNil, tCall, tMethK1, tCallK1, tPar3, tRet, tRetN, tDrop, tTest, tB, tC, tNext, tAugS, tAug, sFld1, sFldAug1, tMeth1, tMake, tMakeK1, tSl, tPart, tNoPart, sDPut1, tDPop, tBM, tBM0, tPar, gSub, tChain, tNot, tNotV, tDG1, tDG2, tDNewT1, iKeys1, iEnum1, iList1, iTup1, iRng1, iRng2, List.set_cons_zero, List.set_cons_succ]
      try dsimp only [tMethS1, WE, tSeq, tAsg, gName, tOp, tUn, tCB, tCons, tNil, tCall, tMethK1, tCallK1, tPar3, tRet, tRetN, tDrop, tTest, tB, tC, tNext, tAugS, tAug, sFld1, sFldAug1, tMeth1, tMake, tMakeK1, tSl, tPart, tNoPart, sDPut1, tDPop, tBM, tBM0, tPar, gSub, tChain, tNot, tNotV, tDG1, tDG2, tDNewT1, iKeys1, iEnum1, iList1, iTup1, iRng1, iRng2, List.set_cons_zero, List.set_cons_succ]
      refine x_andV ?_
      try dsimp only [tMethS1, WE, tSeq, tAsg, gName, tOp, tUn, tCB, tCons, tNil, tCall, tMethK1, tCallK1, tPar3, tRet, tRetN, tDrop, tTest, tB, tC, tNext, tAugS, tAug, sFld1, sFldAug1, tMeth1, tMake, tMakeK1, tSl, tPart, tNoPart, sDPut1, tDPop, tBM, tBM0, tPar, gSub, tChain, tNot, tNotV, tDG1, tDG2, tDNewT1, iKeys1, iEnum1, iList1, iTup1, iRng1, iRng2, List.set_cons_zero, List.set_cons_succ]
      refine x_var (by exact rfl) ?_
      refine x_var (by exact rfl) ?_
      refine x_lenI S 4 (by exact rfl) ?_
      refine x_eq ?_
      refine ⟨_, rfl, ?_⟩
      refine iteq (fun c7 => ?_) (fun c7 => ?_)
      · refine x_andV ?_
        try dsimp only [tMethS1, WE, tSeq, tAsg, gName, tOp, tUn, tCB, tCons, tNil, tCall, tMethK1, tCallK1, tPar3, tRet, tRetN, tDrop, tTest, tB, tC, tNext, tAugS, tAug, sFld1, sFldAug1, tMeth1, tMake, tMakeK1, tSl, tPart, tNoPart, sDPut1, tDPop, tBM, tBM0, tPar, gSub, tChain, tNot, tNotV, tDG1, tDG2, tDNewT1, iKeys1, iEnum1, iList1, iTup1, iRng1, iRng2, List.set_cons_zero, List.set_cons_succ]
        refine x_var (by exact rfl) ?_
        refine x_meth S 0 (by exact rfl) nk_Giver_wanted ?_
        refine ⟨_, _, _, _, _, _, _, rfl, S.get 0 rfl, S.get 1 rfl, by omega, fun wr ws M H hM hWn S9 => ?_⟩
        have S := (S.callN S9 (fun c hc => (List.mem_cons.mp hc).elim (fun e => by rw [e]) (hM c))).tail 5
        rw [List.drop_eq_nil_of_le (by exact Nat.le_of_ble_eq_true rfl), List.append_nil] at S
        dsimp only [List.take_succ_cons, List.take_zero, List.drop_succ_cons, List.drop_zero, List.cons_append, List.nil_append, List.append_nil] at S
        refine x_lst S (by exact Nat.le_of_ble_eq_true rfl) (fun L1 H S => ?_)
        obtain rfl : ws = [] := List.length_eq_zero_iff.mp (by rw [hWn.1, len_seg (by omega) (by omega)]; omega)
        refine ⟨_, _, .lst (S.sl 6 rfl) .nil, .lst (S.sl 0 rfl) .nil, rfl, rfl, ?_⟩
        rw [show PyData.eqv (.list []) (.list []) = true from eqv_list [] []]
        refine ⟨_, rfl, ?_⟩
        refine iteT ?_
        refine x_andV ?_
        try dsimp only [tMethS1, WE, tSeq, tAsg, gName, tOp, tUn, tCB, tCons, tNil, tCall, tMethK1, tCallK1, tPar3, tRet, tRetN, tDrop, tTest, tB, tC, tNext, tAugS, tAug, sFld1, sFldAug1, tMeth1, tMake, tMakeK1, tSl, tPart, tNoPart, sDPut1, tDPop, tBM, tBM0, tPar, gSub, tChain, tNot, tNotV, tDG1, tDG2, tDNewT1, iKeys1, iEnum1, iList1, iTup1, iRng1, iRng2, List.set_cons_zero, List.set_cons_succ]
        refine x_var (by exact rfl) ?_
        refine x_meth S 3 (by exact rfl) nk_Taker_is_ended ?_
        refine c_isended S 3 (by exact rfl) he.v ?_
        refine ⟨_, rfl, ?_⟩
        refine iteb (fun c8 => ?_) (fun c8 => ?_)
        · refine x_var (by exact rfl) ?_
          refine x_meth S 3 (by exact rfl) nk_Taker_has_all ?_
          refine c_hasall S 3 4 (by exact rfl) (by exact rfl) he.v (fun ba H hba S => ?_)
          have hba2 := hba t ⟨Int.le_refl _, fun i a b => absurd a (by omega), hW.K.out (by omega)⟩
          rw [hie] at hba2
          subst hba2
          exact k _
        · exfalso
          first | omega | (rw [hie] at c8; cases c8)
      · exfalso
        first | omega | (rw [hie] at c7; cases c7)
end
end G

set_option linter.all false
set_option maxRecDepth 100000
set_option maxHeartbeats 4000000
namespace G
open PySem PySem.Spec PyProof.Rows L2

/-- pairs of a place and its piece, told by cells -/
def SentIn (L : List Cell) (ps : List Int) (m : Nat) (sv : List V) : Prop := ∀ v ∈ sv, ∃ (a : Addr) (i : Nat) (z : Int), v = .ref a ∧ (2, a, HO.tup [.int (i : Nat), .int z]) ∈ L ∧ i < m ∧ ps[i]? = some z
def ToldIn (L : List Cell) (m R t : Nat) (kv : List (Key × V)) (tv : List V) : Prop := ∀ v ∈ tv, ∃ (a : Addr) (g r : Nat), v = .ref a ∧ (2, a, HO.tup [.int (g : Nat), .int (r : Nat)]) ∈ L ∧ g ≤ m ∧ r ≤ R ∧ ∀ i : Nat, t ≤ i → i < g → valV kv (.inl (i : Int) : Key) ≠ none
theorem SentIn.at {H0 H : Hp} {ft : List Addr} {l L : List Cell} {ps : List Int} {m : Nat} {sv : List V} (h : SentIn L ps m sv) (S : Sep H0 ft H l) (hL : ∀ c ∈ L, c ∈ l) : SentH H ps m sv := fun v hv => by
  obtain ⟨a, i, z, e, hc, r⟩ := h v hv
  exact ⟨a, i, z, e, S.rd _ (hL _ hc), r⟩
theorem ToldIn.at {H0 H : Hp} {ft : List Addr} {l L : List Cell} {m R t : Nat} {kv : List (Key × V)} {tv : List V} (h : ToldIn L m R t kv tv) (S : Sep H0 ft H l) (hL : ∀ c ∈ L, c ∈ l) : ToldH H m R t kv tv := fun v hv => by
  obtain ⟨a, g, r, e, hc, q⟩ := h v hv
  exact ⟨a, g, r, e, S.rd _ (hL _ hc), q⟩
theorem SentIn.mono {L L' : List Cell} {ps : List Int} {m m' : Nat} {sv : List V} (h : SentIn L ps m sv) (hL : ∀ c ∈ L, c ∈ L') (hm : m ≤ m') : SentIn L' ps m' sv := fun v hv => by
  obtain ⟨a, i, z, e, hc, r1, r2⟩ := h v hv
  exact ⟨a, i, z, e, hL _ hc, by omega, r2⟩
theorem ToldIn.mono {L L' : List Cell} {m m' R R' t t' : Nat} {kv kv' : List (Key × V)} {tv : List V} (h : ToldIn L m R t kv tv) (hL : ∀ c ∈ L, c ∈ L') (hm : m ≤ m') (hR : R ≤ R') (ht : t ≤ t') (hk : ∀ i : Nat, t' ≤ i → valV kv (.inl (i : Int) : Key) ≠ none → valV kv' (.inl (i : Int) : Key) ≠ none) : ToldIn L' m' R' t' kv' tv := fun v hv => by
  obtain ⟨a, g, r, e, hc, r1, r2, r3⟩ := h v hv
  exact ⟨a, g, r, e, hL _ hc, by omega, by omega, fun i h1 h2 => hk i h1 (r3 i (by omega) h2)⟩
theorem SentIn.of {L : List Cell} {ps : List Int} {h m : Nat} {ws : List V} (w : WIn L h ((seg ps h m).map V.int) ws) (h1 : h ≤ m) (h2 : m ≤ ps.length) : SentIn L ps m ws := fun v hv => by
  obtain ⟨i, hi⟩ := List.getElem?_of_mem hv
  obtain ⟨a, x, e, hx, hc⟩ := w.2 i v hi
  obtain ⟨z, hz, rfl⟩ := elem_of hx
  have hil := lt_of_get hz
  have hsl := len_seg (ps := ps) (h := h) (m := m) h1 h2
  rw [List.length_map] at hsl
  have hpz : ps[h + i]? = some z := by
    unfold seg at hz
    rw [List.getElem?_take_of_lt (by omega), List.getElem?_drop] at hz
    exact hz
  exact ⟨a, h + i, z, e, hc, by omega, hpz⟩

theorem reach_le {kv : List (Key × V)} {ps : List Int} {t m : Nat} {g : Int} (hK : Kp ps t m kv) (tm : t ≤ m) (r : Reach kv (t : Int) g) : g ≤ m := by
  by_cases c : g ≤ m
  · exact c
  · exact absurd (hK.out (Nat.le_refl m)) (r.all m (by omega) (by omega))
theorem len_cut200 (xs : List V) : (cutV xs (some (-200)) none).length ≤ 200 := by
  unfold cutV
  rw [List.length_take, List.length_drop]
  have e2 : HT.sIx xs.length xs.length none = xs.length := by unfold HT.sIx; simp
  have e1 : xs.length - 200 ≤ HT.sIx xs.length 0 (some (-200)) := by
    unfold HT.sIx
    show xs.length - 200 ≤ (if (-200 : Int) < 0 then (-200 + (xs.length : Int)).toNat else _)
    rw [if_pos (by decide)]
    omega
  rw [e2]
  omega
theorem ToldIn.snoc {L : List Cell} {m R t : Nat} {kv : List (Key × V)} {tv : List V} {a : Addr} {g r : Nat} (h : ToldIn L m R t kv tv) (hg : g ≤ m) (hr : r ≤ R) (ha : ∀ i : Nat, t ≤ i → i < g → valV kv (.inl (i : Int) : Key) ≠ none) : ToldIn ((2, a, HO.tup [.int (g : Nat), .int (r : Nat)]) :: L) m R t kv (tv ++ [V.ref a]) := fun v hv => by
  rcases List.mem_append.mp hv with hv | hv
  · exact h.mono (fun c hc => List.mem_cons_of_mem _ hc) (Nat.le_refl _) (Nat.le_refl _) (Nat.le_refl _) (fun _ _ z => z) v hv
  · rw [List.mem_singleton.mp hv]
    exact ⟨a, g, r, rfl, List.mem_cons_self, hg, hr, ha⟩
end G

set_option linter.all false
set_option maxRecDepth 100000
set_option maxHeartbeats 4000000
namespace G
open PySem PySem.Spec PyProof.Rows L2

def spLaw (K : PySem.W.Frag) : Sp := fun vs H Q _ => ∃ (a : Addr) (ns : List Int), vs = [.ref a] ∧ SqL K H a (ns.map V.int) ∧ ns.length ≤ 63 ∧ ∀ H', Q (.bl true) H'
section
variable {P : Program} {w : World} {K : PySem.W.Frag} {mg : Str → Option Value} {base : Heap}
abbrev s_law : Stmt := (topS 20)
theorem sc_law : FnScope ["_law_script", "_law_hold", "_law_wide_here", "_law_leads", "_law_giver", "_law_taker", "_law_k", "_law_pieces", "_law_sent", "_law_told", "_law_many", "_law_ended", "_law_way"] ["_law_script"] (defScope s_law) := ⟨rfl, rfl, rfl, by decide +kernel, rfl, by decide +kernel, by decide +kernel⟩
theorem ok_law {f : Addr} {fd : FuncData} {C CG : Addr} (F : L2.Fun K "law" "law" s_law f fd) (cd : Cal P w K mg base CX0 1 "_law_draw" spDraw) (cv : Cal P w K mg base CX0 2 "_law_value" spValue) (cw : Cal P w K mg base CX0 2 "_law_wide" spWide) (mkg : MakK P w K mg base CX0 1 "Giver" CG ["window"] (spGvInit CG)) (mk : MakK P w K mg base CX0 1 "Taker" C ["window"] (spTkInit C)) (clp : Cal P w K mg base CX0 3 "_law_put" (spLPut CG)) (clt : Cal P w K mg base CX0 2 "_law_taken" (spLTk C)) (carr : Cal P w K mg base CX0 2 "_law_arrive" (spArr C CG)) (clr : Cal P w K mg base CX0 2 "_law_right" (spRightK C CG)) (cled : Cal P w K mg base CX0 4 "_law_led" (spLed C CG)) (mmany : Met P w K mg base CX0 1 CG "many" (spMany CG)) (misshut : Met P w K mg base CX0 1 CG "is_shut" (spIsShut CG)) (mshut : Met P w K mg base CX0 1 CG "shut" (spShut0 CG)) (mwanted : Met P w K mg base CX0 1 CG "wanted" (spWanted CG)) (mends : Met P w K mg base CX0 1 C "ends" (spEnds C)) (mtold : Met P w K mg base CX0 1 C "told" (spTold C)) (z_list : mg "list" = none) (z_len : mg "len" = none) (z_range : mg "range" = none) (z_max : mg "max" = none) (z_min : mg "min" = none) : FnOk P w K mg base CX0 5 f fd ["_law_script"] (spLaw K) := by
  refine F.ok sc_law (fun vs H Q E h => ?_) (fun cdv A outer s H0 vs Q E hr h => ?_)
  · obtain ⟨a, ns, rfl, hs, hl, k⟩ := h
    rfl
  · obtain ⟨a, ns, rfl, hs, hl, k⟩ := h
    have hu := hu_of hr
    have S := Sep.of0 (H := H0)
    refine ⟨_, pss_cons (ps_set (i := 1) sc_law.nd rfl (.inr rfl) (pe_lst1 (pa_cons (pe_int) (pa_cons (pe_ifExp (pt_cmpR (op_neDK K hr.units) (pv 0) (pe_lst1 pa_nil) (nomark _)) (pe_callTy (cl_listK K) (by rfl) z_list (by decide +kernel) (pa_cons (pv 0) pa_nil)) (pe_lst1 (pa_cons (pe_int) pa_nil))) pa_nil))))
      (pss_cons (ps_par (i := 2) (j := 3) rfl sc_law.nd rfl rfl (by decide) rfl rfl (pa_cons (pe_c cw hr (by decide) (by rfl) pass0 (pa_cons (pv 1) pa_nil)) (pa_cons (pe_c cd hr (by decide) (by rfl) pass0 (pa_cons (pv 1) (pa_cons (pe_int) pa_nil))) pa_nil)) rfl)
      (pss_cons (ps_par (i := 4) (j := 5) rfl sc_law.nd rfl rfl (by decide) rfl rfl (pa_cons (pe_mkK mkg hr (by decide) (by rfl) pass0 (pk_cons (pv 2) pk_nil)) (pa_cons (pe_mkK mk hr (by decide) (by rfl) pass0 (pk_cons (pv 2) pk_nil)) pa_nil)) rfl)
      (pss_cons (ps_setLc (i := 7) (own := [("_law_k", 6)]) (g := gName 6) rfl sc_law.nd rfl rfl (sw_true rfl rfl rfl (by decide +kernel)) (pi_range1 (by rfl) z_range (pa_cons (pe_c cd hr (by decide) (by rfl) pass0 (pa_cons (pv 1) (pa_cons (pe_ix (ix_listK K) (pe_lst1 (pa_cons (pe_int) (pa_cons (pe_int) (pa_cons (pe_int) pa_nil)))) (pe_c cd hr (by decide) (by rfl) pass0 (pa_cons (pv 1) (pa_cons (pe_int) pa_nil))) (fun _ _ => rfl)) pa_nil))) pa_nil)) (blkOk_by (N := ["_law_script", "_law_hold", "_law_wide_here", "_law_leads", "_law_giver", "_law_taker", "_law_k", "_law_pieces", "_law_sent", "_law_told", "_law_many", "_law_ended", "_law_way"]) (sc := defScope s_law) (by decide +kernel)) (fun _ _ _ _ _ => pg_name (i := 6) sc_law.nd rfl (Or.inl rfl)) (fun _ _ _ _ _ => pts_nil) (fun _ _ _ _ _ => pe_c cv hr (by decide) (by rfl) pass0 (pa_cons (pv 1) pa_nil)))
      (pss_cons (ps_asg (pe_tup1 (pa_cons (pe_lst1 pa_nil) (pa_cons (pe_lst1 pa_nil) (pa_cons (pe_int) (pa_cons (pe_bl) pa_nil))))) (pg_tup rfl (pgs_cons (pg_name (i := 8) sc_law.nd rfl (.inl rfl)) (pgs_cons (pg_name (i := 9) sc_law.nd rfl (.inl rfl)) (pgs_cons (pg_name (i := 10) sc_law.nd rfl (.inl rfl)) (pgs_cons (pg_name (i := 11) sc_law.nd rfl (.inl rfl)) (pgs_nil)))))))
      (pss_cons (ps_for PassesOwn.never rfl (pi_range1 (by rfl) z_range (pa_cons (pe_callB (cl_max rfl) (by rfl) z_max (by decide +kernel) (pa_cons (pe_int) (pa_cons (pe_callB (cl_min rfl) (by rfl) z_min (by decide +kernel) (pa_cons (pe_int) (pa_cons (pe_callB (cl_lenK K) (by rfl) z_len PySem.boot_len (pa_cons (pv 0) pa_nil)) pa_nil))) pa_nil))) pa_nil)) (pg_name (i := 6) sc_law.nd rfl (.inl rfl)) (pss_cons (ps_set (i := 12) sc_law.nd rfl (.inl rfl) (pe_c cd hr (by decide) (by rfl) pass0 (pa_cons (pv 1) (pa_cons (pe_int) pa_nil))))
      (pss_cons (ps_if (pt_cmpR op_lt (pv 12) (pe_int) (nomark _)) (pss_one (ps_expr (pe_c clp hr (by decide) (by rfl) pass0 (pa_cons (pv 4) (pa_cons (pv 7) (pa_cons (pe_ix (ix_listK K) (pe_lst1 (pa_cons (pe_int) (pa_cons (pe_int) pa_nil))) (pe_op op_mod (pv 12) (pe_int)) (fun _ _ => rfl)) pa_nil)))))) (pss_one (ps_if (pt_cmpR op_lt (pv 12) (pe_int) (nomark _)) (pss_one (ps_set (i := 8) sc_law.nd rfl (.inl rfl) (pe_slice (sl_listK K) (pe_op op_cat (pv 8) (pe_mt0 mwanted hr (by decide) pass0 (pv 4))) (po_some (pe_un un_neg (pe_int))) po_none))) (pss_one (ps_if (pt_cmpR op_eq (pv 12) (pe_int) (nomark _)) (pss_one (ps_expr (pe_bm PySem.F.plainAttrs_list PySem.F.slot_list_append PySem.F.type_list_append mt_append (pv 9) (pa_cons (pe_mt0 mtold hr (by decide) pass0 (pv 5)) pa_nil)))) (pss_one (ps_if (pt_cmpR op_lt (pv 12) (pe_int) (nomark _)) (pss_one (ps_expr (pe_c carr hr (by decide) (by rfl) pass0 (pa_cons (pv 1) (pa_cons (pv 5) (pa_cons (pv 4) (pa_cons (pv 8) (pa_cons (pv 9) pa_nil)))))))) (pss_one (ps_if (pt_cmpR op_lt (pv 12) (pe_int) (nomark _)) (pss_one (ps_set (i := 10) sc_law.nd rfl (.inl rfl) (pe_c clt hr (by decide) (by rfl) pass0 (pa_cons (pv 5) (pa_cons (pv 7) (pa_cons (pv 10) (pa_cons (pe_ix (ix_listK K) (pe_lst1 (pa_cons (pe_int) (pa_cons (pe_int) pa_nil))) (pe_op op_mod (pv 12) (pe_int)) (fun _ _ => rfl)) pa_nil))))))) (pss_one (ps_if (pt_cmpR op_eq (pe_mt0 mmany hr (by decide) pass0 (pv 4)) (pe_callB (cl_lenK K) (by rfl) z_len PySem.boot_len (pa_cons (pv 7) pa_nil)) (nomark _)) (pss_cons (ps_if (pt_not (pt_val (pe_mt0 misshut hr (by decide) pass0 (pv 4)))) (pss_one (ps_expr (pe_mt0 mshut hr (by decide) pass0 (pv 4)))) (pss_nil))
      (pss_cons (ps_expr (pe_mt mends hr (by decide) pass0 (pv 5) (pa_cons (pe_mt0 mmany hr (by decide) pass0 (pv 4)) pa_nil)))
      (pss_one (ps_set (i := 11) sc_law.nd rfl (.inl rfl) (pe_bl))))) (pss_nil))))))))))))
      (pss_one (ps_if (pt_not (pt_val (pe_c clr hr (by decide) (by rfl) pass0 (pa_cons (pv 4) (pa_cons (pv 5) (pa_cons (pv 7) (pa_cons (pe_tup1 (pa_cons (pv 10) (pa_cons (pv 2) (pa_cons (pv 11) pa_nil)))) pa_nil))))))) (pss_one (ps_never)) (pss_nil))))))
      (pss_one (ps_ret (pe_or (pe_cmpR op_eq (pv 3) (pe_int) (nomark _)) (pe_one (pe_c cled hr (by decide) (by rfl) pass0 (pa_cons (pv 4) (pa_cons (pv 5) (pa_cons (pv 7) (pa_cons (pv 10) pa_nil)))))))))))))), ?_⟩
    rw [show start ["_law_script", "_law_hold", "_law_wide_here", "_law_leads", "_law_giver", "_law_taker", "_law_k", "_law_pieces", "_law_sent", "_law_told", "_law_many", "_law_ended", "_law_way"] [V.ref a] = [some (V.ref a), none, none, none, none, none, none, none, none, none, none, none, none] from rfl]
    try dsimp only [tMethS1, WE, tSeq, tAsg, gName, tOp, tUn, tCB, tCons, tNil, tCall, tMethK1, tCallK1, tPar3, tRet, tRetN, tDrop, tTest, tB, tC, tNext, tAugS, tAug, sFld1, sFldAug1, tMeth1, tMake, tMakeK1, tSl, tPart, tNoPart, sDPut1, tDPop, tBM, tBM0, tPar, gSub, tChain, tNot, tNotV, tDG1, tDG2, tDNewT1, iKeys1, iEnum1, iList1, iTup1, iRng1, iRng2, List.set_cons_zero, List.set_cons_succ]
    refine x_ifx (fun v H' => ∃ (q : Addr) (cs : List Int), v = .ref q ∧ Hold 0 cs ∧ Sep H0 [] H' [(2, q, .lst (cs.map V.int))]) ?_ (fun KK => ?_)
    · rintro v H ⟨hq, cs, rfl, hh, S⟩
      refine x_lst S (by exact Nat.le_of_ble_eq_true rfl) (fun L1 H S => ?_)
      try dsimp only [tMethS1, WE, tSeq, tAsg, gName, tOp, tUn, tCB, tCons, tNil, tCall, tMethK1, tCallK1, tPar3, tRet, tRetN, tDrop, tTest, tB, tC, tNext, tAugS, tAug, sFld1, sFldAug1, tMeth1, tMake, tMakeK1, tSl, tPart, tNoPart, sDPut1, tDPop, tBM, tBM0, tPar, gSub, tChain, tNot, tNotV, tDG1, tDG2, tDNewT1, iKeys1, iEnum1, iList1, iTup1, iRng1, iRng2, List.set_cons_zero, List.set_cons_succ]
      refine x_var (by exact rfl) ?_
      refine c_wide S 0 1 (by exact rfl) (by exact rfl) hh (by omega) (fun w1 n1 cs1 H w1a w1b hn1 hh S => ?_)
      simp only [List.set_cons_zero, List.set_cons_succ] at S
      refine x_var (by exact rfl) ?_
      refine c_draw S 0 1 (by exact rfl) (by exact rfl) hh (by first | omega | decide | (simp only [len_insAt, List.length_map, List.length_append, List.length_cons, List.length_nil, List.length_take, List.length_drop] at *; omega)) (by first | omega | decide | (simp only [len_insAt, List.length_map, List.length_append, List.length_cons, List.length_nil, List.length_take, List.length_drop] at *; omega)) (by first | omega | decide | (simp only [len_insAt, List.length_map, List.length_append, List.length_cons, List.length_nil, List.length_take, List.length_drop] at *; omega)) (fun r1 cs2 H r1a r1b hh S => ?_)
      simp only [List.set_cons_zero, List.set_cons_succ] at S
      refine ⟨_, _, rfl, ?_⟩
      try dsimp only [tMethS1, WE, tSeq, tAsg, gName, tOp, tUn, tCB, tCons, tNil, tCall, tMethK1, tCallK1, tPar3, tRet, tRetN, tDrop, tTest, tB, tC, tNext, tAugS, tAug, sFld1, sFldAug1, tMeth1, tMake, tMakeK1, tSl, tPart, tNoPart, sDPut1, tDPop, tBM, tBM0, tPar, gSub, tChain, tNot, tNotV, tDG1, tDG2, tDNewT1, iKeys1, iEnum1, iList1, iTup1, iRng1, iRng2, List.set_cons_zero, List.set_cons_succ]
      obtain ⟨w9, rfl⟩ : ∃ n : Nat, w1 = (n : Int) := ⟨w1.toNat, by omega⟩
      refine x_var (by exact rfl) ?_
      refine c_mkGiver S (fun gv1 xgv1 gl1 H S => ?_)
      refine x_var (by exact rfl) ?_
      refine c_mkTaker S (fun o1 xo1 d1 H S => ?_)
      refine ⟨_, _, rfl, ?_⟩
      try dsimp only [tMethS1, WE, tSeq, tAsg, gName, tOp, tUn, tCB, tCons, tNil, tCall, tMethK1, tCallK1, tPar3, tRet, tRetN, tDrop, tTest, tB, tC, tNext, tAugS, tAug, sFld1, sFldAug1, tMeth1, tMake, tMakeK1, tSl, tPart, tNoPart, sDPut1, tDPop, tBM, tBM0, tPar, gSub, tChain, tNot, tNotV, tDG1, tDG2, tDNewT1, iKeys1, iEnum1, iList1, iTup1, iRng1, iRng2, List.set_cons_zero, List.set_cons_succ]
      refine x_lc ?_
      try dsimp only [tOp, tUn, tCB, tCons, tNil, tCall, tMethK1, tCallK1, tC, tMeth1, tMake, tMakeK1, tSl, tPart, tNoPart, tDPop, tChain, tNotV, tBM, tBM0, tDG1, tDG2, tDNewT1, iKeys1, iEnum1, iList1, iTup1, iRng1, iRng2]
      refine x_var (by exact rfl) ?_
      refine x_lst S (by exact Nat.le_of_ble_eq_true rfl) (fun L2 H S => ?_)
      refine x_var (by exact rfl) ?_
      refine c_draw S 5 6 (by exact rfl) (by exact rfl) hh (by first | omega | decide | (simp only [len_insAt, List.length_map, List.length_append, List.length_cons, List.length_nil, List.length_take, List.length_drop] at *; omega)) (by first | omega | decide | (simp only [len_insAt, List.length_map, List.length_append, List.length_cons, List.length_nil, List.length_take, List.length_drop] at *; omega)) (by first | omega | decide | (simp only [len_insAt, List.length_map, List.length_append, List.length_cons, List.length_nil, List.length_take, List.length_drop] at *; omega)) (fun r2 cs3 H r2a r2b hh S => ?_)
      simp only [List.set_cons_zero, List.set_cons_succ] at S
      refine x_ixI (cs := [1, 8, 71]) S 0 (by exact rfl) (by omega) (by first | (show (_ : Int) < 3; omega) | omega) (fun v1 hv1 => ?_)
      have hv1 := List.mem_of_getElem? hv1
      simp only [List.mem_cons, List.not_mem_nil, or_false] at hv1
      refine c_draw S 5 6 (by exact rfl) (by exact rfl) hh (by first | omega | decide | (simp only [len_insAt, List.length_map, List.length_append, List.length_cons, List.length_nil, List.length_take, List.length_drop] at *; omega)) (by first | omega | decide | (simp only [len_insAt, List.length_map, List.length_append, List.length_cons, List.length_nil, List.length_take, List.length_drop] at *; omega)) (by first | omega | decide | (simp only [len_insAt, List.length_map, List.length_append, List.length_cons, List.length_nil, List.length_take, List.length_drop] at *; omega)) (fun r3 cs4 H r3a r3b hh S => ?_)
      simp only [List.set_cons_zero, List.set_cons_succ] at S
      refine ⟨_, rfl, by omega, by omega, ?_⟩
      refine lcR S (fun pc1 H S => ⟨fun i H1 => ∃ (n2 : Int) (cs2 ps : List Int), ps.length = i ∧ n2 ≤ 20 + 6 * i ∧ Hold n2 cs2 ∧ Sep H0 [] H1 [(2, pc1, .lst (ps.map V.int)), (2, gv1, .ins CG xgv1 (F_Giver (w9 : Int) 0 gl1 false)), (2, gl1, .lst []), (2, o1, .ins C xo1 (F_Taker (w9 : Int) 0 d1 .non)), (2, d1, .dK []), (2, L1, .lst [.int n2, .ref hq]), (2, hq, .lst (cs2.map V.int))], ?_, ?_, ?_⟩)
      · exact ⟨_, _, [], rfl, by omega, hh, S.sub [0, 5, 4, 3, 2, 6, 7]⟩
      · rintro i H hi ⟨n2, cs2, ps, hpl, hn2, hh, S⟩
        refine ⟨rfl, ?_⟩
        try dsimp only [tMethS1, WE, wipe, tYes, tSeq, tAsg, gName, tOp, tUn, tCB, tCons, tNil, tCall, tMethK1, tCallK1, tPar3, tRet, tRetN, tDrop, tTest, tB, tC, tNext, tAugS, tAug, sFld1, sFldAug1, tMeth1, tMake, tMakeK1, tSl, tPart, tNoPart, sDPut1, tDPop, tBM, tBM0, tPar, gSub, tChain, tNot, tNotV, tDG1, tDG2, tDNewT1, iKeys1, iEnum1, iList1, iTup1, iRng1, iRng2, List.set_cons_zero, List.set_cons_succ]
        refine iteT ?_
        refine x_var (by exact rfl) ?_
        refine c_value S 5 6 (by exact rfl) (by exact rfl) hh (by omega) (fun r4 n2 cs5 H hn2 hh S => ?_)
        simp only [List.set_cons_zero, List.set_cons_succ] at S
        refine x_lcappI S 0 (by exact rfl) (by omega) (fun H S => ?_)
        exact ⟨_, _, ps ++ [_], by rw [List.length_append, hpl]; rfl, by omega, hh, S⟩
      · rintro H ⟨n2, cs2, ps, hpl, hn2, hh, S⟩
        have hps : ps.length ≤ 100 := by omega
        try dsimp only [tMethS1, WE, tSeq, tAsg, gName, tOp, tUn, tCB, tCons, tNil, tCall, tMethK1, tCallK1, tPar3, tRet, tRetN, tDrop, tTest, tB, tC, tNext, tAugS, tAug, sFld1, sFldAug1, tMeth1, tMake, tMakeK1, tSl, tPart, tNoPart, sDPut1, tDPop, tBM, tBM0, tPar, gSub, tChain, tNot, tNotV, tDG1, tDG2, tDNewT1, iKeys1, iEnum1, iList1, iTup1, iRng1, iRng2, List.set_cons_zero, List.set_cons_succ]
        try dsimp only [tMethS1, WE, tSeq, tAsg, gName, tOp, tUn, tCB, tCons, tNil, tCall, tMethK1, tCallK1, tPar3, tRet, tRetN, tDrop, tTest, tB, tC, tNext, tAugS, tAug, sFld1, sFldAug1, tMeth1, tMake, tMakeK1, tSl, tPart, tNoPart, sDPut1, tDPop, tBM, tBM0, tPar, gSub, tChain, tNot, tNotV, tDG1, tDG2, tDNewT1, iKeys1, iEnum1, iList1, iTup1, iRng1, iRng2, List.set_cons_zero, List.set_cons_succ]
        refine x_lst S (by exact Nat.le_of_ble_eq_true rfl) (fun L3 H S => ?_)
        refine x_lst S (by exact Nat.le_of_ble_eq_true rfl) (fun L4 H S => ?_)
        refine x_tup S (by exact Nat.le_of_ble_eq_true rfl) (fun U1 H S => ?_)
        refine ⟨_, _, rfl, S.st 0 rfl, rfl, _, _, rfl, _, _, rfl, _, _, rfl, _, _, rfl, rfl, ?_⟩
        try dsimp only [tMethS1, WE, tSeq, tAsg, gName, tOp, tUn, tCB, tCons, tNil, tCall, tMethK1, tCallK1, tPar3, tRet, tRetN, tDrop, tTest, tB, tC, tNext, tAugS, tAug, sFld1, sFldAug1, tMeth1, tMake, tMakeK1, tSl, tPart, tNoPart, sDPut1, tDPop, tBM, tBM0, tPar, gSub, tChain, tNot, tNotV, tDG1, tDG2, tDNewT1, iKeys1, iEnum1, iList1, iTup1, iRng1, iRng2, List.set_cons_zero, List.set_cons_succ]
        refine x_for ?_
        try dsimp only [tOp, tUn, tCB, tCons, tNil, tCall, tMethK1, tCallK1, tC, tMeth1, tMake, tMakeK1, tSl, tPart, tNoPart, tDPop, tChain, tNotV, tBM, tBM0, tDG1, tDG2, tDNewT1, iKeys1, iEnum1, iList1, iTup1, iRng1, iRng2]
        refine x_var (by exact rfl) ?_
        refine x_lenS (S.sq hs (by simp)) ?_
        refine x_min ?_
        refine x_max ?_
        refine ⟨_, rfl, by omega, by omega, ?_⟩
        refine forR (fun i σ H1 => ∃ (n : Int) (cs : List Int) (B h m t : Nat) (pl st tl : Addr) (c en : Bool) (e : V) (kv : List (Key × V)) (sv tv : List V) (L : List Cell) (q1 q2 : Option V), σ = [some (.ref a), some (.ref L1), some (.int (w9 : Nat)), some (.int r1), some (.ref gv1), some (.ref o1), q1, some (.ref pc1), some (.ref st), some (.ref tl), some (.int (t : Nat)), some (.bl en), q2] ∧ n ≤ 600 + 10 * i ∧ i ≤ 63 ∧ Hold n cs ∧ Way ps w9 B h m t c kv ∧ EndE en ps e ∧ (en = true → m = ps.length) ∧ kv.length ≤ 200 * i ∧ SentIn L ps m sv ∧ sv.length ≤ 200 ∧ ToldIn L m (t + w9) t kv tv ∧ tv.length ≤ i ∧ Sep H0 [] H1 ((2, gv1, .ins CG xgv1 (F_Giver (B : Int) (h : Int) pl c)) :: (2, pl, .lst ((seg ps h m).map V.int)) :: (2, o1, .ins C xo1 (F_Taker (w9 : Int) (t : Int) d1 e)) :: (2, d1, .dK kv) :: (2, L1, .lst [.int n, .ref hq]) :: (2, hq, .lst (cs.map V.int)) :: (2, pc1, .lst (ps.map V.int)) :: (2, st, .lst sv) :: (2, tl, .lst tv) :: L)) ?_ ?_ ?_
        · exact ⟨_, _, w9, 0, 0, 0, _, _, _, false, false, .non, [], [], [], [], _, _, rfl, by omega, by omega, hh, ⟨Nat.le_refl _, Nat.zero_le _, Nat.zero_le _, by omega, Nat.le_refl _, (fun _ _ h => nomatch h), (fun i a b => by omega), (fun z => nomatch z)⟩, rfl, (fun z => nomatch z), by simp, (fun _ h => nomatch h), by simp, (fun _ h => nomatch h), by simp, S.sub [4, 5, 6, 7, 8, 9, 3, 2, 1]⟩
        · rintro i σ H hi ⟨n, cs, B, h, m, t, pl, st, tl, c, en, e, kv, sv, tv, L, q1, q2, rfl, hn, hi63, hh, hW, he, hen, hkl, hsent, hsl, htold, htl, S⟩
          have hBt := hW.Bt
          have htm := hW.tm
          have hmB := hW.mB
          have hhm := hW.hm
          have hml := hW.ml
          have hlen1 := len_seg (ps := ps) (h := h) (m := m) (by omega) (by omega)
          try dsimp only [tMethS1, WE, tSeq, tAsg, gName, tOp, tUn, tCB, tCons, tNil, tCall, tMethK1, tCallK1, tPar3, tRet, tRetN, tDrop, tTest, tB, tC, tNext, tAugS, tAug, sFld1, sFldAug1, tMeth1, tMake, tMakeK1, tSl, tPart, tNoPart, sDPut1, tDPop, tBM, tBM0, tPar, gSub, tChain, tNot, tNotV, tDG1, tDG2, tDNewT1, iKeys1, iEnum1, iList1, iTup1, iRng1, iRng2, List.set_cons_zero, List.set_cons_succ]
          try dsimp only [tMethS1, WE, tSeq, tAsg, gName, tOp, tUn, tCB, tCons, tNil, tCall, tMethK1, tCallK1, tPar3, tRet, tRetN, tDrop, tTest, tB, tC, tNext, tAugS, tAug, sFld1, sFldAug1, tMeth1, tMake, tMakeK1, tSl, tPart, tNoPart, sDPut1, tDPop, tBM, tBM0, tPar, gSub, tChain, tNot, tNotV, tDG1, tDG2, tDNewT1, iKeys1, iEnum1, iList1, iTup1, iRng1, iRng2, List.set_cons_zero, List.set_cons_succ]
          refine x_var (by exact rfl) ?_
          refine c_draw S 4 5 (by exact rfl) (by exact rfl) hh (by first | omega | decide | (simp only [len_insAt, List.length_map, List.length_append, List.length_cons, List.length_nil, List.length_take, List.length_drop] at *; omega)) (by first | omega | decide | (simp only [len_insAt, List.length_map, List.length_append, List.length_cons, List.length_nil, List.length_take, List.length_drop] at *; omega)) (by first | omega | decide | (simp only [len_insAt, List.length_map, List.length_append, List.length_cons, List.length_nil, List.length_take, List.length_drop] at *; omega)) (fun r5 cs6 H r5a r5b hh S => ?_)
          simp only [List.set_cons_zero, List.set_cons_succ] at S
          try dsimp only [tMethS1, WE, tSeq, tAsg, gName, tOp, tUn, tCB, tCons, tNil, tCall, tMethK1, tCallK1, tPar3, tRet, tRetN, tDrop, tTest, tB, tC, tNext, tAugS, tAug, sFld1, sFldAug1, tMeth1, tMake, tMakeK1, tSl, tPart, tNoPart, sDPut1, tDPop, tBM, tBM0, tPar, gSub, tChain, tNot, tNotV, tDG1, tDG2, tDNewT1, iKeys1, iEnum1, iList1, iTup1, iRng1, iRng2, List.set_cons_zero, List.set_cons_succ]
          refine x_if ?_
          try dsimp only [tMethS1, WE, tSeq, tAsg, gName, tOp, tUn, tCB, tCons, tNil, tCall, tMethK1, tCallK1, tPar3, tRet, tRetN, tDrop, tTest, tB, tC, tNext, tAugS, tAug, sFld1, sFldAug1, tMeth1, tMake, tMakeK1, tSl, tPart, tNoPart, sDPut1, tDPop, tBM, tBM0, tPar, gSub, tChain, tNot, tNotV, tDG1, tDG2, tDNewT1, iKeys1, iEnum1, iList1, iTup1, iRng1, iRng2, List.set_cons_zero, List.set_cons_succ]
          refine x_var (by exact rfl) ?_
          refine x_I0 ?_
          refine ⟨_, rfl, ?_⟩
          refine ited (fun c1 => ?_) (fun c1 => ?_)
          · try dsimp only [tMethS1, WE, tSeq, tAsg, gName, tOp, tUn, tCB, tCons, tNil, tCall, tMethK1, tCallK1, tPar3, tRet, tRetN, tDrop, tTest, tB, tC, tNext, tAugS, tAug, sFld1, sFldAug1, tMeth1, tMake, tMakeK1, tSl, tPart, tNoPart, sDPut1, tDPop, tBM, tBM0, tPar, gSub, tChain, tNot, tNotV, tDG1, tDG2, tDNewT1, iKeys1, iEnum1, iList1, iTup1, iRng1, iRng2, List.set_cons_zero, List.set_cons_succ]
            refine x_var (by exact rfl) ?_
            refine x_var (by exact rfl) ?_
            refine x_lst S (by exact Nat.le_of_ble_eq_true rfl) (fun L5 H S => ?_)
            refine x_var (by exact rfl) ?_
            refine x_I (by first | decide | (show (0 : Int) < _; omega)) ?_
            refine x_ixI (cs := [1, 70]) S 0 (by exact rfl) (by omega) (by first | (show (_ : Int) < 2; omega) | omega) (fun v2 hv2 => ?_)
            have hv2 := List.mem_of_getElem? hv2
            simp only [List.mem_cons, List.not_mem_nil, or_false] at hv2
            obtain ⟨q9, rfl, hq9⟩ : ∃ q : Nat, v2 = (q : Int) ∧ q ≤ 100 := ⟨v2.toNat, by omega, by omega⟩
            refine ⟨_, _, _, _, B, h, m, q9, c, ps, rfl, S.pre [(0, 1), (1, 2), (0, 7)], hW.hm, hW.ml, hps, hW.mB, hW.sh, hq9, fun H e1 F => ?_⟩
            have S := S.chg1 2 rfl F e1
            simp only [List.set_cons_zero, List.set_cons_succ] at S
            obtain ⟨m2, hm2⟩ : ∃ m2, m2 = min (min ps.length B) (m + q9) := ⟨_, rfl⟩
            rw [← hm2] at S
            have hm2a : m2 ≤ ps.length ∧ m2 ≤ B ∧ m ≤ m2 ∧ (m = ps.length → m2 = ps.length) := by omega
            obtain ⟨hm2b, hm2c, hm2d, hm2e⟩ := hm2a
            clear hm2
            have hW2 : Way ps w9 B h m2 t c kv := ⟨by omega, hm2b, hm2c, hW.Bt, by omega, hW.K.up hm2d, hW.hk, fun z => hm2e (hW.sh z)⟩
            have hsent2 := hsent.mono (L' := L) (fun _ hc => hc) hm2d
            have htold2 := htold.mono (L' := L) (kv' := kv) (fun _ hc => hc) hm2d (Nat.le_refl _) (Nat.le_refl _) (fun _ _ z => z)
            have hen2 : en = true → m2 = ps.length := fun z => hm2e (hen z)
            try dsimp only [tMethS1, WE, tSeq, tAsg, gName, tOp, tUn, tCB, tCons, tNil, tCall, tMethK1, tCallK1, tPar3, tRet, tRetN, tDrop, tTest, tB, tC, tNext, tAugS, tAug, sFld1, sFldAug1, tMeth1, tMake, tMakeK1, tSl, tPart, tNoPart, sDPut1, tDPop, tBM, tBM0, tPar, gSub, tChain, tNot, tNotV, tDG1, tDG2, tDNewT1, iKeys1, iEnum1, iList1, iTup1, iRng1, iRng2, List.set_cons_zero, List.set_cons_succ]
            refine x_if ?_
            try dsimp only [tMethS1, WE, tSeq, tAsg, gName, tOp, tUn, tCB, tCons, tNil, tCall, tMethK1, tCallK1, tPar3, tRet, tRetN, tDrop, tTest, tB, tC, tNext, tAugS, tAug, sFld1, sFldAug1, tMeth1, tMake, tMakeK1, tSl, tPart, tNoPart, sDPut1, tDPop, tBM, tBM0, tPar, gSub, tChain, tNot, tNotV, tDG1, tDG2, tDNewT1, iKeys1, iEnum1, iList1, iTup1, iRng1, iRng2, List.set_cons_zero, List.set_cons_succ]
            refine x_var (by exact rfl) ?_
            refine x_var (by exact rfl) ?_
            refine x_var (by exact rfl) ?_
            refine x_var (by exact rfl) ?_
            refine x_var (by exact rfl) ?_
            refine x_var (by exact rfl) ?_
            refine x_tup S (by exact Nat.le_of_ble_eq_true rfl) (fun U2 H S => ?_)
            refine ⟨_, _, _, _, _, _, _, _, w9, t, m2, B, h, c, en, e, ps, rfl, S.pre [(0, 2), (0, 3), (0, 4), (0, 8), (0, 0)], hW2.hm, hW2.ml, hW2.tm, by have := hW2.mB; have := hW2.Bt; omega, hps, he, fun H F => ?_⟩
            have S := S.stay F
            refine ⟨_, rfl, ?_⟩
            refine iteF ?_
            refine ⟨_, _, B, h, m2, t, pl, st, tl, c, en, e, kv, sv, tv, L, _, _, rfl, by omega, by omega, hh, hW2, he, hen2, by omega, hsent2, by omega, htold2, ?_, S.subT 11 [2, 3, 4, 5, 6, 7, 8, 9, 10]⟩
            first | omega | (rw [List.length_append]; show _ + 1 ≤ _; omega)
          · try dsimp only [tMethS1, WE, tSeq, tAsg, gName, tOp, tUn, tCB, tCons, tNil, tCall, tMethK1, tCallK1, tPar3, tRet, tRetN, tDrop, tTest, tB, tC, tNext, tAugS, tAug, sFld1, sFldAug1, tMeth1, tMake, tMakeK1, tSl, tPart, tNoPart, sDPut1, tDPop, tBM, tBM0, tPar, gSub, tChain, tNot, tNotV, tDG1, tDG2, tDNewT1, iKeys1, iEnum1, iList1, iTup1, iRng1, iRng2, List.set_cons_zero, List.set_cons_succ]
            refine x_if ?_
            try dsimp only [tMethS1, WE, tSeq, tAsg, gName, tOp, tUn, tCB, tCons, tNil, tCall, tMethK1, tCallK1, tPar3, tRet, tRetN, tDrop, tTest, tB, tC, tNext, tAugS, tAug, sFld1, sFldAug1, tMeth1, tMake, tMakeK1, tSl, tPart, tNoPart, sDPut1, tDPop, tBM, tBM0, tPar, gSub, tChain, tNot, tNotV, tDG1, tDG2, tDNewT1, iKeys1, iEnum1, iList1, iTup1, iRng1, iRng2, List.set_cons_zero, List.set_cons_succ]
            refine x_var (by exact rfl) ?_
            refine x_I0 ?_
            refine ⟨_, rfl, ?_⟩
            refine ited (fun c2 => ?_) (fun c2 => ?_)
            · try dsimp only [tMethS1, WE, tSeq, tAsg, gName, tOp, tUn, tCB, tCons, tNil, tCall, tMethK1, tCallK1, tPar3, tRet, tRetN, tDrop, tTest, tB, tC, tNext, tAugS, tAug, sFld1, sFldAug1, tMeth1, tMake, tMakeK1, tSl, tPart, tNoPart, sDPut1, tDPop, tBM, tBM0, tPar, gSub, tChain, tNot, tNotV, tDG1, tDG2, tDNewT1, iKeys1, iEnum1, iList1, iTup1, iRng1, iRng2, List.set_cons_zero, List.set_cons_succ]
              refine x_var (by exact rfl) ?_
              refine x_var (by exact rfl) ?_
              refine x_meth S 0 (by exact rfl) nk_Giver_wanted ?_
              refine ⟨_, _, _, _, _, _, _, rfl, S.get 0 rfl, S.get 1 rfl, by omega, fun wr ws M H hM hWn S9 => ?_⟩
              have S := (S.callN S9 (fun c hc => (List.mem_cons.mp hc).elim (fun e => by rw [e]) (hM c))).tail 9
              have S : Sep H0 [] H ((2, gv1, .ins CG xgv1 (F_Giver (B : Int) (h : Int) pl c)) :: (2, pl, .lst ((seg ps h m).map V.int)) :: (2, o1, .ins C xo1 (F_Taker (w9 : Int) (t : Int) d1 e)) :: (2, d1, .dK kv) :: (2, L1, .lst [.int (n + 1), .ref hq]) :: (2, hq, .lst (cs6.map V.int)) :: (2, pc1, .lst (ps.map V.int)) :: (2, st, .lst sv) :: (2, tl, .lst tv) :: (2, wr, .lst ws) :: (M ++ L)) := S
              have hwl := hWn.1
              refine x_cat S 7 9 (by exact rfl) (by exact rfl) (by omega) (fun ct1 H S => ?_)
              refine x_U ?_
              refine ⟨_, rfl, ?_⟩
              refine x_slL S 0 (by exact rfl) (fun sl1 H S => ?_)
              have hsl2 := len_cut200 (sv ++ ws)
              have hsent2 : SentIn (M ++ L) ps m (cutV (sv ++ ws) (some (-200)) none) := fun v hv => by
                rcases List.mem_append.mp (mem_cutV hv) with hv | hv
                · exact hsent.mono (fun c hc => List.mem_append_right _ hc) (Nat.le_refl _) v hv
                · exact (SentIn.of hWn hW.hm hW.ml).mono (fun c hc => List.mem_append_left _ hc) (Nat.le_refl _) v hv
              have htold2 := htold.mono (L' := M ++ L) (kv' := kv) (fun c hc => List.mem_append_right _ hc) (Nat.le_refl m) (Nat.le_refl (t + w9)) (Nat.le_refl t) (fun _ _ z => z)
              try dsimp only [tMethS1, WE, tSeq, tAsg, gName, tOp, tUn, tCB, tCons, tNil, tCall, tMethK1, tCallK1, tPar3, tRet, tRetN, tDrop, tTest, tB, tC, tNext, tAugS, tAug, sFld1, sFldAug1, tMeth1, tMake, tMakeK1, tSl, tPart, tNoPart, sDPut1, tDPop, tBM, tBM0, tPar, gSub, tChain, tNot, tNotV, tDG1, tDG2, tDNewT1, iKeys1, iEnum1, iList1, iTup1, iRng1, iRng2, List.set_cons_zero, List.set_cons_succ]
              refine x_if ?_
              try dsimp only [tMethS1, WE, tSeq, tAsg, gName, tOp, tUn, tCB, tCons, tNil, tCall, tMethK1, tCallK1, tPar3, tRet, tRetN, tDrop, tTest, tB, tC, tNext, tAugS, tAug, sFld1, sFldAug1, tMeth1, tMake, tMakeK1, tSl, tPart, tNoPart, sDPut1, tDPop, tBM, tBM0, tPar, gSub, tChain, tNot, tNotV, tDG1, tDG2, tDNewT1, iKeys1, iEnum1, iList1, iTup1, iRng1, iRng2, List.set_cons_zero, List.set_cons_succ]
              refine x_var (by exact rfl) ?_
              refine x_var (by exact rfl) ?_
              refine x_var (by exact rfl) ?_
              refine x_var (by exact rfl) ?_
              refine x_var (by exact rfl) ?_
              refine x_var (by exact rfl) ?_
              refine x_tup S (by exact Nat.le_of_ble_eq_true rfl) (fun U3 H S => ?_)
              refine ⟨_, _, _, _, _, _, _, _, w9, t, m, B, h, c, en, e, ps, rfl, S.pre [(0, 3), (0, 4), (0, 5), (0, 9), (0, 0)], hW.hm, hW.ml, hW.tm, by have := hW.mB; have := hW.Bt; omega, hps, he, fun H F => ?_⟩
              have S := S.stay F
              refine ⟨_, rfl, ?_⟩
              refine iteF ?_
              refine ⟨_, _, B, h, m, t, pl, sl1, tl, c, en, e, kv, (cutV (sv ++ ws) (some (-200)) none), tv, (M ++ L), _, _, rfl, by omega, by omega, hh, hW, he, hen, by omega, hsent2, by omega, htold2, ?_, S.subT 13 [3, 4, 5, 6, 7, 8, 9, 1, 11]⟩
              first | omega | (rw [List.length_append]; show _ + 1 ≤ _; omega)
            · try dsimp only [tMethS1, WE, tSeq, tAsg, gName, tOp, tUn, tCB, tCons, tNil, tCall, tMethK1, tCallK1, tPar3, tRet, tRetN, tDrop, tTest, tB, tC, tNext, tAugS, tAug, sFld1, sFldAug1, tMeth1, tMake, tMakeK1, tSl, tPart, tNoPart, sDPut1, tDPop, tBM, tBM0, tPar, gSub, tChain, tNot, tNotV, tDG1, tDG2, tDNewT1, iKeys1, iEnum1, iList1, iTup1, iRng1, iRng2, List.set_cons_zero, List.set_cons_succ]
              refine x_if ?_
              try dsimp only [tMethS1, WE, tSeq, tAsg, gName, tOp, tUn, tCB, tCons, tNil, tCall, tMethK1, tCallK1, tPar3, tRet, tRetN, tDrop, tTest, tB, tC, tNext, tAugS, tAug, sFld1, sFldAug1, tMeth1, tMake, tMakeK1, tSl, tPart, tNoPart, sDPut1, tDPop, tBM, tBM0, tPar, gSub, tChain, tNot, tNotV, tDG1, tDG2, tDNewT1, iKeys1, iEnum1, iList1, iTup1, iRng1, iRng2, List.set_cons_zero, List.set_cons_succ]
              refine x_var (by exact rfl) ?_
              refine x_eq ?_
              refine ⟨_, rfl, ?_⟩
              refine iteq (fun c3 => ?_) (fun c3 => ?_)
              · try dsimp only [tMethS1, WE, tSeq, tAsg, gName, tOp, tUn, tCB, tCons, tNil, tCall, tMethK1, tCallK1, tPar3, tRet, tRetN, tDrop, tTest, tB, tC, tNext, tAugS, tAug, sFld1, sFldAug1, tMeth1, tMake, tMakeK1, tSl, tPart, tNoPart, sDPut1, tDPop, tBM, tBM0, tPar, gSub, tChain, tNot, tNotV, tDG1, tDG2, tDNewT1, iKeys1, iEnum1, iList1, iTup1, iRng1, iRng2, List.set_cons_zero, List.set_cons_succ]
                refine x_var (by exact rfl) ?_
                refine ⟨x_ty S 8 (by exact rfl), ?_⟩
                refine x_var (by exact rfl) ?_
                refine x_meth S 2 (by exact rfl) nk_Taker_told ?_
                refine c_told S 2 3 (by exact rfl) (by exact rfl) (fun g1 ug1 H rg1 S => ?_)
                have hg1 := rg1.le
                obtain ⟨g9, rfl⟩ : ∃ n : Nat, g1 = (n : Int) := ⟨g1.toNat, by omega⟩
                have hg9 := reach_le hW.K hW.tm rg1
                have htold2 := htold.snoc (a := ug1) (g := g9) (r := t + w9) (by omega) (Nat.le_refl _) (fun i a b => rg1.all i (by omega) (by omega))
                have hsent2 := hsent.mono (L' := (2, ug1, HO.tup [.int (g9 : Nat), .int ((t + w9 : Nat) : Int)]) :: L) (fun c hc => List.mem_cons_of_mem _ hc) (Nat.le_refl m)
                refine x_app S 9 (by exact rfl) (by first | omega | decide | (simp only [len_insAt, List.length_map, List.length_append, List.length_cons, List.length_nil, List.length_take, List.length_drop] at *; omega)) (fun H S => ?_)
                simp only [List.set_cons_zero, List.set_cons_succ] at S
                try dsimp only [tMethS1, WE, tSeq, tAsg, gName, tOp, tUn, tCB, tCons, tNil, tCall, tMethK1, tCallK1, tPar3, tRet, tRetN, tDrop, tTest, tB, tC, tNext, tAugS, tAug, sFld1, sFldAug1, tMeth1, tMake, tMakeK1, tSl, tPart, tNoPart, sDPut1, tDPop, tBM, tBM0, tPar, gSub, tChain, tNot, tNotV, tDG1, tDG2, tDNewT1, iKeys1, iEnum1, iList1, iTup1, iRng1, iRng2, List.set_cons_zero, List.set_cons_succ]
                refine x_if ?_
                try dsimp only [tMethS1, WE, tSeq, tAsg, gName, tOp, tUn, tCB, tCons, tNil, tCall, tMethK1, tCallK1, tPar3, tRet, tRetN, tDrop, tTest, tB, tC, tNext, tAugS, tAug, sFld1, sFldAug1, tMeth1, tMake, tMakeK1, tSl, tPart, tNoPart, sDPut1, tDPop, tBM, tBM0, tPar, gSub, tChain, tNot, tNotV, tDG1, tDG2, tDNewT1, iKeys1, iEnum1, iList1, iTup1, iRng1, iRng2, List.set_cons_zero, List.set_cons_succ]
                refine x_var (by exact rfl) ?_
                refine x_var (by exact rfl) ?_
                refine x_var (by exact rfl) ?_
                refine x_var (by exact rfl) ?_
                refine x_var (by exact rfl) ?_
                refine x_var (by exact rfl) ?_
                refine x_tup S (by exact Nat.le_of_ble_eq_true rfl) (fun U4 H S => ?_)
                refine ⟨_, _, _, _, _, _, _, _, w9, t, m, B, h, c, en, e, ps, rfl, S.pre [(0, 2), (0, 3), (0, 4), (0, 8), (0, 0)], hW.hm, hW.ml, hW.tm, by have := hW.mB; have := hW.Bt; omega, hps, he, fun H F => ?_⟩
                have S := S.stay F
                refine ⟨_, rfl, ?_⟩
                refine iteF ?_
                refine ⟨_, _, B, h, m, t, pl, st, tl, c, en, e, kv, sv, (tv ++ [V.ref ug1]), ((2, ug1, HO.tup [.int (g9 : Nat), .int ((t + w9 : Nat) : Int)]) :: L), _, _, rfl, by omega, by omega, hh, hW, he, hen, by omega, hsent2, by omega, htold2, ?_, S.subT 11 [2, 3, 4, 5, 6, 7, 8, 9, 10, 1]⟩
                first | omega | (rw [List.length_append]; show _ + 1 ≤ _; omega)
              · try dsimp only [tMethS1, WE, tSeq, tAsg, gName, tOp, tUn, tCB, tCons, tNil, tCall, tMethK1, tCallK1, tPar3, tRet, tRetN, tDrop, tTest, tB, tC, tNext, tAugS, tAug, sFld1, sFldAug1, tMeth1, tMake, tMakeK1, tSl, tPart, tNoPart, sDPut1, tDPop, tBM, tBM0, tPar, gSub, tChain, tNot, tNotV, tDG1, tDG2, tDNewT1, iKeys1, iEnum1, iList1, iTup1, iRng1, iRng2, List.set_cons_zero, List.set_cons_succ]
                refine x_if ?_
                try dsimp only [tMethS1, WE, tSeq, tAsg, gName, tOp, tUn, tCB, tCons, tNil, tCall, tMethK1, tCallK1, tPar3, tRet, tRetN, tDrop, tTest, tB, tC, tNext, tAugS, tAug, sFld1, sFldAug1, tMeth1, tMake, tMakeK1, tSl, tPart, tNoPart, sDPut1, tDPop, tBM, tBM0, tPar, gSub, tChain, tNot, tNotV, tDG1, tDG2, tDNewT1, iKeys1, iEnum1, iList1, iTup1, iRng1, iRng2, List.set_cons_zero, List.set_cons_succ]
                refine x_var (by exact rfl) ?_
                refine x_I0 ?_
                refine ⟨_, rfl, ?_⟩
                refine ited (fun c4 => ?_) (fun c4 => ?_)
                · try dsimp only [tMethS1, WE, tSeq, tAsg, gName, tOp, tUn, tCB, tCons, tNil, tCall, tMethK1, tCallK1, tPar3, tRet, tRetN, tDrop, tTest, tB, tC, tNext, tAugS, tAug, sFld1, sFldAug1, tMeth1, tMake, tMakeK1, tSl, tPart, tNoPart, sDPut1, tDPop, tBM, tBM0, tPar, gSub, tChain, tNot, tNotV, tDG1, tDG2, tDNewT1, iKeys1, iEnum1, iList1, iTup1, iRng1, iRng2, List.set_cons_zero, List.set_cons_succ]
                  refine x_var (by exact rfl) ?_
                  refine x_var (by exact rfl) ?_
                  refine x_var (by exact rfl) ?_
                  refine x_var (by exact rfl) ?_
                  refine x_var (by exact rfl) ?_
                  refine ⟨_, _, _, _, _, _, _, _, _, _, _, _, _, ps, t, m, B, h, t + w9, c, _, kv, sv, tv, rfl, S.pre [(1, 4), (1, 5), (0, 2), (1, 3), (1, 0), (0, 1), (0, 7), (0, 8)], hh, by omega, hsent.at S (fun c hc => List.mem_cons_of_mem _ (List.mem_cons_of_mem _ (List.mem_cons_of_mem _ (List.mem_cons_of_mem _ (List.mem_cons_of_mem _ (List.mem_cons_of_mem _ (List.mem_cons_of_mem _ (List.mem_cons_of_mem _ (List.mem_cons_of_mem _ hc))))))))), htold.at S (fun c hc => List.mem_cons_of_mem _ (List.mem_cons_of_mem _ (List.mem_cons_of_mem _ (List.mem_cons_of_mem _ (List.mem_cons_of_mem _ (List.mem_cons_of_mem _ (List.mem_cons_of_mem _ (List.mem_cons_of_mem _ (List.mem_cons_of_mem _ hc))))))))), hW.K, hW.hm, hW.ml, by omega, hsl, by omega, fun n2 cs2 kv2 H hn2 hh hK2 hk2 hkp S9 => ?_, fun n2 cs2 kv2 pl2 B2 h2 H hn2 hh hK2 hk2 hkp hB1 hB2 hh1 hh2 hh4 S9 => ?_⟩
                  · have S := S.call (H' := H) 0 [(4, 2, L1, .lst [.int n2, .ref hq]), (5, 2, hq, .lst (cs2.map V.int)), (3, 2, d1, .dK kv2), (0, 2, gv1, .ins CG xgv1 (F_Giver (B : Int) (h : Int) pl c))] ⟨⟨_, rfl, .inr rfl⟩, ⟨_, rfl, .inr rfl⟩, ⟨_, rfl, .inr rfl⟩, ⟨_, rfl, .inr rfl⟩, trivial⟩ (by show List.Nodup [4, 5, 3, 0]; decide) S9
                    dsimp only [List.take_succ_cons, List.take_zero, List.cons_append, List.nil_append, List.foldl, List.set_cons_zero, List.set_cons_succ] at S
                    have hW2 : Way ps w9 B h m t c kv2 := ⟨hW.hm, hW.ml, hW.mB, hW.Bt, hW.tm, hK2, fun i a b => hkp _ (hW.hk i a b), hW.sh⟩
                    have htold2 := htold.mono (L' := L) (kv' := kv2) (fun _ hc => hc) (Nat.le_refl m) (Nat.le_refl (t + w9)) (Nat.le_refl t) (fun i _ z => hkp _ z)
                    try dsimp only [tMethS1, WE, tSeq, tAsg, gName, tOp, tUn, tCB, tCons, tNil, tCall, tMethK1, tCallK1, tPar3, tRet, tRetN, tDrop, tTest, tB, tC, tNext, tAugS, tAug, sFld1, sFldAug1, tMeth1, tMake, tMakeK1, tSl, tPart, tNoPart, sDPut1, tDPop, tBM, tBM0, tPar, gSub, tChain, tNot, tNotV, tDG1, tDG2, tDNewT1, iKeys1, iEnum1, iList1, iTup1, iRng1, iRng2, List.set_cons_zero, List.set_cons_succ]
                    refine x_if ?_
                    try dsimp only [tMethS1, WE, tSeq, tAsg, gName, tOp, tUn, tCB, tCons, tNil, tCall, tMethK1, tCallK1, tPar3, tRet, tRetN, tDrop, tTest, tB, tC, tNext, tAugS, tAug, sFld1, sFldAug1, tMeth1, tMake, tMakeK1, tSl, tPart, tNoPart, sDPut1, tDPop, tBM, tBM0, tPar, gSub, tChain, tNot, tNotV, tDG1, tDG2, tDNewT1, iKeys1, iEnum1, iList1, iTup1, iRng1, iRng2, List.set_cons_zero, List.set_cons_succ]
                    refine x_var (by exact rfl) ?_
                    refine x_var (by exact rfl) ?_
                    refine x_var (by exact rfl) ?_
                    refine x_var (by exact rfl) ?_
                    refine x_var (by exact rfl) ?_
                    refine x_var (by exact rfl) ?_
                    refine x_tup S (by exact Nat.le_of_ble_eq_true rfl) (fun U5 H S => ?_)
                    refine ⟨_, _, _, _, _, _, _, _, w9, t, m, B, h, c, en, e, ps, rfl, S.pre [(0, 1), (0, 2), (0, 3), (0, 7), (0, 0)], hW2.hm, hW2.ml, hW2.tm, by have := hW2.mB; have := hW2.Bt; omega, hps, he, fun H F => ?_⟩
                    have S := S.stay F
                    refine ⟨_, rfl, ?_⟩
                    refine iteF ?_
                    refine ⟨_, _, B, h, m, t, pl, st, tl, c, en, e, kv2, sv, tv, L, _, _, rfl, by omega, by omega, hh, hW2, he, hen, by omega, hsent, by omega, htold2, ?_, S.subT 10 [1, 2, 3, 4, 5, 6, 7, 8, 9]⟩
                    first | omega | (rw [List.length_append]; show _ + 1 ≤ _; omega)
                  · have S := S.call (H' := H) 1 [(4, 2, L1, .lst [.int n2, .ref hq]), (5, 2, hq, .lst (cs2.map V.int)), (3, 2, d1, .dK kv2), (0, 2, gv1, .ins CG xgv1 (F_Giver (B2 : Int) (h2 : Int) pl2 c))] ⟨⟨_, rfl, .inr rfl⟩, ⟨_, rfl, .inr rfl⟩, ⟨_, rfl, .inr rfl⟩, ⟨_, rfl, .inr rfl⟩, trivial⟩ (by show List.Nodup [4, 5, 3, 0]; decide) S9
                    dsimp only [List.take_succ_cons, List.take_zero, List.cons_append, List.nil_append, List.foldl, List.set_cons_zero, List.set_cons_succ] at S
                    have hW2 : Way ps w9 B2 h2 m t c kv2 := ⟨by omega, hW.ml, by omega, by omega, hW.tm, hK2, fun i a b => (hh4 i a b).elim (fun z => hkp _ (hW.hk i a z)) (hkp _), hW.sh⟩
                    have htold2 := htold.mono (L' := L) (kv' := kv2) (fun _ hc => hc) (Nat.le_refl m) (Nat.le_refl (t + w9)) (Nat.le_refl t) (fun i _ z => hkp _ z)
                    try dsimp only [tMethS1, WE, tSeq, tAsg, gName, tOp, tUn, tCB, tCons, tNil, tCall, tMethK1, tCallK1, tPar3, tRet, tRetN, tDrop, tTest, tB, tC, tNext, tAugS, tAug, sFld1, sFldAug1, tMeth1, tMake, tMakeK1, tSl, tPart, tNoPart, sDPut1, tDPop, tBM, tBM0, tPar, gSub, tChain, tNot, tNotV, tDG1, tDG2, tDNewT1, iKeys1, iEnum1, iList1, iTup1, iRng1, iRng2, List.set_cons_zero, List.set_cons_succ]
                    refine x_if ?_
                    try dsimp only [tMethS1, WE, tSeq, tAsg, gName, tOp, tUn, tCB, tCons, tNil, tCall, tMethK1, tCallK1, tPar3, tRet, tRetN, tDrop, tTest, tB, tC, tNext, tAugS, tAug, sFld1, sFldAug1, tMeth1, tMake, tMakeK1, tSl, tPart, tNoPart, sDPut1, tDPop, tBM, tBM0, tPar, gSub, tChain, tNot, tNotV, tDG1, tDG2, tDNewT1, iKeys1, iEnum1, iList1, iTup1, iRng1, iRng2, List.set_cons_zero, List.set_cons_succ]
                    refine x_var (by exact rfl) ?_
                    refine x_var (by exact rfl) ?_
                    refine x_var (by exact rfl) ?_
                    refine x_var (by exact rfl) ?_
                    refine x_var (by exact rfl) ?_
                    refine x_var (by exact rfl) ?_
                    refine x_tup S (by exact Nat.le_of_ble_eq_true rfl) (fun U6 H S => ?_)
                    refine ⟨_, _, _, _, _, _, _, _, w9, t, m, B2, h2, c, en, e, ps, rfl, S.pre [(0, 2), (0, 1), (0, 4), (0, 8), (0, 0)], hW2.hm, hW2.ml, hW2.tm, by have := hW2.mB; have := hW2.Bt; omega, hps, he, fun H F => ?_⟩
                    have S := S.stay F
                    refine ⟨_, rfl, ?_⟩
                    refine iteF ?_
                    refine ⟨_, _, B2, h2, m, t, pl2, st, tl, c, en, e, kv2, sv, tv, L, _, _, rfl, by omega, by omega, hh, hW2, he, hen, by omega, hsent, by omega, htold2, ?_, S.subT 11 [2, 1, 4, 5, 6, 7, 8, 9, 10]⟩
                    first | omega | (rw [List.length_append]; show _ + 1 ≤ _; omega)
                · try dsimp only [tMethS1, WE, tSeq, tAsg, gName, tOp, tUn, tCB, tCons, tNil, tCall, tMethK1, tCallK1, tPar3, tRet, tRetN, tDrop, tTest, tB, tC, tNext, tAugS, tAug, sFld1, sFldAug1, tMeth1, tMake, tMakeK1, tSl, tPart, tNoPart, sDPut1, tDPop, tBM, tBM0, tPar, gSub, tChain, tNot, tNotV, tDG1, tDG2, tDNewT1, iKeys1, iEnum1, iList1, iTup1, iRng1, iRng2, List.set_cons_zero, List.set_cons_succ]
                  refine x_if ?_
                  try dsimp only [tMethS1, WE, tSeq, tAsg, gName, tOp, tUn, tCB, tCons, tNil, tCall, tMethK1, tCallK1, tPar3, tRet, tRetN, tDrop, tTest, tB, tC, tNext, tAugS, tAug, sFld1, sFldAug1, tMeth1, tMake, tMakeK1, tSl, tPart, tNoPart, sDPut1, tDPop, tBM, tBM0, tPar, gSub, tChain, tNot, tNotV, tDG1, tDG2, tDNewT1, iKeys1, iEnum1, iList1, iTup1, iRng1, iRng2, List.set_cons_zero, List.set_cons_succ]
                  refine x_var (by exact rfl) ?_
                  refine x_I0 ?_
                  refine ⟨_, rfl, ?_⟩
                  refine ited (fun c5 => ?_) (fun c5 => ?_)
                  · try dsimp only [tMethS1, WE, tSeq, tAsg, gName, tOp, tUn, tCB, tCons, tNil, tCall, tMethK1, tCallK1, tPar3, tRet, tRetN, tDrop, tTest, tB, tC, tNext, tAugS, tAug, sFld1, sFldAug1, tMeth1, tMake, tMakeK1, tSl, tPart, tNoPart, sDPut1, tDPop, tBM, tBM0, tPar, gSub, tChain, tNot, tNotV, tDG1, tDG2, tDNewT1, iKeys1, iEnum1, iList1, iTup1, iRng1, iRng2, List.set_cons_zero, List.set_cons_succ]
                    refine x_var (by exact rfl) ?_
                    refine x_var (by exact rfl) ?_
                    refine x_var (by exact rfl) ?_
                    refine x_lst S (by exact Nat.le_of_ble_eq_true rfl) (fun L6 H S => ?_)
                    refine x_var (by exact rfl) ?_
                    refine x_I (by first | decide | (show (0 : Int) < _; omega)) ?_
                    refine x_ixI (cs := [1, 70]) S 0 (by exact rfl) (by omega) (by first | (show (_ : Int) < 2; omega) | omega) (fun v3 hv3 => ?_)
                    have hv3 := List.mem_of_getElem? hv3
                    simp only [List.mem_cons, List.not_mem_nil, or_false] at hv3
                    obtain ⟨q9, rfl, hq9⟩ : ∃ q : Nat, v3 = (q : Int) ∧ q ≤ 100 := ⟨v3.toNat, by omega, by omega⟩
                    refine ⟨_, _, _, _, _, t, m, q9, _, _, ps, rfl, S.pre [(1, 3), (1, 4), (0, 7)], hW.K, hW.ml, hq9, fun t2 kv2 H gt1 gt2 gt3 gt4 gt5 gt6 gt7 e1 e2 F => ?_⟩
                    have S := S.chg2 3 4 rfl rfl (by decide) F e1 e2
                    simp only [List.set_cons_zero, List.set_cons_succ] at S
                    have gt8 := gt2 hW.tm
                    have hW2 : Way ps w9 B h m t2 c kv2 := ⟨hW.hm, hW.ml, hW.mB, by omega, gt8, gt3, fun i a b => by rw [gt5 i (by omega)]; exact hW.hk i (by omega) b, hW.sh⟩
                    have htold2 := htold.mono (L' := L) (kv' := kv2) (fun _ hc => hc) (Nat.le_refl m) (show t + w9 ≤ t2 + w9 by omega) gt1 (fun i a z => by rw [gt5 i (by omega)]; exact z)
                    try dsimp only [tMethS1, WE, tSeq, tAsg, gName, tOp, tUn, tCB, tCons, tNil, tCall, tMethK1, tCallK1, tPar3, tRet, tRetN, tDrop, tTest, tB, tC, tNext, tAugS, tAug, sFld1, sFldAug1, tMeth1, tMake, tMakeK1, tSl, tPart, tNoPart, sDPut1, tDPop, tBM, tBM0, tPar, gSub, tChain, tNot, tNotV, tDG1, tDG2, tDNewT1, iKeys1, iEnum1, iList1, iTup1, iRng1, iRng2, List.set_cons_zero, List.set_cons_succ]
                    refine x_if ?_
                    try dsimp only [tMethS1, WE, tSeq, tAsg, gName, tOp, tUn, tCB, tCons, tNil, tCall, tMethK1, tCallK1, tPar3, tRet, tRetN, tDrop, tTest, tB, tC, tNext, tAugS, tAug, sFld1, sFldAug1, tMeth1, tMake, tMakeK1, tSl, tPart, tNoPart, sDPut1, tDPop, tBM, tBM0, tPar, gSub, tChain, tNot, tNotV, tDG1, tDG2, tDNewT1, iKeys1, iEnum1, iList1, iTup1, iRng1, iRng2, List.set_cons_zero, List.set_cons_succ]
                    refine x_var (by exact rfl) ?_
                    refine x_var (by exact rfl) ?_
                    refine x_var (by exact rfl) ?_
                    refine x_var (by exact rfl) ?_
                    refine x_var (by exact rfl) ?_
                    refine x_var (by exact rfl) ?_
                    refine x_tup S (by exact Nat.le_of_ble_eq_true rfl) (fun U7 H S => ?_)
                    refine ⟨_, _, _, _, _, _, _, _, w9, t2, m, B, h, c, en, e, ps, rfl, S.pre [(0, 2), (0, 3), (0, 4), (0, 8), (0, 0)], hW2.hm, hW2.ml, hW2.tm, by have := hW2.mB; have := hW2.Bt; omega, hps, he, fun H F => ?_⟩
                    have S := S.stay F
                    refine ⟨_, rfl, ?_⟩
                    refine iteF ?_
                    refine ⟨_, _, B, h, m, t2, pl, st, tl, c, en, e, kv2, sv, tv, L, _, _, rfl, by omega, by omega, hh, hW2, he, hen, by omega, hsent, by omega, htold2, ?_, S.subT 11 [2, 3, 4, 5, 6, 7, 8, 9, 10]⟩
                    first | omega | (rw [List.length_append]; show _ + 1 ≤ _; omega)
                  · try dsimp only [tMethS1, WE, tSeq, tAsg, gName, tOp, tUn, tCB, tCons, tNil, tCall, tMethK1, tCallK1, tPar3, tRet, tRetN, tDrop, tTest, tB, tC, tNext, tAugS, tAug, sFld1, sFldAug1, tMeth1, tMake, tMakeK1, tSl, tPart, tNoPart, sDPut1, tDPop, tBM, tBM0, tPar, gSub, tChain, tNot, tNotV, tDG1, tDG2, tDNewT1, iKeys1, iEnum1, iList1, iTup1, iRng1, iRng2, List.set_cons_zero, List.set_cons_succ]
                    refine x_if ?_
                    try dsimp only [tMethS1, WE, tSeq, tAsg, gName, tOp, tUn, tCB, tCons, tNil, tCall, tMethK1, tCallK1, tPar3, tRet, tRetN, tDrop, tTest, tB, tC, tNext, tAugS, tAug, sFld1, sFldAug1, tMeth1, tMake, tMakeK1, tSl, tPart, tNoPart, sDPut1, tDPop, tBM, tBM0, tPar, gSub, tChain, tNot, tNotV, tDG1, tDG2, tDNewT1, iKeys1, iEnum1, iList1, iTup1, iRng1, iRng2, List.set_cons_zero, List.set_cons_succ]
                    refine x_var (by exact rfl) ?_
                    refine x_meth S 0 (by exact rfl) nk_Giver_many ?_
                    refine c_many S 0 1 (by exact rfl) (by exact rfl) ?_
                    refine x_var (by exact rfl) ?_
                    refine x_lenI S 6 (by exact rfl) ?_
                    refine x_eq ?_
                    refine ⟨_, rfl, ?_⟩
                    refine iteq (fun c6 => ?_) (fun c6 => ?_)
                    · try dsimp only [tMethS1, WE, tSeq, tAsg, gName, tOp, tUn, tCB, tCons, tNil, tCall, tMethK1, tCallK1, tPar3, tRet, tRetN, tDrop, tTest, tB, tC, tNext, tAugS, tAug, sFld1, sFldAug1, tMeth1, tMake, tMakeK1, tSl, tPart, tNoPart, sDPut1, tDPop, tBM, tBM0, tPar, gSub, tChain, tNot, tNotV, tDG1, tDG2, tDNewT1, iKeys1, iEnum1, iList1, iTup1, iRng1, iRng2, List.set_cons_zero, List.set_cons_succ]
                      refine x_if ?_
                      try dsimp only [tMethS1, WE, tSeq, tAsg, gName, tOp, tUn, tCB, tCons, tNil, tCall, tMethK1, tCallK1, tPar3, tRet, tRetN, tDrop, tTest, tB, tC, tNext, tAugS, tAug, sFld1, sFldAug1, tMeth1, tMake, tMakeK1, tSl, tPart, tNoPart, sDPut1, tDPop, tBM, tBM0, tPar, gSub, tChain, tNot, tNotV, tDG1, tDG2, tDNewT1, iKeys1, iEnum1, iList1, iTup1, iRng1, iRng2, List.set_cons_zero, List.set_cons_succ]
                      refine x_var (by exact rfl) ?_
                      refine x_meth S 0 (by exact rfl) nk_Giver_is_shut ?_
                      refine c_isshut S 0 (by exact rfl) ?_
                      refine ⟨_, rfl, ?_⟩
                      refine itnb (fun c7 => ?_) (fun c7 => ?_)
                      · subst c7
                        try dsimp only [tMethS1, WE, tSeq, tAsg, gName, tOp, tUn, tCB, tCons, tNil, tCall, tMethK1, tCallK1, tPar3, tRet, tRetN, tDrop, tTest, tB, tC, tNext, tAugS, tAug, sFld1, sFldAug1, tMeth1, tMake, tMakeK1, tSl, tPart, tNoPart, sDPut1, tDPop, tBM, tBM0, tPar, gSub, tChain, tNot, tNotV, tDG1, tDG2, tDNewT1, iKeys1, iEnum1, iList1, iTup1, iRng1, iRng2, List.set_cons_zero, List.set_cons_succ]
                        refine x_var (by exact rfl) ?_
                        refine x_meth S 0 (by exact rfl) nk_Giver_shut ?_
                        refine c_shut0 S 0 (by exact rfl) (fun H S => ?_)
                        simp only [List.set_cons_zero, List.set_cons_succ] at S
                        try dsimp only [tMethS1, WE, tSeq, tAsg, gName, tOp, tUn, tCB, tCons, tNil, tCall, tMethK1, tCallK1, tPar3, tRet, tRetN, tDrop, tTest, tB, tC, tNext, tAugS, tAug, sFld1, sFldAug1, tMeth1, tMake, tMakeK1, tSl, tPart, tNoPart, sDPut1, tDPop, tBM, tBM0, tPar, gSub, tChain, tNot, tNotV, tDG1, tDG2, tDNewT1, iKeys1, iEnum1, iList1, iTup1, iRng1, iRng2, List.set_cons_zero, List.set_cons_succ]
                        refine x_var (by exact rfl) ?_
                        refine x_meth S 2 (by exact rfl) nk_Taker_ends ?_
                        refine x_var (by exact rfl) ?_
                        refine x_meth S 0 (by exact rfl) nk_Giver_many ?_
                        refine c_many S 0 1 (by exact rfl) (by exact rfl) ?_
                        refine c_ends S 2 (by exact rfl) (fun H S => ?_)
                        simp only [List.set_cons_zero, List.set_cons_succ] at S
                        have hmlen : m = ps.length := by omega
                        have he2 : (if e = V.non then V.int ((h : Int) + ((List.map V.int (seg ps h m)).length : Nat)) else e) = .int (ps.length : Nat) := by
                          cases en with
                          | true => (have he3 : e = .int (ps.length : Nat) := he; subst he3; rw [if_neg (by intro z; cases z)])
                          | false => (have he3 : e = .non := he; subst he3; rw [if_pos rfl, show (h : Int) + ((List.map V.int (seg ps h m)).length : Nat) = (ps.length : Nat) by omega])
                        rw [he2] at S
                        have hW2 : Way ps w9 B h m t true kv := ⟨hW.hm, hW.ml, hW.mB, hW.Bt, hW.tm, hW.K, hW.hk, fun _ => hmlen⟩
                        have he4 : EndE true ps (.int (ps.length : Nat)) := rfl
                        have hen4 : true = true → m = ps.length := fun _ => hmlen
                        try dsimp only [tMethS1, WE, tSeq, tAsg, gName, tOp, tUn, tCB, tCons, tNil, tCall, tMethK1, tCallK1, tPar3, tRet, tRetN, tDrop, tTest, tB, tC, tNext, tAugS, tAug, sFld1, sFldAug1, tMeth1, tMake, tMakeK1, tSl, tPart, tNoPart, sDPut1, tDPop, tBM, tBM0, tPar, gSub, tChain, tNot, tNotV, tDG1, tDG2, tDNewT1, iKeys1, iEnum1, iList1, iTup1, iRng1, iRng2, List.set_cons_zero, List.set_cons_succ]
                        try dsimp only [tMethS1, WE, tSeq, tAsg, gName, tOp, tUn, tCB, tCons, tNil, tCall, tMethK1, tCallK1, tPar3, tRet, tRetN, tDrop, tTest, tB, tC, tNext, tAugS, tAug, sFld1, sFldAug1, tMeth1, tMake, tMakeK1, tSl, tPart, tNoPart, sDPut1, tDPop, tBM, tBM0, tPar, gSub, tChain, tNot, tNotV, tDG1, tDG2, tDNewT1, iKeys1, iEnum1, iList1, iTup1, iRng1, iRng2, List.set_cons_zero, List.set_cons_succ]
                        refine x_if ?_
                        try dsimp only [tMethS1, WE, tSeq, tAsg, gName, tOp, tUn, tCB, tCons, tNil, tCall, tMethK1, tCallK1, tPar3, tRet, tRetN, tDrop, tTest, tB, tC, tNext, tAugS, tAug, sFld1, sFldAug1, tMeth1, tMake, tMakeK1, tSl, tPart, tNoPart, sDPut1, tDPop, tBM, tBM0, tPar, gSub, tChain, tNot, tNotV, tDG1, tDG2, tDNewT1, iKeys1, iEnum1, iList1, iTup1, iRng1, iRng2, List.set_cons_zero, List.set_cons_succ]
                        refine x_var (by exact rfl) ?_
                        refine x_var (by exact rfl) ?_
                        refine x_var (by exact rfl) ?_
                        refine x_var (by exact rfl) ?_
                        refine x_var (by exact rfl) ?_
                        refine x_var (by exact rfl) ?_
                        refine x_tup S (by exact Nat.le_of_ble_eq_true rfl) (fun U9 H S => ?_)
                        refine ⟨_, _, _, _, _, _, _, _, w9, t, m, B, h, true, true, (.int (ps.length : Nat)), ps, rfl, S.pre [(0, 1), (0, 2), (0, 3), (0, 7), (0, 0)], hW2.hm, hW2.ml, hW2.tm, by have := hW2.mB; have := hW2.Bt; omega, hps, he4, fun H F => ?_⟩
                        have S := S.stay F
                        refine ⟨_, rfl, ?_⟩
                        refine iteF ?_
                        refine ⟨_, _, B, h, m, t, pl, st, tl, true, true, (.int (ps.length : Nat)), kv, sv, tv, L, _, _, rfl, by omega, by omega, hh, hW2, he4, hen4, by omega, hsent, by omega, htold, ?_, S.subT 10 [1, 2, 3, 4, 5, 6, 7, 8, 9]⟩
                        first | omega | (rw [List.length_append]; show _ + 1 ≤ _; omega)
                      · subst c7
                        try dsimp only [tMethS1, WE, tSeq, tAsg, gName, tOp, tUn, tCB, tCons, tNil, tCall, tMethK1, tCallK1, tPar3, tRet, tRetN, tDrop, tTest, tB, tC, tNext, tAugS, tAug, sFld1, sFldAug1, tMeth1, tMake, tMakeK1, tSl, tPart, tNoPart, sDPut1, tDPop, tBM, tBM0, tPar, gSub, tChain, tNot, tNotV, tDG1, tDG2, tDNewT1, iKeys1, iEnum1, iList1, iTup1, iRng1, iRng2, List.set_cons_zero, List.set_cons_succ]
                        refine x_var (by exact rfl) ?_
                        refine x_meth S 2 (by exact rfl) nk_Taker_ends ?_
                        refine x_var (by exact rfl) ?_
                        refine x_meth S 0 (by exact rfl) nk_Giver_many ?_
                        refine c_many S 0 1 (by exact rfl) (by exact rfl) ?_
                        refine c_ends S 2 (by exact rfl) (fun H S => ?_)
                        simp only [List.set_cons_zero, List.set_cons_succ] at S
                        have hmlen : m = ps.length := by omega
                        have he2 : (if e = V.non then V.int ((h : Int) + ((List.map V.int (seg ps h m)).length : Nat)) else e) = .int (ps.length : Nat) := by
                          cases en with
                          | true => (have he3 : e = .int (ps.length : Nat) := he; subst he3; rw [if_neg (by intro z; cases z)])
                          | false => (have he3 : e = .non := he; subst he3; rw [if_pos rfl, show (h : Int) + ((List.map V.int (seg ps h m)).length : Nat) = (ps.length : Nat) by omega])
                        rw [he2] at S
                        have hW2 : Way ps w9 B h m t true kv := ⟨hW.hm, hW.ml, hW.mB, hW.Bt, hW.tm, hW.K, hW.hk, fun _ => hmlen⟩
                        have he4 : EndE true ps (.int (ps.length : Nat)) := rfl
                        have hen4 : true = true → m = ps.length := fun _ => hmlen
                        try dsimp only [tMethS1, WE, tSeq, tAsg, gName, tOp, tUn, tCB, tCons, tNil, tCall, tMethK1, tCallK1, tPar3, tRet, tRetN, tDrop, tTest, tB, tC, tNext, tAugS, tAug, sFld1, sFldAug1, tMeth1, tMake, tMakeK1, tSl, tPart, tNoPart, sDPut1, tDPop, tBM, tBM0, tPar, gSub, tChain, tNot, tNotV, tDG1, tDG2, tDNewT1, iKeys1, iEnum1, iList1, iTup1, iRng1, iRng2, List.set_cons_zero, List.set_cons_succ]
                        try dsimp only [tMethS1, WE, tSeq, tAsg, gName, tOp, tUn, tCB, tCons, tNil, tCall, tMethK1, tCallK1, tPar3, tRet, tRetN, tDrop, tTest, tB, tC, tNext, tAugS, tAug, sFld1, sFldAug1, tMeth1, tMake, tMakeK1, tSl, tPart, tNoPart, sDPut1, tDPop, tBM, tBM0, tPar, gSub, tChain, tNot, tNotV, tDG1, tDG2, tDNewT1, iKeys1, iEnum1, iList1, iTup1, iRng1, iRng2, List.set_cons_zero, List.set_cons_succ]
                        refine x_if ?_
                        try dsimp only [tMethS1, WE, tSeq, tAsg, gName, tOp, tUn, tCB, tCons, tNil, tCall, tMethK1, tCallK1, tPar3, tRet, tRetN, tDrop, tTest, tB, tC, tNext, tAugS, tAug, sFld1, sFldAug1, tMeth1, tMake, tMakeK1, tSl, tPart, tNoPart, sDPut1, tDPop, tBM, tBM0, tPar, gSub, tChain, tNot, tNotV, tDG1, tDG2, tDNewT1, iKeys1, iEnum1, iList1, iTup1, iRng1, iRng2, List.set_cons_zero, List.set_cons_succ]
                        refine x_var (by exact rfl) ?_
                        refine x_var (by exact rfl) ?_
                        refine x_var (by exact rfl) ?_
                        refine x_var (by exact rfl) ?_
                        refine x_var (by exact rfl) ?_
                        refine x_var (by exact rfl) ?_
                        refine x_tup S (by exact Nat.le_of_ble_eq_true rfl) (fun U8 H S => ?_)
                        refine ⟨_, _, _, _, _, _, _, _, w9, t, m, B, h, true, true, (.int (ps.length : Nat)), ps, rfl, S.pre [(0, 1), (0, 2), (0, 3), (0, 7), (0, 0)], hW2.hm, hW2.ml, hW2.tm, by have := hW2.mB; have := hW2.Bt; omega, hps, he4, fun H F => ?_⟩
                        have S := S.stay F
                        refine ⟨_, rfl, ?_⟩
                        refine iteF ?_
                        refine ⟨_, _, B, h, m, t, pl, st, tl, true, true, (.int (ps.length : Nat)), kv, sv, tv, L, _, _, rfl, by omega, by omega, hh, hW2, he4, hen4, by omega, hsent, by omega, htold, ?_, S.subT 10 [1, 2, 3, 4, 5, 6, 7, 8, 9]⟩
                        first | omega | (rw [List.length_append]; show _ + 1 ≤ _; omega)
                    · try dsimp only [tMethS1, WE, tSeq, tAsg, gName, tOp, tUn, tCB, tCons, tNil, tCall, tMethK1, tCallK1, tPar3, tRet, tRetN, tDrop, tTest, tB, tC, tNext, tAugS, tAug, sFld1, sFldAug1, tMeth1, tMake, tMakeK1, tSl, tPart, tNoPart, sDPut1, tDPop, tBM, tBM0, tPar, gSub, tChain, tNot, tNotV, tDG1, tDG2, tDNewT1, iKeys1, iEnum1, iList1, iTup1, iRng1, iRng2, List.set_cons_zero, List.set_cons_succ]
                      refine x_if ?_
                      try dsimp only [tMethS1, WE, tSeq, tAsg, gName, tOp, tUn, tCB, tCons, tNil, tCall, tMethK1, tCallK1, tPar3, tRet, tRetN, tDrop, tTest, tB, tC, tNext, tAugS, tAug, sFld1, sFldAug1, tMeth1, tMake, tMakeK1, tSl, tPart, tNoPart, sDPut1, tDPop, tBM, tBM0, tPar, gSub, tChain, tNot, tNotV, tDG1, tDG2, tDNewT1, iKeys1, iEnum1, iList1, iTup1, iRng1, iRng2, List.set_cons_zero, List.set_cons_succ]
                      refine x_var (by exact rfl) ?_
                      refine x_var (by exact rfl) ?_
                      refine x_var (by exact rfl) ?_
                      refine x_var (by exact rfl) ?_
                      refine x_var (by exact rfl) ?_
                      refine x_var (by exact rfl) ?_
                      refine x_tup S (by exact Nat.le_of_ble_eq_true rfl) (fun U10 H S => ?_)
                      refine ⟨_, _, _, _, _, _, _, _, w9, t, m, B, h, c, en, e, ps, rfl, S.pre [(0, 1), (0, 2), (0, 3), (0, 7), (0, 0)], hW.hm, hW.ml, hW.tm, by have := hW.mB; have := hW.Bt; omega, hps, he, fun H F => ?_⟩
                      have S := S.stay F
                      refine ⟨_, rfl, ?_⟩
                      refine iteF ?_
                      refine ⟨_, _, B, h, m, t, pl, st, tl, c, en, e, kv, sv, tv, L, _, _, rfl, by omega, by omega, hh, hW, he, hen, by omega, hsent, by omega, htold, ?_, S.subT 10 [1, 2, 3, 4, 5, 6, 7, 8, 9]⟩
                      first | omega | (rw [List.length_append]; show _ + 1 ≤ _; omega)
        · rintro σ H ⟨n, cs, B, h, m, t, pl, st, tl, c, en, e, kv, sv, tv, L, q1, q2, rfl, hn, hi63, hh, hW, he, hen, hkl, hsent, hsl, htold, htl, S⟩
          try dsimp only [tMethS1, WE, tSeq, tAsg, gName, tOp, tUn, tCB, tCons, tNil, tCall, tMethK1, tCallK1, tPar3, tRet, tRetN, tDrop, tTest, tB, tC, tNext, tAugS, tAug, sFld1, sFldAug1, tMeth1, tMake, tMakeK1, tSl, tPart, tNoPart, sDPut1, tDPop, tBM, tBM0, tPar, gSub, tChain, tNot, tNotV, tDG1, tDG2, tDNewT1, iKeys1, iEnum1, iList1, iTup1, iRng1, iRng2, List.set_cons_zero, List.set_cons_succ]
          try dsimp only [tMethS1, WE, tSeq, tAsg, gName, tOp, tUn, tCB, tCons, tNil, tCall, tMethK1, tCallK1, tPar3, tRet, tRetN, tDrop, tTest, tB, tC, tNext, tAugS, tAug, sFld1, sFldAug1, tMeth1, tMake, tMakeK1, tSl, tPart, tNoPart, sDPut1, tDPop, tBM, tBM0, tPar, gSub, tChain, tNot, tNotV, tDG1, tDG2, tDNewT1, iKeys1, iEnum1, iList1, iTup1, iRng1, iRng2, List.set_cons_zero, List.set_cons_succ]
          refine x_orV ?_
          try dsimp only [tMethS1, WE, tSeq, tAsg, gName, tOp, tUn, tCB, tCons, tNil, tCall, tMethK1, tCallK1, tPar3, tRet, tRetN, tDrop, tTest, tB, tC, tNext, tAugS, tAug, sFld1, sFldAug1, tMeth1, tMake, tMakeK1, tSl, tPart, tNoPart, sDPut1, tDPop, tBM, tBM0, tPar, gSub, tChain, tNot, tNotV, tDG1, tDG2, tDNewT1, iKeys1, iEnum1, iList1, iTup1, iRng1, iRng2, List.set_cons_zero, List.set_cons_succ]
          refine x_var (by exact rfl) ?_
          refine x_eq ?_
          refine ⟨_, rfl, ?_⟩
          refine iteq (fun c8 => ?_) (fun c8 => ?_)
          · exact k _
          · refine x_var (by exact rfl) ?_
            refine x_var (by exact rfl) ?_
            refine x_var (by exact rfl) ?_
            refine x_var (by exact rfl) ?_
            refine ⟨_, _, _, _, _, _, _, w9, t, m, B, h, c, en, e, kv, ps, rfl, S.pre [(1, 0), (1, 1), (1, 2), (1, 3), (0, 6)], hW, by omega, by omega, hps, by omega, he, hen, fun H => ?_⟩
            exact k _
    · refine x_ifE ?_
      try dsimp only [tMethS1, WE, tSeq, tAsg, gName, tOp, tUn, tCB, tCons, tNil, tCall, tMethK1, tCallK1, tPar3, tRet, tRetN, tDrop, tTest, tB, tC, tNext, tAugS, tAug, sFld1, sFldAug1, tMeth1, tMake, tMakeK1, tSl, tPart, tNoPart, sDPut1, tDPop, tBM, tBM0, tPar, gSub, tChain, tNot, tNotV, tDG1, tDG2, tDNewT1, iKeys1, iEnum1, iList1, iTup1, iRng1, iRng2, List.set_cons_zero, List.set_cons_succ]
      refine x_var (by exact rfl) ?_
      refine x_lst S (by exact Nat.le_of_ble_eq_true rfl) (fun L51 H S => ?_)
      refine x_neSq (ys := []) (S.sq hs (by simp)) (S.sl 0 (by exact (by exact rfl))) ?_
      refine ⟨_, rfl, ?_⟩
      refine itend (fun c51 => ?_) (fun c51 => ?_)
      · refine x_var (by exact rfl) ?_
        refine x_listS S (S.sq hs (by simp)) (fun l1 H S => ?_)
        exact KK _ _ ⟨_, ns, rfl, ⟨c51, hl, Int.le_refl _⟩, S.sub [0]⟩
      · refine x_lst S (by exact Nat.le_of_ble_eq_true rfl) (fun L52 H S => ?_)
        exact KK _ _ ⟨_, [0], rfl, ⟨by simp, by decide, Int.le_refl _⟩, S.sub [0]⟩
end
end G

set_option linter.all false
set_option maxRecDepth 100000
set_option maxHeartbeats 4000000
namespace G
open PySem PySem.Spec PyProof.Rows L2
theorem all_mk {l : PySem.W.OpenLaw} {w : World} {K : PySem.W.Frag} {h : Heap} {mg : Str → Option Value} {fa C_Giver f1 f2 f3 f4 f5 f6 f7 C_Taker f8 f9 f10 f11 f12 f13 f14 f15 f16 f17 f18 f19 f20 f21 f22 f23 f24 f25 E_NoRoom : Addr} (X : K.In h) (G : h.Ns mainGlobals mg) (hfa : mg "law" = some (.ref fa))
    {od1 an1 od2 an2 od3 an3 od4 an4 od5 an5 od6 an6 od7 an7 od8 an8 od9 an9 od10 an10 od11 an11 od12 an12 od13 an13 od14 an14 od15 an15 od16 an16 od17 an17 od18 an18 od19 an19 od20 an20 od21 an21 od22 an22 od23 an23 od24 an24 od25 an25 : Option Addr} {sl1 sl2 sl3 sl4 sl5 sl6 sl7 sl8 sl9 sl10 sl11 sl12 sl13 sl14 sl15 sl16 sl17 sl18 sl19 sl20 sl21 sl22 sl23 sl24 sl25 : Array (Option Value)}
    {D1 D8 : Addr}
    {oc1 dc1 pm1 cd1 ct1 oc2 kV2 dc2 pm2 cd2 ct2 oc3 kV3 dc3 pm3 cd3 ct3 oc4 kV4 dc4 pm4 cd4 ct4 oc5 kV5 dc5 pm5 cd5 ct5 oc6 kV6 dc6 pm6 cd6 ct6 oc7 kV7 dc7 pm7 cd7 ct7 oc8 dc8 pm8 cd8 ct8 oc9 kV9 dc9 pm9 cd9 ct9 oc10 kV10 dc10 pm10 cd10 ct10 oc11 kV11 dc11 pm11 cd11 ct11 oc12 kV12 dc12 pm12 cd12 ct12 oc13 kV13 dc13 pm13 cd13 ct13 oc14 kV14 dc14 pm14 cd14 ct14 oc15 kV15 dc15 pm15 cd15 ct15 oc16 kV16 dc16 pm16 cd16 ct16 oc17 kV17 dc17 pm17 cd17 ct17 oc18 kV18 dc18 pm18 cd18 ct18 oc19 kV19 dc19 pm19 cd19 ct19 oc20 kV20 dc20 pm20 cd20 ct20 oc21 kV21 dc21 pm21 cd21 ct21 oc22 kV22 dc22 pm22 cd22 ct22 oc23 kV23 dc23 pm23 cd23 ct23 oc24 kV24 dc24 pm24 cd24 ct24 oc25 kV25 dc25 pm25 cd25 ct25 : Value} {tk1 tk8 : Tok}
    (g_Giver : PySem.W.nsIn K mainGlobals "Giver" = some (some (.ref C_Giver)))
    (pg_Giver : PySem.W.plainGet K C_Giver Str.empty = true)
    (hd_Giver : PySem.W.hasDictIn K C_Giver = true)
    (po_Giver : PySem.W.plainOver K C_Giver = true)
    (sa_Giver : PySem.W.findIn K (.ref C_Giver) "__setattr__" = some (some (.builtin "object.__setattr__")))
    (mk_Giver : PySem.W.makesIn K C_Giver = true)
    (kc_Giver : PySem.W.keepIn K (.ref C_Giver) = true)
    (na_Giver_below : PySem.W.findIn K (.ref C_Giver) "below" = some none)
    (na_Giver_behind : PySem.W.findIn K (.ref C_Giver) "behind" = some none)
    (na_Giver_pieces : PySem.W.findIn K (.ref C_Giver) "pieces" = some none)
    (na_Giver_closed : PySem.W.findIn K (.ref C_Giver) "closed" = some none)
    (m1 : PySem.W.findIn K (.ref C_Giver) "__init__" = some (some (.ref f1)))
    (i1 : PySem.W.isFn K (.ref f1) = true)
    (l1 : K.lookup f1 = some ⟨oc1, od1, .func (PySem.W.fnOf "__init__" "Giver.__init__" (defArgs s_Giver__init) (defBody s_Giver__init) (defScope s_Giver__init) .none (.ref D1) dc1 pm1 an1 cd1 ct1), sl1⟩)
    (c1 : PySem.W.codeIn K cd1 "Giver.__init__" = true)
    (k1 : PySem.W.keepIn K (.ref f1) = true)
    (d1 : PySem.W.nsIn K D1 "window" = some (some (.int 4 tk1)))
    (m2 : PySem.W.findIn K (.ref C_Giver) "put" = some (some (.ref f2)))
    (i2 : PySem.W.isFn K (.ref f2) = true)
    (l2 : K.lookup f2 = some ⟨oc2, od2, .func (PySem.W.fnOf "put" "Giver.put" (defArgs s_Giver_put) (defBody s_Giver_put) (defScope s_Giver_put) .none kV2 dc2 pm2 an2 cd2 ct2), sl2⟩)
    (c2 : PySem.W.codeIn K cd2 "Giver.put" = true)
    (k2 : PySem.W.keepIn K (.ref f2) = true)
    (m3 : PySem.W.findIn K (.ref C_Giver) "shut" = some (some (.ref f3)))
    (i3 : PySem.W.isFn K (.ref f3) = true)
    (l3 : K.lookup f3 = some ⟨oc3, od3, .func (PySem.W.fnOf "shut" "Giver.shut" (defArgs s_Giver_shut) (defBody s_Giver_shut) (defScope s_Giver_shut) .none kV3 dc3 pm3 an3 cd3 ct3), sl3⟩)
    (c3 : PySem.W.codeIn K cd3 "Giver.shut" = true)
    (k3 : PySem.W.keepIn K (.ref f3) = true)
    (m4 : PySem.W.findIn K (.ref C_Giver) "heard" = some (some (.ref f4)))
    (i4 : PySem.W.isFn K (.ref f4) = true)
    (l4 : K.lookup f4 = some ⟨oc4, od4, .func (PySem.W.fnOf "heard" "Giver.heard" (defArgs s_Giver_heard) (defBody s_Giver_heard) (defScope s_Giver_heard) .none kV4 dc4 pm4 an4 cd4 ct4), sl4⟩)
    (c4 : PySem.W.codeIn K cd4 "Giver.heard" = true)
    (k4 : PySem.W.keepIn K (.ref f4) = true)
    (m5 : PySem.W.findIn K (.ref C_Giver) "wanted" = some (some (.ref f5)))
    (i5 : PySem.W.isFn K (.ref f5) = true)
    (l5 : K.lookup f5 = some ⟨oc5, od5, .func (PySem.W.fnOf "wanted" "Giver.wanted" (defArgs s_Giver_wanted) (defBody s_Giver_wanted) (defScope s_Giver_wanted) .none kV5 dc5 pm5 an5 cd5 ct5), sl5⟩)
    (c5 : PySem.W.codeIn K cd5 "Giver.wanted" = true)
    (k5 : PySem.W.keepIn K (.ref f5) = true)
    (m6 : PySem.W.findIn K (.ref C_Giver) "many" = some (some (.ref f6)))
    (i6 : PySem.W.isFn K (.ref f6) = true)
    (l6 : K.lookup f6 = some ⟨oc6, od6, .func (PySem.W.fnOf "many" "Giver.many" (defArgs s_Giver_many) (defBody s_Giver_many) (defScope s_Giver_many) .none kV6 dc6 pm6 an6 cd6 ct6), sl6⟩)
    (c6 : PySem.W.codeIn K cd6 "Giver.many" = true)
    (k6 : PySem.W.keepIn K (.ref f6) = true)
    (m7 : PySem.W.findIn K (.ref C_Giver) "is_shut" = some (some (.ref f7)))
    (i7 : PySem.W.isFn K (.ref f7) = true)
    (l7 : K.lookup f7 = some ⟨oc7, od7, .func (PySem.W.fnOf "is_shut" "Giver.is_shut" (defArgs s_Giver_is_shut) (defBody s_Giver_is_shut) (defScope s_Giver_is_shut) .none kV7 dc7 pm7 an7 cd7 ct7), sl7⟩)
    (c7 : PySem.W.codeIn K cd7 "Giver.is_shut" = true)
    (k7 : PySem.W.keepIn K (.ref f7) = true)
    (g_Taker : PySem.W.nsIn K mainGlobals "Taker" = some (some (.ref C_Taker)))
    (pg_Taker : PySem.W.plainGet K C_Taker Str.empty = true)
    (hd_Taker : PySem.W.hasDictIn K C_Taker = true)
    (po_Taker : PySem.W.plainOver K C_Taker = true)
    (sa_Taker : PySem.W.findIn K (.ref C_Taker) "__setattr__" = some (some (.builtin "object.__setattr__")))
    (mk_Taker : PySem.W.makesIn K C_Taker = true)
    (kc_Taker : PySem.W.keepIn K (.ref C_Taker) = true)
    (na_Taker_wide : PySem.W.findIn K (.ref C_Taker) "wide" = some none)
    (na_Taker_taken : PySem.W.findIn K (.ref C_Taker) "taken" = some none)
    (na_Taker_kept : PySem.W.findIn K (.ref C_Taker) "kept" = some none)
    (na_Taker_end : PySem.W.findIn K (.ref C_Taker) "end" = some none)
    (m8 : PySem.W.findIn K (.ref C_Taker) "__init__" = some (some (.ref f8)))
    (i8 : PySem.W.isFn K (.ref f8) = true)
    (l8 : K.lookup f8 = some ⟨oc8, od8, .func (PySem.W.fnOf "__init__" "Taker.__init__" (defArgs s_Taker__init) (defBody s_Taker__init) (defScope s_Taker__init) .none (.ref D8) dc8 pm8 an8 cd8 ct8), sl8⟩)
    (c8 : PySem.W.codeIn K cd8 "Taker.__init__" = true)
    (k8 : PySem.W.keepIn K (.ref f8) = true)
    (d8 : PySem.W.nsIn K D8 "window" = some (some (.int 4 tk8)))
    (m9 : PySem.W.findIn K (.ref C_Taker) "came" = some (some (.ref f9)))
    (i9 : PySem.W.isFn K (.ref f9) = true)
    (l9 : K.lookup f9 = some ⟨oc9, od9, .func (PySem.W.fnOf "came" "Taker.came" (defArgs s_Taker_came) (defBody s_Taker_came) (defScope s_Taker_came) .none kV9 dc9 pm9 an9 cd9 ct9), sl9⟩)
    (c9 : PySem.W.codeIn K cd9 "Taker.came" = true)
    (k9 : PySem.W.keepIn K (.ref f9) = true)
    (m10 : PySem.W.findIn K (.ref C_Taker) "ends" = some (some (.ref f10)))
    (i10 : PySem.W.isFn K (.ref f10) = true)
    (l10 : K.lookup f10 = some ⟨oc10, od10, .func (PySem.W.fnOf "ends" "Taker.ends" (defArgs s_Taker_ends) (defBody s_Taker_ends) (defScope s_Taker_ends) .none kV10 dc10 pm10 an10 cd10 ct10), sl10⟩)
    (c10 : PySem.W.codeIn K cd10 "Taker.ends" = true)
    (k10 : PySem.W.keepIn K (.ref f10) = true)
    (m11 : PySem.W.findIn K (.ref C_Taker) "take" = some (some (.ref f11)))
    (i11 : PySem.W.isFn K (.ref f11) = true)
    (l11 : K.lookup f11 = some ⟨oc11, od11, .func (PySem.W.fnOf "take" "Taker.take" (defArgs s_Taker_take) (defBody s_Taker_take) (defScope s_Taker_take) .none kV11 dc11 pm11 an11 cd11 ct11), sl11⟩)
    (c11 : PySem.W.codeIn K cd11 "Taker.take" = true)
    (k11 : PySem.W.keepIn K (.ref f11) = true)
    (m12 : PySem.W.findIn K (.ref C_Taker) "told" = some (some (.ref f12)))
    (i12 : PySem.W.isFn K (.ref f12) = true)
    (l12 : K.lookup f12 = some ⟨oc12, od12, .func (PySem.W.fnOf "told" "Taker.told" (defArgs s_Taker_told) (defBody s_Taker_told) (defScope s_Taker_told) .none kV12 dc12 pm12 an12 cd12 ct12), sl12⟩)
    (c12 : PySem.W.codeIn K cd12 "Taker.told" = true)
    (k12 : PySem.W.keepIn K (.ref f12) = true)
    (m13 : PySem.W.findIn K (.ref C_Taker) "has_all" = some (some (.ref f13)))
    (i13 : PySem.W.isFn K (.ref f13) = true)
    (l13 : K.lookup f13 = some ⟨oc13, od13, .func (PySem.W.fnOf "has_all" "Taker.has_all" (defArgs s_Taker_has_all) (defBody s_Taker_has_all) (defScope s_Taker_has_all) .none kV13 dc13 pm13 an13 cd13 ct13), sl13⟩)
    (c13 : PySem.W.codeIn K cd13 "Taker.has_all" = true)
    (k13 : PySem.W.keepIn K (.ref f13) = true)
    (m14 : PySem.W.findIn K (.ref C_Taker) "is_ended" = some (some (.ref f14)))
    (i14 : PySem.W.isFn K (.ref f14) = true)
    (l14 : K.lookup f14 = some ⟨oc14, od14, .func (PySem.W.fnOf "is_ended" "Taker.is_ended" (defArgs s_Taker_is_ended) (defBody s_Taker_is_ended) (defScope s_Taker_is_ended) .none kV14 dc14 pm14 an14 cd14 ct14), sl14⟩)
    (c14 : PySem.W.codeIn K cd14 "Taker.is_ended" = true)
    (k14 : PySem.W.keepIn K (.ref f14) = true)
    (a15 : PySem.W.nsIn K mainGlobals "_law_draw" = some (some (.ref f15)))
    (l15 : K.lookup f15 = some ⟨oc15, od15, .func (PySem.W.fnOf "_law_draw" "_law_draw" (defArgs s_law_draw) (defBody s_law_draw) (defScope s_law_draw) .none kV15 dc15 pm15 an15 cd15 ct15), sl15⟩)
    (c15 : PySem.W.codeIn K cd15 "_law_draw" = true)
    (k15 : PySem.W.keepIn K (.ref f15) = true)
    (a16 : PySem.W.nsIn K mainGlobals "_law_is" = some (some (.ref f16)))
    (l16 : K.lookup f16 = some ⟨oc16, od16, .func (PySem.W.fnOf "_law_is" "_law_is" (defArgs s_law_is) (defBody s_law_is) (defScope s_law_is) .none kV16 dc16 pm16 an16 cd16 ct16), sl16⟩)
    (c16 : PySem.W.codeIn K cd16 "_law_is" = true)
    (k16 : PySem.W.keepIn K (.ref f16) = true)
    (a17 : PySem.W.nsIn K mainGlobals "_law_truth" = some (some (.ref f17)))
    (l17 : K.lookup f17 = some ⟨oc17, od17, .func (PySem.W.fnOf "_law_truth" "_law_truth" (defArgs s_law_truth) (defBody s_law_truth) (defScope s_law_truth) .none kV17 dc17 pm17 an17 cd17 ct17), sl17⟩)
    (c17 : PySem.W.codeIn K cd17 "_law_truth" = true)
    (k17 : PySem.W.keepIn K (.ref f17) = true)
    (a18 : PySem.W.nsIn K mainGlobals "_law_value" = some (some (.ref f18)))
    (l18 : K.lookup f18 = some ⟨oc18, od18, .func (PySem.W.fnOf "_law_value" "_law_value" (defArgs s_law_value) (defBody s_law_value) (defScope s_law_value) .none kV18 dc18 pm18 an18 cd18 ct18), sl18⟩)
    (c18 : PySem.W.codeIn K cd18 "_law_value" = true)
    (k18 : PySem.W.keepIn K (.ref f18) = true)
    (a19 : PySem.W.nsIn K mainGlobals "_law_wide" = some (some (.ref f19)))
    (l19 : K.lookup f19 = some ⟨oc19, od19, .func (PySem.W.fnOf "_law_wide" "_law_wide" (defArgs s_law_wide) (defBody s_law_wide) (defScope s_law_wide) .none kV19 dc19 pm19 an19 cd19 ct19), sl19⟩)
    (c19 : PySem.W.codeIn K cd19 "_law_wide" = true)
    (k19 : PySem.W.keepIn K (.ref f19) = true)
    (a20 : PySem.W.nsIn K mainGlobals "_law_put" = some (some (.ref f20)))
    (l20 : K.lookup f20 = some ⟨oc20, od20, .func (PySem.W.fnOf "_law_put" "_law_put" (defArgs s_law_put) (defBody s_law_put) (defScope s_law_put) .none kV20 dc20 pm20 an20 cd20 ct20), sl20⟩)
    (c20 : PySem.W.codeIn K cd20 "_law_put" = true)
    (k20 : PySem.W.keepIn K (.ref f20) = true)
    (a21 : PySem.W.nsIn K mainGlobals "_law_taken" = some (some (.ref f21)))
    (l21 : K.lookup f21 = some ⟨oc21, od21, .func (PySem.W.fnOf "_law_taken" "_law_taken" (defArgs s_law_taken) (defBody s_law_taken) (defScope s_law_taken) .none kV21 dc21 pm21 an21 cd21 ct21), sl21⟩)
    (c21 : PySem.W.codeIn K cd21 "_law_taken" = true)
    (k21 : PySem.W.keepIn K (.ref f21) = true)
    (a22 : PySem.W.nsIn K mainGlobals "_law_arrive" = some (some (.ref f22)))
    (l22 : K.lookup f22 = some ⟨oc22, od22, .func (PySem.W.fnOf "_law_arrive" "_law_arrive" (defArgs s_law_arrive) (defBody s_law_arrive) (defScope s_law_arrive) .none kV22 dc22 pm22 an22 cd22 ct22), sl22⟩)
    (c22 : PySem.W.codeIn K cd22 "_law_arrive" = true)
    (k22 : PySem.W.keepIn K (.ref f22) = true)
    (a23 : PySem.W.nsIn K mainGlobals "_law_led" = some (some (.ref f23)))
    (l23 : K.lookup f23 = some ⟨oc23, od23, .func (PySem.W.fnOf "_law_led" "_law_led" (defArgs s_law_led) (defBody s_law_led) (defScope s_law_led) .none kV23 dc23 pm23 an23 cd23 ct23), sl23⟩)
    (c23 : PySem.W.codeIn K cd23 "_law_led" = true)
    (k23 : PySem.W.keepIn K (.ref f23) = true)
    (a24 : PySem.W.nsIn K mainGlobals "_law_right" = some (some (.ref f24)))
    (l24 : K.lookup f24 = some ⟨oc24, od24, .func (PySem.W.fnOf "_law_right" "_law_right" (defArgs s_law_right) (defBody s_law_right) (defScope s_law_right) .none kV24 dc24 pm24 an24 cd24 ct24), sl24⟩)
    (c24 : PySem.W.codeIn K cd24 "_law_right" = true)
    (k24 : PySem.W.keepIn K (.ref f24) = true)
    (a25 : PySem.W.nsIn K mainGlobals "law" = some (some (.ref f25)))
    (l25 : K.lookup f25 = some ⟨oc25, od25, .func (PySem.W.fnOf "law" "law" (defArgs s_law) (defBody s_law) (defScope s_law) .none kV25 dc25 pm25 an25 cd25 ct25), sl25⟩)
    (c25 : PySem.W.codeIn K cd25 "law" = true)
    (k25 : PySem.W.keepIn K (.ref f25) = true)
    (eg_NoRoom : PySem.W.nsIn K mainGlobals "NoRoom" = some (some (.ref E_NoRoom)))
    (eq_NoRoom : PySem.W.excIn K E_NoRoom [.type "ValueError", .type "Exception", .type "BaseException", .type "object"] "ValueError.__new__" = true)
    (ek_NoRoom : PySem.W.keepIn K (.ref E_NoRoom) = true)
    (es_NoRoom : PySem.W.subIn K (.ref E_NoRoom) (.type "BaseException") = some true)
    (et_NoRoom : PySem.W.typeIn K (.ref E_NoRoom) = some (.type "type"))
    (ei_NoRoom : PySem.W.isClsIn K E_NoRoom = true)
    (ex_NoRoom : PySem.W.subIn K (.ref E_NoRoom) (.ref E_NoRoom) = some true)
    (z_len : PySem.W.nsIn K mainGlobals "len" = some none)
    (z_list : PySem.W.nsIn K mainGlobals "list" = some none)
    (z_range : PySem.W.nsIn K mainGlobals "range" = some none)
    (z_min : PySem.W.nsIn K mainGlobals "min" = some none)
    (z_max : PySem.W.nsIn K mainGlobals "max" = some none)
    (z_isinstance : PySem.W.nsIn K mainGlobals "isinstance" = some none)
    (z_int : PySem.W.nsIn K mainGlobals "int" = some none)
    (z_bool : PySem.W.nsIn K mainGlobals "bool" = some none)
    (z_enumerate : PySem.W.nsIn K mainGlobals "enumerate" = some none)
    : ∃ fd : FuncData, (∀ (s : Shared) (v : Value), BindsTo s fd ⟨[v], []⟩ [("_law_script", v)]) ∧ ∀ base : Heap, K.In base → base.Ns mainGlobals mg → FnOk l.prog w K mg base CX0 5 fa fd ["_law_script"] (spLaw K) := by
  have e := hfa.symm.trans (PySem.W.mg_of X G a25)
  cases e
  have cl_Giver : Cls K C_Giver := ⟨pg_Giver, hd_Giver, po_Giver, sa_Giver⟩
  have F_Giver__init := fun_mk (st := s_Giver__init) l1 c1 k1
  have M_Giver : Mk K C_Giver f1 := ⟨mk_Giver, m1, i1, kc_Giver⟩
  have F_Giver_put := fun_mk (st := s_Giver_put) l2 c2 k2
  have b_Giver_put := F_Giver_put.binds (ps := ["self", "value"]) fun _ _ _ _ _ _ us hl => match us, hl with | [_, _], _ => rfl
  have me_Giver_put : L2.Meth K C_Giver "put" f2 := ⟨m2, i2, k2⟩
  have F_Giver_shut := fun_mk (st := s_Giver_shut) l3 c3 k3
  have b_Giver_shut := F_Giver_shut.binds (ps := ["self"]) fun _ _ _ _ _ _ us hl => match us, hl with | [_], _ => rfl
  have me_Giver_shut : L2.Meth K C_Giver "shut" f3 := ⟨m3, i3, k3⟩
  have F_Giver_heard := fun_mk (st := s_Giver_heard) l4 c4 k4
  have b_Giver_heard := F_Giver_heard.binds (ps := ["self", "got", "room"]) fun _ _ _ _ _ _ us hl => match us, hl with | [_, _, _], _ => rfl
  have me_Giver_heard : L2.Meth K C_Giver "heard" f4 := ⟨m4, i4, k4⟩
  have F_Giver_wanted := fun_mk (st := s_Giver_wanted) l5 c5 k5
  have b_Giver_wanted := F_Giver_wanted.binds (ps := ["self"]) fun _ _ _ _ _ _ us hl => match us, hl with | [_], _ => rfl
  have me_Giver_wanted : L2.Meth K C_Giver "wanted" f5 := ⟨m5, i5, k5⟩
  have F_Giver_many := fun_mk (st := s_Giver_many) l6 c6 k6
  have b_Giver_many := F_Giver_many.binds (ps := ["self"]) fun _ _ _ _ _ _ us hl => match us, hl with | [_], _ => rfl
  have me_Giver_many : L2.Meth K C_Giver "many" f6 := ⟨m6, i6, k6⟩
  have F_Giver_is_shut := fun_mk (st := s_Giver_is_shut) l7 c7 k7
  have b_Giver_is_shut := F_Giver_is_shut.binds (ps := ["self"]) fun _ _ _ _ _ _ us hl => match us, hl with | [_], _ => rfl
  have me_Giver_is_shut : L2.Meth K C_Giver "is_shut" f7 := ⟨m7, i7, k7⟩
  have gC_Giver : mg "Giver" = some (.ref C_Giver) := PySem.W.mg_of X G g_Giver
  have cl_Taker : Cls K C_Taker := ⟨pg_Taker, hd_Taker, po_Taker, sa_Taker⟩
  have F_Taker__init := fun_mk (st := s_Taker__init) l8 c8 k8
  have M_Taker : Mk K C_Taker f8 := ⟨mk_Taker, m8, i8, kc_Taker⟩
  have F_Taker_came := fun_mk (st := s_Taker_came) l9 c9 k9
  have b_Taker_came := F_Taker_came.binds (ps := ["self", "place", "value"]) fun _ _ _ _ _ _ us hl => match us, hl with | [_, _, _], _ => rfl
  have me_Taker_came : L2.Meth K C_Taker "came" f9 := ⟨m9, i9, k9⟩
  have F_Taker_ends := fun_mk (st := s_Taker_ends) l10 c10 k10
  have b_Taker_ends := F_Taker_ends.binds (ps := ["self", "many"]) fun _ _ _ _ _ _ us hl => match us, hl with | [_, _], _ => rfl
  have me_Taker_ends : L2.Meth K C_Taker "ends" f10 := ⟨m10, i10, k10⟩
  have F_Taker_take := fun_mk (st := s_Taker_take) l11 c11 k11
  have b_Taker_take := F_Taker_take.binds (ps := ["self"]) fun _ _ _ _ _ _ us hl => match us, hl with | [_], _ => rfl
  have me_Taker_take : L2.Meth K C_Taker "take" f11 := ⟨m11, i11, k11⟩
  have F_Taker_told := fun_mk (st := s_Taker_told) l12 c12 k12
  have b_Taker_told := F_Taker_told.binds (ps := ["self"]) fun _ _ _ _ _ _ us hl => match us, hl with | [_], _ => rfl
  have me_Taker_told : L2.Meth K C_Taker "told" f12 := ⟨m12, i12, k12⟩
  have F_Taker_has_all := fun_mk (st := s_Taker_has_all) l13 c13 k13
  have b_Taker_has_all := F_Taker_has_all.binds (ps := ["self"]) fun _ _ _ _ _ _ us hl => match us, hl with | [_], _ => rfl
  have me_Taker_has_all : L2.Meth K C_Taker "has_all" f13 := ⟨m13, i13, k13⟩
  have F_Taker_is_ended := fun_mk (st := s_Taker_is_ended) l14 c14 k14
  have b_Taker_is_ended := F_Taker_is_ended.binds (ps := ["self"]) fun _ _ _ _ _ _ us hl => match us, hl with | [_], _ => rfl
  have me_Taker_is_ended : L2.Meth K C_Taker "is_ended" f14 := ⟨m14, i14, k14⟩
  have gC_Taker : mg "Taker" = some (.ref C_Taker) := PySem.W.mg_of X G g_Taker
  have F_law_draw := fun_mk (st := s_law_draw) l15 c15 k15
  have b_law_draw := F_law_draw.binds (ps := ["_law_hold", "_law_many"]) fun _ _ _ _ _ _ us hl => match us, hl with | [_, _], _ => rfl
  have g_law_draw : mg "_law_draw" = some (.ref f15) := PySem.W.mg_of X G a15
  have F_law_is := fun_mk (st := s_law_is) l16 c16 k16
  have b_law_is := F_law_is.binds (ps := ["_law_found", "_law_due"]) fun _ _ _ _ _ _ us hl => match us, hl with | [_, _], _ => rfl
  have g_law_is : mg "_law_is" = some (.ref f16) := PySem.W.mg_of X G a16
  have F_law_truth := fun_mk (st := s_law_truth) l17 c17 k17
  have b_law_truth := F_law_truth.binds (ps := ["_law_found", "_law_due"]) fun _ _ _ _ _ _ us hl => match us, hl with | [_, _], _ => rfl
  have g_law_truth : mg "_law_truth" = some (.ref f17) := PySem.W.mg_of X G a17
  have F_law_value := fun_mk (st := s_law_value) l18 c18 k18
  have b_law_value := F_law_value.binds (ps := ["_law_hold"]) fun _ _ _ _ _ _ us hl => match us, hl with | [_], _ => rfl
  have g_law_value : mg "_law_value" = some (.ref f18) := PySem.W.mg_of X G a18
  have F_law_wide := fun_mk (st := s_law_wide) l19 c19 k19
  have b_law_wide := F_law_wide.binds (ps := ["_law_hold"]) fun _ _ _ _ _ _ us hl => match us, hl with | [_], _ => rfl
  have g_law_wide : mg "_law_wide" = some (.ref f19) := PySem.W.mg_of X G a19
  have F_law_put := fun_mk (st := s_law_put) l20 c20 k20
  have b_law_put := F_law_put.binds (ps := ["_law_giver", "_law_pieces", "_law_often"]) fun _ _ _ _ _ _ us hl => match us, hl with | [_, _, _], _ => rfl
  have g_law_put : mg "_law_put" = some (.ref f20) := PySem.W.mg_of X G a20
  have F_law_taken := fun_mk (st := s_law_taken) l21 c21 k21
  have b_law_taken := F_law_taken.binds (ps := ["_law_taker", "_law_pieces", "_law_many", "_law_often"]) fun _ _ _ _ _ _ us hl => match us, hl with | [_, _, _, _], _ => rfl
  have g_law_taken : mg "_law_taken" = some (.ref f21) := PySem.W.mg_of X G a21
  have F_law_arrive := fun_mk (st := s_law_arrive) l22 c22 k22
  have b_law_arrive := F_law_arrive.binds (ps := ["_law_hold", "_law_taker", "_law_giver", "_law_sent", "_law_told"]) fun _ _ _ _ _ _ us hl => match us, hl with | [_, _, _, _, _], _ => rfl
  have g_law_arrive : mg "_law_arrive" = some (.ref f22) := PySem.W.mg_of X G a22
  have F_law_led := fun_mk (st := s_law_led) l23 c23 k23
  have b_law_led := F_law_led.binds (ps := ["_law_giver", "_law_taker", "_law_pieces", "_law_many"]) fun _ _ _ _ _ _ us hl => match us, hl with | [_, _, _, _], _ => rfl
  have g_law_led : mg "_law_led" = some (.ref f23) := PySem.W.mg_of X G a23
  have F_law_right := fun_mk (st := s_law_right) l24 c24 k24
  have b_law_right := F_law_right.binds (ps := ["_law_giver", "_law_taker", "_law_pieces", "_law_state"]) fun _ _ _ _ _ _ us hl => match us, hl with | [_, _, _, _], _ => rfl
  have g_law_right : mg "_law_right" = some (.ref f24) := PySem.W.mg_of X G a24
  have F_law := fun_mk (st := s_law) l25 c25 k25
  have b_law := F_law.binds (ps := ["_law_script"]) fun _ _ _ _ _ _ us hl => match us, hl with | [_], _ => rfl
  have cNoRoom : ExcC K mg "NoRoom" E_NoRoom := ⟨PySem.W.mg_of X G eg_NoRoom, eq_NoRoom, ek_NoRoom, es_NoRoom, et_NoRoom⟩
  have xNoRoom : PySem.W.exmOne K (.ref E_NoRoom) (.ref E_NoRoom) = some true := exm_sub es_NoRoom ei_NoRoom et_NoRoom ex_NoRoom
  have z_len : mg "len" = none := PySem.W.mg_none_of X G z_len
  have z_list : mg "list" = none := PySem.W.mg_none_of X G z_list
  have z_range : mg "range" = none := PySem.W.mg_none_of X G z_range
  have z_min : mg "min" = none := PySem.W.mg_none_of X G z_min
  have z_max : mg "max" = none := PySem.W.mg_none_of X G z_max
  have z_isinstance : mg "isinstance" = none := PySem.W.mg_none_of X G z_isinstance
  have z_int : mg "int" = none := PySem.W.mg_none_of X G z_int
  have z_bool : mg "bool" = none := PySem.W.mg_none_of X G z_bool
  have z_enumerate : mg "enumerate" = none := PySem.W.mg_none_of X G z_enumerate
  refine ⟨PySem.W.fnOf "law" "law" (defArgs s_law) (defBody s_law) (defScope s_law) .none kV25 dc25 pm25 an25 cd25 ct25, fun s v => .of_eq rfl, fun base _ _ => ?_⟩
  have TG : GvCls K C_Giver := ⟨cl_Giver, na_Giver_below, na_Giver_behind, na_Giver_pieces, na_Giver_closed⟩
  have FG : FunD K "__init__" "Giver.__init__" (defArgs s_Giver__init) (defBody s_Giver__init) (defScope s_Giver__init) [] [("window", V.int 4)] _ _ := ⟨⟨_, _, _, _, _, _, _, _, _, _, rfl, l1, c1, .inl ⟨rfl, rfl⟩, .inr ⟨_, rfl, fun q hq => by rw [List.mem_singleton.mp hq]; exact ⟨_, d1, _, rfl⟩⟩⟩, k1⟩
  obtain ⟨mv, KBG⟩ := FG.kbinds0 (ps := ["self", "window"]) 1 ["window"] [] (fun us mv ws => us ++ ws) (by simp) (fun _ h => nomatch h) (fun r1 _ r2 => r1.append r2) (fun D doc pm an cdv ct us mv ws h1 h2 h3 => match us, ws, h1, h3 with | [_], [_], _, _ => rfl)
  have mkg : MakK l.prog w K mg base CX0 1 "Giver" C_Giver ["window"] (spGvInit C_Giver) := ⟨_, _, _, _, M_Giver, ok_Giver__init F_Giver__init TG, gC_Giver, KBG⟩
  have T : TkCls K C_Taker := ⟨cl_Taker, na_Taker_wide, na_Taker_taken, na_Taker_kept, na_Taker_end⟩
  have FD : FunD K "__init__" "Taker.__init__" (defArgs s_Taker__init) (defBody s_Taker__init) (defScope s_Taker__init) [] [("window", V.int 4)] _ _ := ⟨⟨_, _, _, _, _, _, _, _, _, _, rfl, l8, c8, .inl ⟨rfl, rfl⟩, .inr ⟨_, rfl, fun q hq => by rw [List.mem_singleton.mp hq]; exact ⟨_, d8, _, rfl⟩⟩⟩, k8⟩
  obtain ⟨mv, KB⟩ := FD.kbinds0 (ps := ["self", "window"]) 1 ["window"] [] (fun us mv ws => us ++ ws) (by simp) (fun _ h => nomatch h) (fun r1 _ r2 => r1.append r2) (fun D doc pm an cdv ct us mv ws h1 h2 h3 => match us, ws, h1, h3 with | [_], [_], _, _ => rfl)
  have mk : MakK l.prog w K mg base CX0 1 "Taker" C_Taker ["window"] (spTkInit C_Taker) := ⟨_, _, _, _, M_Taker, ok_Taker__init F_Taker__init T, gC_Taker, KB⟩
  have mmany : Met l.prog w K mg base CX0 1 C_Giver "many" (spMany C_Giver) := ⟨_, _, _, cl_Giver, me_Giver_many, ok_Giver_many F_Giver_many TG z_len, b_Giver_many⟩
  have mput : Met l.prog w K mg base (L2.CX l.prog w) 2 C_Giver "put" (spPutX C_Giver E_NoRoom) := ⟨_, _, _, cl_Giver, me_Giver_put, ok_Giver_put F_Giver_put TG cNoRoom mmany, b_Giver_put⟩
  have mheard : Met l.prog w K mg base CX0 1 C_Giver "heard" (spHeard C_Giver) := ⟨_, _, _, cl_Giver, me_Giver_heard, ok_Giver_heard F_Giver_heard TG z_max, b_Giver_heard⟩
  have mshut : Met l.prog w K mg base CX0 1 C_Giver "shut" (spShut0 C_Giver) := ⟨_, _, _, cl_Giver, me_Giver_shut, ok_Giver_shut F_Giver_shut TG, b_Giver_shut⟩
  have mwanted : Met l.prog w K mg base CX0 1 C_Giver "wanted" (spWanted C_Giver) := ⟨_, _, _, cl_Giver, me_Giver_wanted, ok_Giver_wanted F_Giver_wanted TG z_enumerate, b_Giver_wanted⟩
  have misshut : Met l.prog w K mg base CX0 1 C_Giver "is_shut" (spIsShut C_Giver) := ⟨_, _, _, cl_Giver, me_Giver_is_shut, ok_Giver_is_shut F_Giver_is_shut TG, b_Giver_is_shut⟩
  have mcame : Met l.prog w K mg base CX0 1 C_Taker "came" (spCame C_Taker) := ⟨_, _, _, cl_Taker, me_Taker_came, ok_Taker_came F_Taker_came T, b_Taker_came⟩
  have mends : Met l.prog w K mg base CX0 1 C_Taker "ends" (spEnds C_Taker) := ⟨_, _, _, cl_Taker, me_Taker_ends, ok_Taker_ends F_Taker_ends T, b_Taker_ends⟩
  have mtake : Met l.prog w K mg base CX0 1 C_Taker "take" (spTake C_Taker) := ⟨_, _, _, cl_Taker, me_Taker_take, ok_Taker_take F_Taker_take T, b_Taker_take⟩
  have mtold : Met l.prog w K mg base CX0 1 C_Taker "told" (spTold C_Taker) := ⟨_, _, _, cl_Taker, me_Taker_told, ok_Taker_told F_Taker_told T, b_Taker_told⟩
  have mhasall : Met l.prog w K mg base CX0 2 C_Taker "has_all" (spHasAll C_Taker) := ⟨_, _, _, cl_Taker, me_Taker_has_all, ok_Taker_has_all F_Taker_has_all T mtold, b_Taker_has_all⟩
  have misended : Met l.prog w K mg base CX0 1 C_Taker "is_ended" (spIsEnded C_Taker) := ⟨_, _, _, cl_Taker, me_Taker_is_ended, ok_Taker_is_ended F_Taker_is_ended T, b_Taker_is_ended⟩
  have cd : Cal l.prog w K mg base CX0 1 "_law_draw" spDraw := ⟨_, _, _, ok_draw F_law_draw z_len, g_law_draw, F_law_draw.kp, b_law_draw⟩
  have cv : Cal l.prog w K mg base CX0 2 "_law_value" spValue := ⟨_, _, _, ok_law_value F_law_value cd z_range, g_law_value, F_law_value.kp, b_law_value⟩
  have cw : Cal l.prog w K mg base CX0 2 "_law_wide" spWide := ⟨_, _, _, ok_law_wide F_law_wide cd, g_law_wide, F_law_wide.kp, b_law_wide⟩
  have cis : Cal l.prog w K mg base CX0 1 "_law_is" spIs := ⟨_, _, _, ok_law_is F_law_is z_isinstance z_int z_bool, g_law_is, F_law_is.kp, b_law_is⟩
  have ctr : Cal l.prog w K mg base CX0 1 "_law_truth" spTruth := ⟨_, _, _, ok_law_truth F_law_truth z_isinstance z_bool, g_law_truth, F_law_truth.kp, b_law_truth⟩
  have clp : Cal l.prog w K mg base CX0 3 "_law_put" (spLPut C_Giver) := ⟨_, _, _, ok_law_put F_law_put cNoRoom xNoRoom mmany mput z_len z_range, g_law_put, F_law_put.kp, b_law_put⟩
  have clt : Cal l.prog w K mg base CX0 2 "_law_taken" (spLTk C_Taker) := ⟨_, _, _, ok_law_taken F_law_taken mtake cis z_len z_range, g_law_taken, F_law_taken.kp, b_law_taken⟩
  have carr : Cal l.prog w K mg base CX0 2 "_law_arrive" (spArr C_Taker C_Giver) := ⟨_, _, _, ok_law_arrive F_law_arrive cd mcame mheard z_len z_max, g_law_arrive, F_law_arrive.kp, b_law_arrive⟩
  have clr : Cal l.prog w K mg base CX0 2 "_law_right" (spRightK C_Taker C_Giver) := ⟨_, _, _, ok_law_right F_law_right mmany mwanted misended ctr z_len, g_law_right, F_law_right.kp, b_law_right⟩
  have cled : Cal l.prog w K mg base CX0 4 "_law_led" (spLed C_Taker C_Giver) := ⟨_, _, _, ok_law_led F_law_led clp clt mmany misshut mshut mwanted mheard mcame mends mtold misended mhasall z_len z_range, g_law_led, F_law_led.kp, b_law_led⟩
  exact ok_law F_law cd cv cw mkg mk clp clt carr clr cled mmany misshut mshut mwanted mends mtold z_list z_len z_range z_max z_min
end G

set_option linter.all false
set_option maxRecDepth 100000
set_option maxHeartbeats 4000000
open PySem PySem.W PyProof.Rows
set_option maxRecDepth 100000 in
set_option maxHeartbeats 0 in
theorem PySem.Challenge.cw_farasked_k11_whole_ways_holds : PySem.Challenge.rw_farasked_k11_whole_ways.Holds := by
  w_on; o_law; k_head; (case hw => w_witness2)
  k_fill
  refine L2.walk_of (l := PySem.Challenge.rw_farasked_k11_whole_ways) (n := 63) (k := 5) (x := "_law_script") (CX := fun _ => L2.CX0) (sp := fun w => G.spLaw _) rfl (by decide) rfl ⟨rfl, by decide, by decide⟩ (fun w h Y => PySem.W.kIn_of Y) ?F (fun _ _ a ns hl _ hS => ⟨a, ns, rfl, hS, hl, fun _ => rfl⟩) (fun _ _ _ _ _ h => h)
  case F =>
    intro w mg fa h KX GN hmg
    refine' G.all_mk KX GN hmg ?g_Giver ?pg_Giver ?hd_Giver ?po_Giver ?sa_Giver ?mk_Giver ?kc_Giver ?na_Giver_below ?na_Giver_behind ?na_Giver_pieces ?na_Giver_closed ?m1 ?i1 ?l1 ?c1 ?k1 ?d1 ?m2 ?i2 ?l2 ?c2 ?k2 ?m3 ?i3 ?l3 ?c3 ?k3 ?m4 ?i4 ?l4 ?c4 ?k4 ?m5 ?i5 ?l5 ?c5 ?k5 ?m6 ?i6 ?l6 ?c6 ?k6 ?m7 ?i7 ?l7 ?c7 ?k7 ?g_Taker ?pg_Taker ?hd_Taker ?po_Taker ?sa_Taker ?mk_Taker ?kc_Taker ?na_Taker_wide ?na_Taker_taken ?na_Taker_kept ?na_Taker_end ?m8 ?i8 ?l8 ?c8 ?k8 ?d8 ?m9 ?i9 ?l9 ?c9 ?k9 ?m10 ?i10 ?l10 ?c10 ?k10 ?m11 ?i11 ?l11 ?c11 ?k11 ?m12 ?i12 ?l12 ?c12 ?k12 ?m13 ?i13 ?l13 ?c13 ?k13 ?m14 ?i14 ?l14 ?c14 ?k14 ?a15 ?l15 ?c15 ?k15 ?a16 ?l16 ?c16 ?k16 ?a17 ?l17 ?c17 ?k17 ?a18 ?l18 ?c18 ?k18 ?a19 ?l19 ?c19 ?k19 ?a20 ?l20 ?c20 ?k20 ?a21 ?l21 ?c21 ?k21 ?a22 ?l22 ?c22 ?k22 ?a23 ?l23 ?c23 ?k23 ?a24 ?l24 ?c24 ?k24 ?a25 ?l25 ?c25 ?k25 ?eg_NoRoom ?eq_NoRoom ?ek_NoRoom ?es_NoRoom ?et_NoRoom ?ei_NoRoom ?ex_NoRoom ?z_len ?z_list ?z_range ?z_min ?z_max ?z_isinstance ?z_int ?z_bool ?z_enumerate
    (case g_Giver => first | k_is | k_exc | rfl)
    (case pg_Giver => first | k_is | k_exc | rfl)
    (case hd_Giver => first | k_is | k_exc | rfl)
    (case po_Giver => first | k_is | k_exc | rfl)
    (case sa_Giver => first | k_is | k_exc | rfl)
    (case mk_Giver => first | k_is | k_exc | rfl)
    (case kc_Giver => first | k_is | k_exc | rfl)
    (case na_Giver_below => first | k_is | k_exc | rfl)
    (case na_Giver_behind => first | k_is | k_exc | rfl)
    (case na_Giver_pieces => first | k_is | k_exc | rfl)
    (case na_Giver_closed => first | k_is | k_exc | rfl)
    (case m1 => first | k_is | k_exc | rfl)
    (case i1 => first | k_is | k_exc | rfl)
    (case l1 => first | k_is | k_exc | rfl)
    (case c1 => first | k_is | k_exc | rfl)
    (case k1 => first | k_is | k_exc | rfl)
    (case d1 => first | k_is | k_exc | rfl)
    (case m2 => first | k_is | k_exc | rfl)
    (case i2 => first | k_is | k_exc | rfl)
    (case l2 => first | k_is | k_exc | rfl)
    (case c2 => first | k_is | k_exc | rfl)
    (case k2 => first | k_is | k_exc | rfl)
    (case m3 => first | k_is | k_exc | rfl)
    (case i3 => first | k_is | k_exc | rfl)
    (case l3 => first | k_is | k_exc | rfl)
    (case c3 => first | k_is | k_exc | rfl)
    (case k3 => first | k_is | k_exc | rfl)
    (case m4 => first | k_is | k_exc | rfl)
    (case i4 => first | k_is | k_exc | rfl)
    (case l4 => first | k_is | k_exc | rfl)
    (case c4 => first | k_is | k_exc | rfl)
    (case k4 => first | k_is | k_exc | rfl)
    (case m5 => first | k_is | k_exc | rfl)
    (case i5 => first | k_is | k_exc | rfl)
    (case l5 => first | k_is | k_exc | rfl)
    (case c5 => first | k_is | k_exc | rfl)
    (case k5 => first | k_is | k_exc | rfl)
    (case m6 => first | k_is | k_exc | rfl)
    (case i6 => first | k_is | k_exc | rfl)
    (case l6 => first | k_is | k_exc | rfl)
    (case c6 => first | k_is | k_exc | rfl)
    (case k6 => first | k_is | k_exc | rfl)
    (case m7 => first | k_is | k_exc | rfl)
    (case i7 => first | k_is | k_exc | rfl)
    (case l7 => first | k_is | k_exc | rfl)
    (case c7 => first | k_is | k_exc | rfl)
    (case k7 => first | k_is | k_exc | rfl)
    (case g_Taker => first | k_is | k_exc | rfl)
    (case pg_Taker => first | k_is | k_exc | rfl)
    (case hd_Taker => first | k_is | k_exc | rfl)
    (case po_Taker => first | k_is | k_exc | rfl)
    (case sa_Taker => first | k_is | k_exc | rfl)
    (case mk_Taker => first | k_is | k_exc | rfl)
    (case kc_Taker => first | k_is | k_exc | rfl)
    (case na_Taker_wide => first | k_is | k_exc | rfl)
    (case na_Taker_taken => first | k_is | k_exc | rfl)
    (case na_Taker_kept => first | k_is | k_exc | rfl)
    (case na_Taker_end => first | k_is | k_exc | rfl)
    (case m8 => first | k_is | k_exc | rfl)
    (case i8 => first | k_is | k_exc | rfl)
    (case l8 => first | k_is | k_exc | rfl)
    (case c8 => first | k_is | k_exc | rfl)
    (case k8 => first | k_is | k_exc | rfl)
    (case d8 => first | k_is | k_exc | rfl)
    (case m9 => first | k_is | k_exc | rfl)
    (case i9 => first | k_is | k_exc | rfl)
    (case l9 => first | k_is | k_exc | rfl)
    (case c9 => first | k_is | k_exc | rfl)
    (case k9 => first | k_is | k_exc | rfl)
    (case m10 => first | k_is | k_exc | rfl)
    (case i10 => first | k_is | k_exc | rfl)
    (case l10 => first | k_is | k_exc | rfl)
    (case c10 => first | k_is | k_exc | rfl)
    (case k10 => first | k_is | k_exc | rfl)
    (case m11 => first | k_is | k_exc | rfl)
    (case i11 => first | k_is | k_exc | rfl)
    (case l11 => first | k_is | k_exc | rfl)
    (case c11 => first | k_is | k_exc | rfl)
    (case k11 => first | k_is | k_exc | rfl)
    (case m12 => first | k_is | k_exc | rfl)
    (case i12 => first | k_is | k_exc | rfl)
    (case l12 => first | k_is | k_exc | rfl)
    (case c12 => first | k_is | k_exc | rfl)
    (case k12 => first | k_is | k_exc | rfl)
    (case m13 => first | k_is | k_exc | rfl)
    (case i13 => first | k_is | k_exc | rfl)
    (case l13 => first | k_is | k_exc | rfl)
    (case c13 => first | k_is | k_exc | rfl)
    (case k13 => first | k_is | k_exc | rfl)
    (case m14 => first | k_is | k_exc | rfl)
    (case i14 => first | k_is | k_exc | rfl)
    (case l14 => first | k_is | k_exc | rfl)
    (case c14 => first | k_is | k_exc | rfl)
    (case k14 => first | k_is | k_exc | rfl)
    (case a15 => first | k_is | k_exc | rfl)
    (case l15 => first | k_is | k_exc | rfl)
    (case c15 => first | k_is | k_exc | rfl)
    (case k15 => first | k_is | k_exc | rfl)
    (case a16 => first | k_is | k_exc | rfl)
    (case l16 => first | k_is | k_exc | rfl)
    (case c16 => first | k_is | k_exc | rfl)
    (case k16 => first | k_is | k_exc | rfl)
    (case a17 => first | k_is | k_exc | rfl)
    (case l17 => first | k_is | k_exc | rfl)
    (case c17 => first | k_is | k_exc | rfl)
    (case k17 => first | k_is | k_exc | rfl)
    (case a18 => first | k_is | k_exc | rfl)
    (case l18 => first | k_is | k_exc | rfl)
    (case c18 => first | k_is | k_exc | rfl)
    (case k18 => first | k_is | k_exc | rfl)
    (case a19 => first | k_is | k_exc | rfl)
    (case l19 => first | k_is | k_exc | rfl)
    (case c19 => first | k_is | k_exc | rfl)
    (case k19 => first | k_is | k_exc | rfl)
    (case a20 => first | k_is | k_exc | rfl)
    (case l20 => first | k_is | k_exc | rfl)
    (case c20 => first | k_is | k_exc | rfl)
    (case k20 => first | k_is | k_exc | rfl)
    (case a21 => first | k_is | k_exc | rfl)
    (case l21 => first | k_is | k_exc | rfl)
    (case c21 => first | k_is | k_exc | rfl)
    (case k21 => first | k_is | k_exc | rfl)
    (case a22 => first | k_is | k_exc | rfl)
    (case l22 => first | k_is | k_exc | rfl)
    (case c22 => first | k_is | k_exc | rfl)
    (case k22 => first | k_is | k_exc | rfl)
    (case a23 => first | k_is | k_exc | rfl)
    (case l23 => first | k_is | k_exc | rfl)
    (case c23 => first | k_is | k_exc | rfl)
    (case k23 => first | k_is | k_exc | rfl)
    (case a24 => first | k_is | k_exc | rfl)
    (case l24 => first | k_is | k_exc | rfl)
    (case c24 => first | k_is | k_exc | rfl)
    (case k24 => first | k_is | k_exc | rfl)
    (case a25 => first | k_is | k_exc | rfl)
    (case l25 => first | k_is | k_exc | rfl)
    (case c25 => first | k_is | k_exc | rfl)
    (case k25 => first | k_is | k_exc | rfl)
    (case eg_NoRoom => first | k_is | k_exc | rfl)
    (case eq_NoRoom => first | k_is | k_exc | rfl)
    (case ek_NoRoom => first | k_is | k_exc | rfl)
    (case es_NoRoom => first | k_is | k_exc | rfl)
    (case et_NoRoom => first | k_is | k_exc | rfl)
    (case ei_NoRoom => first | k_is | k_exc | rfl)
    (case ex_NoRoom => first | k_is | k_exc | rfl)
    (case z_len => first | k_is | k_exc | rfl)
    (case z_list => first | k_is | k_exc | rfl)
    (case z_range => first | k_is | k_exc | rfl)
    (case z_min => first | k_is | k_exc | rfl)
    (case z_max => first | k_is | k_exc | rfl)
    (case z_isinstance => first | k_is | k_exc | rfl)
    (case z_int => first | k_is | k_exc | rfl)
    (case z_bool => first | k_is | k_exc | rfl)
    (case z_enumerate => first | k_is | k_exc | rfl)

