import PyProof.Rows.All
import Wide.All
import OpenK.AllK
import Wide.FinOn
import HandS.ForMost
import HandS.Wide
import HandS.Flow
import HandS.Defaults
import HandS.MakeKwOnly
import HandS.Codes
import HandS.More
import HandS.NoneIn
import HandS.Style
import HandS.IsInst
import KE.Datum
import HandS.Walk
import HandS.TupLen
import HandS.Zip
import HandS.Text
import HandS.RevTup
import HandS.Conv
import HandS.DictComp
import HandS.ExcOwn
import HandS.TryOnly
import HandS.WordsExc
import HandS.ExcIs
import HandS.DictTup
import KE.KSortTupG
import KE.OsSort
import HandS.Set
import HandS.SetBool
import HandS.SetTxt0
import HandS.Strs
import PyProof.Rows.StrMeet
import HandS.OwnIter
import KE.KDictPairs
import HandS.Call
import HandS.List
import HandS.TupAny
import HandS.TupMul
import HandS.Steps
import PyProof.EqAt
import PyProof.NeKinds
import HandS.RaiseMore
import HandS.TupLe
import PySem.Challenge.RW_farasked_k01_frames_known
set_option Elab.async false
set_option linter.all false
set_option maxRecDepth 100000
/-! what stands in the heap, as one list of cells -/
namespace G
open PySem PySem.Spec PyProof.Rows L2

/-- a cell: 0 read alone, 1 of the caller's and to be changed, 2 new here -/
abbrev Cell := Nat × Addr × HO
structure Sep (H0 : Hp) (ft : List Addr) (H : Hp) (l : List Cell) : Prop where
  nd : (l.map (·.2.1)).Nodup
  rd : ∀ c ∈ l, H c.2.1 = some c.2.2
  fr : ∀ b o, H0 b = some o → b ∉ ft → H b = some o
  wr : ∀ c ∈ l, c.1 = 1 → c.2.1 ∈ ft
  nw : ∀ c ∈ l, c.1 = 2 → H0 c.2.1 = none
  ex : ∀ b ∈ ft, ∃ o, H b = some o
section
variable {H0 H H' : Hp} {ft : List Addr} {l : List Cell} {t : Nat} {a p q b : Addr} {o o' u : HO}
theorem Sep.nil (ex : ∀ b ∈ ft, ∃ o, H b = some o) : Sep H ft H [] := ⟨List.nodup_nil, fun _ h => (nomatch h), fun _ _ h _ => h, fun _ h => (nomatch h), fun _ h => (nomatch h), ex⟩
theorem Sep.mem (S : Sep H0 ft H l) (i : Nat) {c : Cell} (h : l[i]? = some c) : c ∈ l := List.mem_of_getElem? h
theorem Sep.get (S : Sep H0 ft H l) (i : Nat) (h : l[i]? = some (t, a, o)) : H a = some o := S.rd _ (List.mem_of_getElem? h)
theorem Sep.new_none (S : Sep H0 ft H l) (i : Nat) (h : l[i]? = some (2, a, o)) : H0 a = none := S.nw _ (List.mem_of_getElem? h) rfl
theorem Sep.ne {t t' : Nat} (S : Sep H0 ft H l) (i j : Nat) (h : l[i]? = some (t, a, o)) (h' : l[j]? = some (t', b, u)) (d : i ≠ j) : a ≠ b := by
  intro e
  have h1 : (l.map (·.2.1))[i]? = some a := by rw [List.getElem?_map, h]; rfl
  have h2 : (l.map (·.2.1))[j]? = some a := by rw [List.getElem?_map, h', e]; rfl
  obtain ⟨x1, e1⟩ := List.getElem?_eq_some_iff.mp h1
  obtain ⟨x2, e2⟩ := List.getElem?_eq_some_iff.mp h2
  exact d ((List.getElem_inj S.nd).mp (e1.trans e2.symm))
theorem Sep.add (S : Sep H0 ft H l) (t : Nat) (ha : H a = some o) (hn : ∀ c ∈ l, c.2.1 ≠ a) (h1 : t = 1 → a ∈ ft) (h2 : t = 2 → H0 a = none) : Sep H0 ft H ((t, a, o) :: l) :=
  ⟨List.nodup_cons.mpr ⟨fun m => by obtain ⟨c, hc, e⟩ := List.mem_map.mp m; exact hn c hc e, S.nd⟩,
   fun c hc => (List.mem_cons.mp hc).elim (fun e => by rw [e]; exact ha) (S.rd c), S.fr,
   fun c hc => (List.mem_cons.mp hc).elim (fun e => by rw [e]; exact h1) (S.wr c),
   fun c hc => (List.mem_cons.mp hc).elim (fun e => by rw [e]; exact h2) (S.nw c), S.ex⟩
/-- what is not there was not there at the entry, where all that may be changed is there -/
theorem Sep.none0 (S : Sep H0 ft H l) (hp : H p = none) : H0 p = none := by
  cases e : H0 p with
  | none => rfl
  | some o =>
    by_cases m : p ∈ ft
    · obtain ⟨u, hu⟩ := S.ex p m
      rw [hp] at hu; cases hu
    · have := S.fr p o e m
      rw [hp] at this; cases this
theorem Sep.new (S : Sep H0 ft H l) (hp : H p = none) (o : HO) : Sep H0 ft (upd H p o) ((2, p, o) :: l) := by
  have h0 := S.none0 hp
  have hne : ∀ c ∈ l, c.2.1 ≠ p := fun c hc e => by
    have := S.rd c hc
    rw [e, hp] at this; cases this
  have S' : Sep H0 ft (upd H p o) l := ⟨S.nd, fun c hc => by rw [upd_ne (hne c hc)]; exact S.rd c hc, fun b u e m => by rw [upd_ne (ne_of_none e h0)]; exact S.fr b u e m, S.wr, S.nw, fun b m => by obtain ⟨u, hu⟩ := S.ex b m; exact ⟨u, by rw [upd_ne (ne_of_none hu hp)]; exact hu⟩⟩
  exact S'.add 2 upd_same hne (fun e => by cases e) fun _ => h0
theorem Sep.put (S : Sep H0 ft H l) (i : Nat) (o' : HO) (h : l[i]? = some (t, a, o)) (ht : t = 1 ∨ t = 2 := by first | exact .inl rfl | exact .inr rfl) : Sep H0 ft (upd H a o') (l.set i (t, a, o')) := by
  have hw : H0 a = none ∨ a ∈ ft := by
    rcases ht with e | e
    · exact .inr (S.wr _ (List.mem_of_getElem? h) e)
    · exact .inl (S.nw _ (List.mem_of_getElem? h) e)
  have hi : i < l.length := (List.getElem?_eq_some_iff.mp h).1
  have em : (l.set i (t, a, o')).map (·.2.1) = l.map (·.2.1) := by
    rw [List.map_set]
    have : (l.map (·.2.1))[i]? = some a := by rw [List.getElem?_map, h]; rfl
    obtain ⟨x, e⟩ := List.getElem?_eq_some_iff.mp this
    rw [← e]
    exact List.set_getElem_self x
  refine ⟨by rw [em]; exact S.nd, fun c hc => ?_, fun b u e m => ?_, fun c hc => ?_, fun c hc => ?_, fun b m => ?_⟩
  · rcases List.getElem?_of_mem hc with ⟨j, hj⟩
    by_cases e : i = j
    · subst e
      rw [List.getElem?_set_self hi] at hj
      cases hj
      exact upd_same
    · rw [List.getElem?_set_ne e] at hj
      have hne : c.2.1 ≠ a := S.ne (t := c.1) (o := c.2.2) j i hj h (Ne.symm e)
      rw [upd_ne hne]
      exact S.rd c (List.mem_of_getElem? hj)
  · have nb : b ≠ a := fun z => by
      rw [z] at e m
      rcases hw with k | k
      · rw [k] at e; cases e
      · exact m k
    rw [upd_ne nb]
    exact S.fr b u e m
  · rcases List.mem_or_eq_of_mem_set hc with hc | rfl
    · exact S.wr c hc
    · exact fun e => S.wr (t, a, o) (List.mem_of_getElem? h) e
  · rcases List.mem_or_eq_of_mem_set hc with hc | rfl
    · exact S.nw c hc
    · exact fun e => S.nw (t, a, o) (List.mem_of_getElem? h) e
  · obtain ⟨u, hu⟩ := S.ex b m
    by_cases e : b = a
    · subst e; exact ⟨_, upd_same⟩
    · exact ⟨u, by rw [upd_ne e]; exact hu⟩
/-- behind a call that changes nothing that was -/
theorem Sep.stay (S : Sep H0 ft H l) (F : ∀ b o, H b = some o → H' b = some o) : Sep H0 ft H' l :=
  ⟨S.nd, fun c hc => F _ _ (S.rd c hc), fun b o e m => F b o (S.fr b o e m), S.wr, S.nw, fun b m => let ⟨u, hu⟩ := S.ex b m; ⟨u, F b u hu⟩⟩
/-- behind a call that changes the i-th cell alone -/
theorem Sep.chg1 (S : Sep H0 ft H l) (i : Nat) (h : l[i]? = some (t, a, o)) (F : ∀ b u, H b = some u → b ≠ a → H' b = some u) (e : H' a = some o') (ht : t = 1 ∨ t = 2 := by first | exact .inl rfl | exact .inr rfl) :
    Sep H0 ft H' (l.set i (t, a, o')) := by
  have S1 := S.put i o' h ht
  refine S1.stay fun b u hb => ?_
  by_cases z : b = a
  · subst z; rw [upd_same] at hb; cases hb; exact e
  · rw [upd_ne z] at hb; exact F b u hb z
theorem Sep.chg2 {t' : Nat} {o2 o2' : HO} (S : Sep H0 ft H l) (i j : Nat) (h : l[i]? = some (t, a, o)) (h' : l[j]? = some (t', b, o2)) (d : i ≠ j) (F : ∀ c u, H c = some u → c ≠ a → c ≠ b → H' c = some u) (e : H' a = some o') (e2 : H' b = some o2')
    (ht : t = 1 ∨ t = 2 := by first | exact .inl rfl | exact .inr rfl) (ht' : t' = 1 ∨ t' = 2 := by first | exact .inl rfl | exact .inr rfl) : Sep H0 ft H' ((l.set i (t, a, o')).set j (t', b, o2')) := by
  have S1 := S.put i o' h ht
  have nab : a ≠ b := S.ne i j h h' d
  refine S1.chg1 j (by rw [List.getElem?_set_ne d]; exact h') (fun c u hc z => ?_) e2 ht'
  by_cases w : c = a
  · subst w; rw [upd_same] at hc; cases hc; exact e
  · rw [upd_ne w] at hc; exact F c u hc w z
theorem nodup_of {α : Type} (l : List α) (is : List Nat) : is.Nodup → l.Nodup → (is.filterMap (l[·]?)).Nodup := by
  intro h1 h2
  induction is with
  | nil => exact List.nodup_nil
  | cons i r ih =>
    obtain ⟨n1, n2⟩ := List.nodup_cons.mp h1
    cases e : l[i]? with
    | none => rw [List.filterMap_cons_none e]; exact ih n2
    | some x =>
      rw [List.filterMap_cons_some e]
      refine List.nodup_cons.mpr ⟨fun m => ?_, ih n2⟩
      obtain ⟨j, hj, ej⟩ := List.mem_filterMap.mp m
      obtain ⟨x1, e1⟩ := List.getElem?_eq_some_iff.mp e
      obtain ⟨x2, e2⟩ := List.getElem?_eq_some_iff.mp ej
      have := (List.getElem_inj h2).mp (e1.trans e2.symm)
      subst this
      exact n1 hj
/-- some of the cells, in another order -/
theorem Sep.sub (S : Sep H0 ft H l) (is : List Nat) (hn : is.Nodup := by decide) : Sep H0 ft H (is.filterMap (l[·]?)) := by
  have hm : ∀ c ∈ is.filterMap (l[·]?), c ∈ l := fun c hc => by
    obtain ⟨j, _, ej⟩ := List.mem_filterMap.mp hc
    exact List.mem_of_getElem? ej
  refine ⟨?_, fun c hc => S.rd c (hm c hc), S.fr, fun c hc => S.wr c (hm c hc), fun c hc => S.nw c (hm c hc), S.ex⟩
  have : (is.filterMap (l[·]?)).map (·.2.1) = is.filterMap ((l.map (·.2.1))[·]?) := by
    rw [List.map_filterMap]
    congr 1
    funext i
    rw [List.getElem?_map]
  rw [this]
  exact nodup_of _ is hn S.nd
theorem Sep.sq {K : PySem.W.Frag} {xs : List V} (S : Sep H0 ft H l) (h : SqL K H0 a xs) (ha : a ∉ ft) : SqL K H a xs := by
  rcases h with (h | ⟨o, h⟩) | h
  · exact .inl (.inl (S.fr _ _ h ha))
  · exact .inl (.inr ⟨o, S.fr _ _ h ha⟩)
  · exact .inr h
theorem Sep.sl {K : PySem.W.Frag} {xs : List V} (S : Sep H0 ft H l) (i : Nat) (h : l[i]? = some (t, a, .lst xs)) : SqL K H a xs := .of (S.get i h)
theorem Sep.st {K : PySem.W.Frag} {xs : List V} (S : Sep H0 ft H l) (i : Nat) (h : l[i]? = some (t, a, .tup xs)) : SqT K H a xs := .of (S.get i h)
theorem Sep.of0 : Sep H [] H [] := Sep.nil fun _ h => (nomatch h)
theorem Sep.of1 (h : H a = some o) : Sep H [a] H [(1, a, o)] := (Sep.nil fun b m => by rw [List.mem_singleton.mp m]; exact ⟨o, h⟩).add 1 h (fun _ z => nomatch z) (fun _ => List.mem_singleton_self a) (fun z => by cases z)
theorem Sep.of2 (h : H a = some o) (h' : H b = some u) (n : a ≠ b) : Sep H [a, b] H [(1, a, o), (1, b, u)] :=
  ((Sep.nil fun c m => (List.mem_cons.mp m).elim (fun e => by rw [e]; exact ⟨_, h⟩) fun m => by rw [List.mem_singleton.mp m]; exact ⟨_, h'⟩).add 1 h' (fun _ z => nomatch z) (fun _ => by simp) (fun z => by cases z)).add 1 h (fun c hc => by rw [List.mem_singleton.mp hc]; exact n.symm) (fun _ => by simp) (fun z => by cases z)
theorem Sep.out (S : Sep H0 ft H l) : ∀ b o, H0 b = some o → b ∉ ft → H b = some o := S.fr
theorem Sep.out1 (S : Sep H0 [a] H l) : ∀ b o, H0 b = some o → b ≠ a → H b = some o := fun b o e n => S.fr b o e (by simp [n])
theorem Sep.out2 (S : Sep H0 [a, b] H l) : ∀ c o, H0 c = some o → c ≠ a → c ≠ b → H c = some o := fun c o e n m => S.fr c o e (by simp [n, m])
end
/-! ### steps: what a reading asks, answered over the cells -/
section
variable {H0 H : Hp} {ft : List Addr} {l : List Cell} {t : Nat} {a p : Addr} {o : HO} {K : PySem.W.Frag} {σ : L2.St} {Q : VK} {v x y : V} {i j : Int}
theorem x_var {n : Nat} (h : σ[n]? = some (some v)) (q : Q v H) : tVar n σ H Q := ⟨v, h, q⟩
theorem x_ixF {xs : List V} (S : Sep H0 ft H l) (n : Nat) (h : l[n]? = some (t, p, .lst xs)) (ha : atI xs i = some v) (q : Q v H) : rIxL K (.ref p) (.int i) H Q := ⟨p, xs, i, v, rfl, rfl, S.sl n h, ha, q⟩
theorem x_ixT {xs : List V} (S : Sep H0 ft H l) (n : Nat) (h : l[n]? = some (t, p, .tup xs)) (ha : atI xs i = some v) (q : Q v H) : rIxT K (.ref p) (.int i) H Q := ⟨p, xs, i, v, rfl, rfl, S.st n h, ha, q⟩
theorem at_map {α : Type} {f : α → V} {cs : List α} {i : Int} (h0 : 0 ≤ i) (h : i < cs.length) : ∃ c, cs[i.toNat]? = some c ∧ atI (cs.map f) i = some (f c) := by
  have hl : i.toNat < cs.length := by omega
  refine ⟨cs[i.toNat], List.getElem?_eq_getElem hl, ?_⟩
  have e : ((i.toNat : Nat) : Int) = i := by omega
  have := atI_nat (xs := cs.map f) (j := i.toNat) (v := f cs[i.toNat]) (by rw [List.getElem?_map, List.getElem?_eq_getElem hl]; rfl)
  rw [e] at this
  exact this
theorem x_ixI {cs : List Int} (S : Sep H0 ft H l) (n : Nat) (h : l[n]? = some (t, p, .lst (cs.map V.int))) (h0 : 0 ≤ i) (h1 : i < cs.length) (q : ∀ c, cs[i.toNat]? = some c → Q (.int c) H) : rIxL K (.ref p) (.int i) H Q := by
  obtain ⟨c, hc, ha⟩ := at_map (f := V.int) h0 h1
  exact ⟨p, _, i, _, rfl, rfl, S.sl n h, ha, q c hc⟩
theorem x_ixS {cs : List Int} (hs : SqL K H p (cs.map V.int)) (h0 : 0 ≤ i) (h1 : i < cs.length) (q : ∀ c, cs[i.toNat]? = some c → Q (.int c) H) : rIxL K (.ref p) (.int i) H Q := by
  obtain ⟨c, hc, ha⟩ := at_map (f := V.int) h0 h1
  exact ⟨p, _, i, _, rfl, rfl, hs, ha, q c hc⟩
theorem x_setL {xs : List V} {k : Nat} {Qd : Hp → Prop} (S : Sep H0 ft H l) (n : Nat) (h : l[n]? = some (t, p, .lst xs)) (hj : ixN xs.length i = some k) (q : ∀ H', Sep H0 ft H' (l.set n (t, p, .lst (xs.set k v))) → Qd H')
    (ht : t = 1 ∨ t = 2 := by first | exact .inl rfl | exact .inr rfl) : rSetL (.ref p) (.int i) v H Qd := ⟨p, xs, i, k, rfl, rfl, S.get n h, hj, q _ (S.put n _ h ht)⟩
theorem ixN_in {n : Nat} (h0 : 0 ≤ i) (h : i < n) : ixN n i = some i.toNat := by unfold ixN; rw [if_pos h0, if_pos h]
theorem x_setI {cs : List Int} {Qd : Hp → Prop} (S : Sep H0 ft H l) (n : Nat) (h : l[n]? = some (t, p, .lst (cs.map V.int))) (h0 : 0 ≤ i) (h1 : i < cs.length) (q : ∀ H', Sep H0 ft H' (l.set n (t, p, .lst ((cs.set i.toNat j).map V.int))) → Qd H')
    (ht : t = 1 ∨ t = 2 := by first | exact .inl rfl | exact .inr rfl) : rSetL (.ref p) (.int i) (.int j) H Qd := by
  refine ⟨p, _, i, i.toNat, rfl, rfl, S.get n h, ixN_in h0 (by rw [List.length_map]; exact h1), ?_⟩
  have := S.put n (.lst ((cs.map V.int).set i.toNat (.int j))) h ht
  rw [← List.map_set] at this ⊢
  exact q _ this
def rLen (K : PySem.W.Frag) : List V → Hp → VK → Prop := fun xs H Q => ∃ p ys, xs = [.ref p] ∧ (SqL K H p ys ∨ SqT K H p ys) ∧ Q (.int ys.length) H
theorem cl_len {X : Cx} : CallR X (.builtin "len") (rLen X.K) := call_len_seq
theorem x_len {xs : List V} (S : Sep H0 ft H l) (n : Nat) (h : l[n]? = some (t, p, .lst xs)) (q : Q (.int xs.length) H) : rLen K [.ref p] H Q := ⟨p, xs, rfl, .inl (S.sl n h), q⟩
theorem x_lenI {cs : List Int} (S : Sep H0 ft H l) (n : Nat) (h : l[n]? = some (t, p, .lst (cs.map V.int))) (q : Q (.int cs.length) H) : rLen K [.ref p] H Q := ⟨p, _, rfl, .inl (S.sl n h), by rw [List.length_map]; exact q⟩
theorem x_lenT {xs : List V} (S : Sep H0 ft H l) (n : Nat) (h : l[n]? = some (t, p, .tup xs)) (q : Q (.int xs.length) H) : rLen K [.ref p] H Q := ⟨p, xs, rfl, .inr (S.st n h), q⟩
theorem x_lenS {cs : List Int} (hs : SqL K H p (cs.map V.int)) (q : Q (.int cs.length) H) : rLen K [.ref p] H Q := ⟨p, _, rfl, .inl hs, by rw [List.length_map]; exact q⟩
theorem x_I {C : Int → Int → Prop} {g : Int → Int → V} (c : C i j) (q : Q (g i j) H) : rI C g (.int i) (.int j) H Q := ⟨i, j, rfl, rfl, c, q⟩
theorem x_I0 {g : Int → Int → V} (q : Q (g i j) H) : rI0 g (.int i) (.int j) H Q := ⟨i, j, rfl, rfl, q⟩
theorem x_ip {f : Int → Int → Int} (q : Q (.int (f i j)) H) : ipI f (.int i) (.int j) H Q := ⟨i, j, rfl, rfl, q⟩
theorem x_U {g : Int → V} (q : Q (g i) H) : rU g (.int i) H Q := ⟨i, rfl, q⟩
theorem x_eq (q : Q (.bl (decide (x = y))) H) (s : scal x y = true := by rfl) : rEq x y H Q := ⟨s, q⟩
theorem x_ne (q : Q (.bl (!decide (x = y))) H) (s : scal x y = true := by rfl) : rNe x y H Q := ⟨s, q⟩
theorem x_bl {b : Bool} {R : Bool → Hp → Prop} (q : R b H) : ∃ k, V.bl b = .bl k ∧ R k H := ⟨b, rfl, q⟩
/-- a new object -/
theorem x_new (S : Sep H0 ft H l) (o : HO) {R : Addr → Hp → Prop} (q : ∀ p H', Sep H0 ft H' ((2, p, o) :: l) → R p H') : ∀ p, H p = none → R p (upd H p o) := fun p hp => q p _ (S.new hp o)
end
/-! ### more steps -/
section
variable {H0 H : Hp} {ft : List Addr} {l : List Cell} {t : Nat} {a p : Addr} {o : HO} {K : PySem.W.Frag} {σ : L2.St} {Q : VK} {v x y : V} {i j : Int}
theorem div_ok (h : 0 < j) (h2 : j < 2 ^ 200) : CDivW i j := wide_div (b := 200) h (by omega) (by decide) (by decide)
theorem x_if {tc : TT} {t u : TS} {D : Ends} (h : tc σ H fun b H1 => if b = true then t D σ H1 else u D σ H1) : tIfS tc t u D σ H := h
def ForJ (J : It) (g : TG) (tb : TS) (D : Ends) (σ : L2.St) (H : Hp) : Prop := ∃ W : Nat → Nat → L2.St → Hp → Prop, (∃ m, W 0 m σ H) ∧ ∀ i m σ H, W i m σ H →
  (J.stop i H ∧ D.nx σ H) ∨ (J.go i H ∧ ∃ N : L2.St → Hp → Prop, (∀ σ' H', N σ' H' → ∃ m', m' < m ∧ W (i + 1) m' σ' H') ∧ ∀ x H', J.yld i H x H' → g x σ H' fun σ2 H2 => tb { D with nx := N, ct := N, bk := D.nx } σ2 H2)
theorem x_for {wi : TI} {g : TG} {tb : TS} {D : Ends} (h : wi σ H fun J H1 => ForJ J g tb D σ H1) : tFor wi g tb D σ H := h
theorem forR {lo : Int} {n : Nat} {g : TG} {tb : TS} {D : Ends} (Pv : Nat → L2.St → Hp → Prop) (h0 : Pv 0 σ H)
    (hs : ∀ i σ H, i < n → Pv i σ H → g (.int (lo + i)) σ H fun σ2 H2 => tb { D with nx := Pv (i + 1), ct := Pv (i + 1), bk := D.nx } σ2 H2) (hd : ∀ σ H, Pv n σ H → D.nx σ H) : ForJ (Itr lo n) g tb D σ H := for_range Pv h0 hs hd
theorem forL {xs : List V} {g : TG} {tb : TS} {D : Ends} (Pv : Nat → L2.St → Hp → Prop) (h0 : Pv 0 σ H) (hl : ∀ i σ H, i ≤ xs.length → Pv i σ H → SqL K H a xs)
    (hs : ∀ i x σ H, xs[i]? = some x → Pv i σ H → g x σ H fun σ2 H2 => tb { D with nx := Pv (i + 1), ct := Pv (i + 1), bk := D.nx } σ2 H2) (hd : ∀ σ H, Pv xs.length σ H → D.nx σ H) : ForJ (Itl K a) g tb D σ H := for_list Pv h0 hl hs hd
def LcJ (J : It) (g : TG) (tt : TT) (te : TE) (vs : List Nat) (σ : L2.St) (H1 : Hp) (Q : VK) : Prop := ∀ D, H1 D = none → ∃ W : Nat → Nat → Hp → Prop, (∃ m, W 0 m (upd H1 D (.lst []))) ∧ ∀ i m H, W i m H →
  (J.stop i H ∧ Q (.ref D) H) ∨ (J.go i H ∧ ∃ Nx : Hp → Prop, (∀ H', Nx H' → ∃ m', m' < m ∧ W (i + 1) m' H') ∧ ∀ x H', J.yld i H x H' → g x (wipe σ vs) H' fun σ2 H2 => wipe σ2 vs = wipe σ vs ∧ tt σ2 H2 fun b H3 =>
    if b = true then te σ2 H3 fun y H4 => ∃ acc, H4 D = some (.lst acc) ∧ acc.length < sizeLine ∧ Nx (upd H4 D (.lst (acc ++ [y]))) else Nx H3)
theorem x_lc {wi : TI} {g : TG} {tt : TT} {te : TE} {vs : List Nat} (h : wi σ H fun J H1 => LcJ J g tt te vs σ H1 Q) : tLc wi g tt te vs σ H Q := h
/-- what a turn hands on is put behind the new list -/
def rLcA (D : Addr) (y : V) (H : Hp) (R : Hp → Prop) : Prop := ∃ acc, H D = some (.lst acc) ∧ acc.length < sizeLine ∧ R (upd H D (.lst (acc ++ [y])))
theorem lcR {lo : Int} {n : Nat} {g : TG} {tt : TT} {te : TE} {vs : List Nat} (S : Sep H0 ft H l) (h : ∀ D H1, Sep H0 ft H1 ((2, D, .lst []) :: l) → ∃ Pv : Nat → Hp → Prop, Pv 0 H1 ∧
    (∀ i H, i < n → Pv i H → g (.int (lo + i)) (wipe σ vs) H fun σ2 H2 => wipe σ2 vs = wipe σ vs ∧ tt σ2 H2 fun b H3 => if b = true then te σ2 H3 fun y H4 => rLcA D y H4 (Pv (i + 1)) else Pv (i + 1) H3) ∧
    ∀ H, Pv n H → Q (.ref D) H) : LcJ (Itr lo n) g tt te vs σ H Q := fun D hD =>
  let ⟨Pv, h0, hs, hd⟩ := h D _ (S.new hD (.lst []))
  lc_range (H1 := H) Pv h0 hs hd
theorem lcL {xs : List V} {g : TG} {tt : TT} {te : TE} {vs : List Nat} (S : Sep H0 ft H l) (h : ∀ D H1, Sep H0 ft H1 ((2, D, .lst []) :: l) → ∃ Pv : Nat → Hp → Prop, Pv 0 H1 ∧ (∀ i H, i ≤ xs.length → Pv i H → SqL K H a xs) ∧
    (∀ i x H, xs[i]? = some x → Pv i H → g x (wipe σ vs) H fun σ2 H2 => wipe σ2 vs = wipe σ vs ∧ tt σ2 H2 fun b H3 => if b = true then te σ2 H3 fun y H4 => rLcA D y H4 (Pv (i + 1)) else Pv (i + 1) H3) ∧
    ∀ H, Pv xs.length H → Q (.ref D) H) : LcJ (Itl K a) g tt te vs σ H Q := fun D hD =>
  let ⟨Pv, h0, hl, hs, hd⟩ := h D _ (S.new hD (.lst []))
  lc_list (H1 := H) Pv h0 hl hs hd
theorem x_lcapp {xs : List V} {R : Hp → Prop} (S : Sep H0 ft H l) (n : Nat) (h : l[n]? = some (t, p, .lst xs)) (hl : xs.length < 100000) (q : ∀ H', Sep H0 ft H' (l.set n (t, p, .lst (xs ++ [v]))) → R H') (ht : t = 1 ∨ t = 2 := by first | exact .inl rfl | exact .inr rfl) :
    rLcA p v H R := ⟨xs, S.get n h, Nat.lt_of_lt_of_le hl (by decide), q _ (S.put n _ h ht)⟩
theorem x_lcappI {cs : List Int} {R : Hp → Prop} (S : Sep H0 ft H l) (n : Nat) (h : l[n]? = some (t, p, .lst (cs.map V.int))) (hl : cs.length < 100000) (q : ∀ H', Sep H0 ft H' (l.set n (t, p, .lst ((cs ++ [i]).map V.int))) → R H') (ht : t = 1 ∨ t = 2 := by first | exact .inl rfl | exact .inr rfl) :
    rLcA p (.int i) H R := x_lcapp S n h (by rw [List.length_map]; exact hl) (fun H' S' => q H' (by rw [List.map_append]; exact S')) ht
theorem elem_of {α : Type} {f : α → V} {xs : List α} {n : Nat} {y : V} (h : (xs.map f)[n]? = some y) : ∃ z, xs[n]? = some z ∧ y = f z := by
  rw [List.getElem?_map] at h
  cases e : xs[n]? with
  | none => rw [e] at h; cases h
  | some z => rw [e] at h; exact ⟨z, rfl, (Option.some.inj h).symm⟩
theorem filter_snoc_pos {α : Type} {p : α → Bool} {xs : List α} {z : α} (h : p z = true) : xs.filter p ++ [z] = (xs ++ [z]).filter p := by rw [List.filter_append, List.filter_cons_of_pos h, List.filter_nil]
theorem filter_snoc_neg {α : Type} {p : α → Bool} {xs : List α} {z : α} (h : p z = false) : xs.filter p = (xs ++ [z]).filter p := by rw [List.filter_append, List.filter_cons_of_neg (by rw [h]; exact Bool.false_ne_true), List.filter_nil, List.append_nil]
theorem take_snoc {α : Type} {xs : List α} {n : Nat} {z : α} (h : xs[n]? = some z) : xs.take (n + 1) = xs.take n ++ [z] := by rw [List.take_add_one, h]; rfl
theorem lt_of_get {α : Type} {xs : List α} {n : Nat} {z : α} (h : xs[n]? = some z) : n < xs.length := (List.getElem?_eq_some_iff.mp h).1
theorem x_ifE {tt : TT} {ta tb : TE} (h : tt σ H fun c H1 => if c = true then ta σ H1 Q else tb σ H1 Q) : tIf tt ta tb σ H Q := h
/-- what follows a value is shown once -/
theorem x_ifx {tt : TT} {ta tb : TE} (R : V → Hp → Prop) (k : ∀ v H', R v H' → Q v H') (h : (∀ v H', R v H' → Q v H') → tIf tt ta tb σ H Q) : tIf tt ta tb σ H Q := h k
/-- what follows an if is shown once -/
theorem x_ifS {tc : TT} {t u : TS} {D : Ends} (R : L2.St → Hp → Prop) (k : ∀ σ H', R σ H' → D.nx σ H') (h : (∀ σ H', R σ H' → D.nx σ H') → tIfS tc t u D σ H) : tIfS tc t u D σ H := h k
theorem x_andV {ta tb : TE} (h : ta σ H fun x H1 => ∃ c, x = .bl c ∧ if c = true then tb σ H1 Q else Q (.bl false) H1) : tAndV ta tb σ H Q := h
theorem x_orV {ta tb : TE} (h : ta σ H fun x H1 => ∃ c, x = .bl c ∧ if c = true then Q (.bl true) H1 else tb σ H1 Q) : tOrV ta tb σ H Q := h
theorem x_and {t u : TT} {R : Bool → Hp → Prop} (h : t σ H fun c H1 => if c = true then u σ H1 R else R false H1) : tAnd t u σ H R := h
theorem x_or {t u : TT} {R : Bool → Hp → Prop} (h : t σ H fun c H1 => if c = true then R true H1 else u σ H1 R) : tOr t u σ H R := h
theorem x_turn {G : L2.St → Hp → Prop} {R : (L2.St → Hp → Prop) → Prop} (h : R G) : ∃ N : L2.St → Hp → Prop, (∀ σ' H', N σ' H' → G σ' H') ∧ R N := ⟨_, fun _ _ z => z, h⟩
theorem x_while {tc : TT} {tb : TS} {D : Ends} (W : Nat → L2.St → Hp → Prop) (m : Nat) (w : W m σ H) (h : ∀ m σ H, W m σ H → tc σ H fun b H1 => if b = true then ∃ N : L2.St → Hp → Prop, (∀ σ' H', N σ' H' → ∃ m', m' < m ∧ W m' σ' H') ∧ tb { D with nx := N, ct := N, bk := D.nx } σ H1 else D.nx σ H1) :
    tWhile tc tb D σ H := ⟨W, ⟨m, w⟩, h⟩
theorem x_part {R : Option Int → Hp → Prop} (q : R (some i) H) : ∃ j, V.int i = .int j ∧ R (some j) H := ⟨i, rfl, q⟩
theorem x_slL {xs : List V} {lo hi : Option Int} (S : Sep H0 ft H l) (n : Nat) (h : l[n]? = some (t, p, .lst xs)) (q : ∀ r H', Sep H0 ft H' ((2, r, .lst (cutV xs lo hi)) :: l) → Q (.ref r) H') : rSlL K (.ref p) lo hi H Q := ⟨p, xs, rfl, S.sl n h, x_new S _ q⟩
/-- a slice of a list of ints -/
def cutI {α : Type} (xs : List α) (lo hi : Option Int) : List α := (xs.drop (HT.sIx xs.length 0 lo)).take (HT.sIx xs.length xs.length hi - HT.sIx xs.length 0 lo)
theorem cutV_map {α : Type} (f : α → V) (xs : List α) (lo hi : Option Int) : cutV (xs.map f) lo hi = (cutI xs lo hi).map f := by
  unfold cutV cutI
  rw [List.length_map, ← List.map_drop, ← List.map_take]
theorem x_slI {cs : List Int} {lo hi : Option Int} (S : Sep H0 ft H l) (n : Nat) (h : l[n]? = some (t, p, .lst (cs.map V.int))) (q : ∀ r H', Sep H0 ft H' ((2, r, .lst ((cutI cs lo hi).map V.int)) :: l) → Q (.ref r) H') : rSlL K (.ref p) lo hi H Q :=
  ⟨p, _, rfl, S.sl n h, by rw [cutV_map]; exact x_new S _ q⟩
theorem cutI_nat {α : Type} (xs : List α) {i j : Int} (h0 : 0 ≤ i) (h1 : i ≤ j) (h2 : j ≤ xs.length) : cutI xs (some i) (some j) = (xs.drop i.toNat).take (j.toNat - i.toNat) := by
  unfold cutI
  have e1 : i = (i.toNat : Int) := by omega
  have e2 : j = (j.toNat : Int) := by omega
  rw [e1, e2, HT.sIx_nat, HT.sIx_nat, Nat.min_eq_left (by omega), Nat.min_eq_left (by omega), Int.toNat_natCast, Int.toNat_natCast]
def rMax2 : List V → Hp → VK → Prop := fun xs H Q => ∃ i j, xs = [.int i, .int j] ∧ Q (.int (max i j)) H
def rMin2 : List V → Hp → VK → Prop := fun xs H Q => ∃ i j, xs = [.int i, .int j] ∧ Q (.int (min i j)) H
theorem cl_max {X : Cx} (hc : X.calm = true) : CallR X (.builtin "max") rMax2 := fun pins s σ H xs us Q I r ⟨i, j, e, q⟩ => call_max2 hc pins s σ H xs us Q I r ⟨i, j, e, by
  have : (if j > i then j else i) = max i j := by split <;> omega
  rw [this]; exact q⟩
theorem cl_min {X : Cx} (hc : X.calm = true) : CallR X (.builtin "min") rMin2 := fun pins s σ H xs us Q I r ⟨i, j, e, q⟩ => call_min2 hc pins s σ H xs us Q I r ⟨i, j, e, by
  have : (if j < i then j else i) = min i j := by split <;> omega
  rw [this]; exact q⟩
theorem x_max (q : Q (.int (max i j)) H) : rMax2 [.int i, .int j] H Q := ⟨i, j, rfl, q⟩
theorem x_min (q : Q (.int (min i j)) H) : rMin2 [.int i, .int j] H Q := ⟨i, j, rfl, q⟩
/-- what the rules ask, under names -/
def rIL (K : PySem.W.Frag) : V → Hp → (It → Hp → Prop) → Prop := fun x H R => ∃ a, x = .ref a ∧ (∃ xs, SqL K H a xs) ∧ R (Itl K a) H
def rIT (K : PySem.W.Frag) : V → Hp → (It → Hp → Prop) → Prop := fun x H R => ∃ a, x = .ref a ∧ (∃ xs, SqT K H a xs) ∧ R (Itt K a) H
def iList1 (K : PySem.W.Frag) (tl : TE) : TI := fun σ H R => tl σ H fun x H1 => rIL K x H1 R
def iTup1 (K : PySem.W.Frag) (tl : TE) : TI := fun σ H R => tl σ H fun x H1 => rIT K x H1 R
theorem pi_list1 {X : Cx} {tg e : Expr} {tl : TE} (h : PE X e tl) : PI X tg e (iList1 X.K tl) := pi_list h
theorem pi_tup1 {X : Cx} {tg e : Expr} {tl : TE} (h : PE X e tl) : PI X tg e (iTup1 X.K tl) := pi_tup h

def rLst : List V → Hp → VK → Prop := fun xs H Q => xs.length ≤ sizeLine ∧ ∀ p, H p = none → Q (.ref p) (upd H p (.lst xs))
def rTup : List V → Hp → VK → Prop := fun xs H Q => xs.length ≤ sizeLine ∧ ∀ p, H p = none → Q (.ref p) (upd H p (.tup xs))
theorem pe_lst1 {X : Cx} {es : List Expr} {t : TA} {pos : Pos} (h : PA X es t) : PE X (.List es pos) (tCB rLst t) := pe_lst h
theorem pe_tup1 {X : Cx} {es : List Expr} {t : TA} {pos : Pos} {x1} (h : PA X es t) : PE X (.Tuple es x1 pos) (tCB rTup t) := pe_tup h
def rFld (K : PySem.W.Frag) (f : Str) : V → Hp → VK → Prop := fun x H Q => ∃ a C dx fs v, x = .ref a ∧ H a = some (.ins C dx fs) ∧ Cls K C ∧ NoAttr K C f ∧ fs.lookup f = some v ∧ Q v H
def rFldA (K : PySem.W.Frag) (f : Str) : V → Hp → (Addr → Addr → V → Prop) → Prop := fun x H R => ∃ a C dx fs v, x = .ref a ∧ H a = some (.ins C dx fs) ∧ Cls K C ∧ NoAttr K C f ∧ fs.lookup f = some v ∧ R a C v
def rPutA (f : Str) (a C : Addr) : V → Hp → (Hp → Prop) → Prop := fun z H R => ∃ dx fs, H a = some (.ins C dx fs) ∧ fs.length < 1000 ∧ R (upd H a (.ins C dx (putF f z fs)))
def rSFld (K : PySem.W.Frag) (f : Str) : V → V → Hp → (Hp → Prop) → Prop := fun x y H R => ∃ a C dx fs, x = .ref a ∧ H a = some (.ins C dx fs) ∧ Cls K C ∧ NoAttr K C f ∧ fs.length < 1000 ∧ R (upd H a (.ins C dx (putF f y fs)))
def sFld1 (K : PySem.W.Frag) (ta tv : TE) (f : Str) : TS := fun D σ H => tv σ H fun y H1 => ta σ H1 fun x H2 => rSFld K f x y H2 fun H3 => D.nx σ H3
def sFldAug1 (K : PySem.W.Frag) (ta tv : TE) (rd : V → V → Hp → VK → Prop) (f : Str) : TS := fun D σ H => ta σ H fun x H1 => rFldA K f x H1 fun a C v => tv σ H1 fun y H2 => rd v y H2 fun z H3 => rPutA f a C z H3 fun H4 => D.nx σ H4
def rMe (C : Addr) (m : Str) : V → Hp → Prop → Prop := fun x H R => ∃ a dx fs, x = .ref a ∧ H a = some (.ins C dx fs) ∧ fs.lookup m = none ∧ R
def tMeth1 (C : Addr) (m : Str) (sp : Sp) (dvs : List V) (E : XK) (ta : TE) (t : TA) : TE := fun σ H Q => ta σ H fun x H1 => rMe C m x H1 (t σ H1 fun vs H2 => sp (x :: (vs ++ dvs)) H2 Q E)
def rDIn : V → V → Hp → VK → Prop := fun y x H Q => ∃ a o, x = .ref a ∧ DGet H a y o ∧ Q (.bl o.isSome) H
def rDNi : V → V → Hp → VK → Prop := fun y x H Q => ∃ a o, x = .ref a ∧ DGet H a y o ∧ Q (.bl (!o.isSome)) H
def rDGet : V → V → Hp → VK → Prop := fun x y H Q => ∃ a v, x = .ref a ∧ DGet H a y (some v) ∧ Q v H
def rDPut : V → V → V → Hp → (Hp → Prop) → Prop := fun x y v H R => ∃ a H4, x = .ref a ∧ DPut H a y v H4 ∧ R H4
def sDPut1 (td ty tv : TE) : TS := fun D σ H => tv σ H fun v H1 => td σ H1 fun x H2 => ty σ H2 fun y H3 => rDPut x y v H3 fun H4 => D.nx σ H4
def rDPop (a : Addr) : V → Hp → VK → Prop := fun y H Q => ∃ kvs k v, H a = some (.dK kvs) ∧ y = kV k ∧ valV kvs k = some v ∧ Q v (upd H a (.dK (dropK kvs k)))
def rIsD : V → Hp → (Addr → Prop) → Prop := fun x H R => ∃ a, x = .ref a ∧ IsD H a ∧ R a
def tDPop (td ty : TE) : TE := fun σ H Q => td σ H fun x H1 => rIsD x H1 fun a => ty σ H1 fun y H2 => rDPop a y H2 Q
section
variable {X : Cx} {CX : CXT} {k j : Nat} {C : Addr} {f m : Str} {sp : Sp} {E : XK} {p pos pos' apos tpos cpos : Pos} {e i value : Expr} {es : List Expr} {td ty tv : TE} {ta : TE} {t : TA}
theorem pe_fld1 (he : PE X e ta) (hb : attributeBase e f X.env (eval e X.env) = eval e X.env) : PE X (.Attribute e f pos) (tUn (rFld X.K f) ta) := pe_fld he hb
theorem ps_fld1 (ha : PE X e ta) (hv : PE X value tv) (hs : swapsWith value (some (.Attribute e f pos')) pos.line X.env = pure false) : PS X (.Assign [.Attribute e f pos'] value pos) (sFld1 X.K ta tv f) := ps_fld ha hv hs
theorem ps_fldaug1 {op : Operator} {rd : V → V → Hp → VK → Prop} (ha : PE X e ta) (hv : PE X value tv) (hop : InOp X op rd) : PS X (.AugAssign (.Attribute e f tpos) op value pos) (sFldAug1 X.K ta tv rd f) := ps_fldaug ha hv hop
theorem pc_din1 (hu : X.A.units + 1 < cLine) (hi : PE X i ty) (ho : PE X e td) : PC X .In i e (tOp rDIn ty td) := pc_din hu hi ho
theorem pc_dni1 (hu : X.A.units + 1 < cLine) (hi : PE X i ty) (ho : PE X e td) : PC X .NotIn i e (tOp rDNi ty td) := pc_dnotin hu hi ho
theorem pe_dget1v (hu : X.A.units + 1 < cLine) (ho : PE X e td) (hi : PE X i ty) (hs : NoSl i) : PE X (.Subscript e i pos) (tOp rDGet td ty) := pe_dget hu ho hi hs
theorem ps_dput1 (hu : X.A.units + 1 < cLine) (ho : PE X e td) (hi : PE X i ty) (hv : PE X value tv) (hs : swapsWith value (some (.Subscript e i pos')) pos.line X.env = pure false) : PS X (.Assign [.Subscript e i pos'] value pos) (sDPut1 td ty tv) := ps_dput hu ho hi hv hs
theorem pe_dpop (ho : PE X e td) (he : PE X i ty) (m : M1 X e "pop" apos i cpos) : PE X (.Call (.Attribute e "pop" apos) [i] [] cpos) (tDPop td ty) := pe_dpop1 ho he m
end
theorem x_lst {xs : List V} (S : Sep H0 ft H l) (hl : xs.length ≤ 100000) (q : ∀ p H', Sep H0 ft H' ((2, p, .lst xs) :: l) → Q (.ref p) H') : rLst xs H Q := ⟨Nat.le_trans hl (by decide), x_new S _ q⟩
theorem x_tup {xs : List V} (S : Sep H0 ft H l) (hl : xs.length ≤ 100000) (q : ∀ p H', Sep H0 ft H' ((2, p, .tup xs) :: l) → Q (.ref p) H') : rTup xs H Q := ⟨Nat.le_trans hl (by decide), x_new S _ q⟩
theorem x_dnew (S : Sep H0 ft H l) (q : ∀ p H', Sep H0 ft H' ((2, p, .dK []) :: l) → Q (.ref p) H') : tDNewK σ H Q := x_new S _ q
def rListOf (K : PySem.W.Frag) : List V → Hp → VK → Prop := fun xs H Q => ∃ p ys, xs = [.ref p] ∧ (SqL K H p ys ∨ SqT K H p ys) ∧ ∀ l, H l = none → Q (.ref l) (upd H l (.lst ys))
theorem cl_list {X : Cx} : CallR X (.type "list") (rListOf X.K) := call_list_of
theorem x_listS {xs : List V} (S : Sep H0 ft H l) (hs : SqL K H p xs) (q : ∀ r H', Sep H0 ft H' ((2, r, .lst xs) :: l) → Q (.ref r) H') : rListOf K [.ref p] H Q := ⟨p, xs, rfl, .inl hs, x_new S _ q⟩
/-- isinstance -/
theorem x_isi {A B : String} {b : Bool} (ty : TyX K H x (.type A)) (h : kitB A B = some b) (q : Q (.bl b) H) : rIsi K [x, .ty B] H Q := ⟨x, .ty B, .type A, .type B, b, rfl, .ty B, ty, kit_ty h, q⟩
theorem cl_isiK {X : Cx} (K : PySem.W.Frag) (h : X.K = K := by rfl) : CallR X (.builtin "isinstance") (rIsi K) := by subst h; exact call_isi
theorem ty_int : TyX K H (.int i) (.type "int") := .base (.int i)
theorem ty_bl {b : Bool} : TyX K H (.bl b) (.type "bool") := .base (.bl b)
theorem ty_str {z : Str} : TyX K H (.str z) (.type "str") := .base (.str z)
theorem ty_non : TyX K H .non (.type "NoneType") := .base .non
theorem ty_tup {xs : List V} (S : Sep H0 ft H l) (n : Nat) (h : l[n]? = some (t, p, .tup xs)) : TyX K H (.ref p) (.type "tuple") := .base (.tup (S.get n h))
theorem ty_lst {xs : List V} (S : Sep H0 ft H l) (n : Nat) (h : l[n]? = some (t, p, .lst xs)) : TyX K H (.ref p) (.type "list") := .base (.lst (S.get n h))
theorem ty_dK {kvs : List (Key × V)} (S : Sep H0 ft H l) (n : Nat) (h : l[n]? = some (t, p, .dK kvs)) : TyX K H (.ref p) (.type "dict") := .base (.dK (S.get n h))
theorem ki_int_int : kitB "int" "int" = some true := by decide +kernel
theorem ki_int_bool : kitB "int" "bool" = some false := by decide +kernel
theorem ki_int_str : kitB "int" "str" = some false := by decide +kernel
theorem ki_int_tuple : kitB "int" "tuple" = some false := by decide +kernel
theorem ki_bool_bool : kitB "bool" "bool" = some true := by decide +kernel
theorem ki_bool_int : kitB "bool" "int" = some true := by decide +kernel
theorem ki_tuple_tuple : kitB "tuple" "tuple" = some true := by decide +kernel
theorem ki_list_list : kitB "list" "list" = some true := by decide +kernel
theorem ki_dict_dict : kitB "dict" "dict" = some true := by decide +kernel
theorem ki_str_str : kitB "str" "str" = some true := by decide +kernel
theorem ki_str_int : kitB "str" "int" = some false := by decide +kernel
theorem ki_NoneType_int : kitB "NoneType" "int" = some false := by decide +kernel
/-! the rules over the written part K, said -/
section
variable {X : Cx} {e : Expr} {tl : TE} {tg : Expr} {f : Str} {pos : Pos}
theorem cl_lenK (K : PySem.W.Frag) (h : X.K = K := by rfl) : CallR X (.builtin "len") (rLen K) := by subst h; exact cl_len
theorem cl_listK (K : PySem.W.Frag) (h : X.K = K := by rfl) : CallR X (.type "list") (rListOf K) := by subst h; exact cl_list
theorem ix_listK (K : PySem.W.Frag) (h : X.K = K := by rfl) : IxR X (rIxL K) := by subst h; exact ix_list
theorem ix_tupK (K : PySem.W.Frag) (h : X.K = K := by rfl) : IxR X (rIxT K) := by subst h; exact ix_tup
theorem sl_listK (K : PySem.W.Frag) (h : X.K = K := by rfl) : SlR X (rSlL K) := by subst h; exact sl_list
theorem sl_tupK (K : PySem.W.Frag) (h : X.K = K := by rfl) : SlR X (rSlT K) := by subst h; exact sl_tup
theorem op_eqDK (K : PySem.W.Frag) (hu : X.A.units + 64 < cLine) (h : X.K = K := by rfl) : OpR X (compareOp .Eq) (rEqD K) := by subst h; exact op_eqD hu
theorem op_neDK (K : PySem.W.Frag) (hu : X.A.units + 64 < cLine) (h : X.K = K := by rfl) : OpR X (compareOp .NotEq) (rNeD K) := by subst h; exact op_neD hu
theorem pe_fldK (K : PySem.W.Frag) (he : PE X e tl) (hb : attributeBase e f X.env (eval e X.env) = eval e X.env := by rfl) (h : X.K = K := by rfl) : PE X (.Attribute e f pos) (tUn (rFld K f) tl) := by subst h; exact pe_fld1 he hb
theorem pi_listK (K : PySem.W.Frag) (he : PE X e tl) (h : X.K = K := by rfl) : PI X tg e (iList1 K tl) := by subst h; exact pi_list1 he
theorem pi_tupK (K : PySem.W.Frag) (he : PE X e tl) (h : X.K = K := by rfl) : PI X tg e (iTup1 K tl) := by subst h; exact pi_tup1 he
end
theorem x_ilist {xs : List V} {R : It → Hp → Prop} (S : Sep H0 ft H l) (n : Nat) (h : l[n]? = some (t, p, .lst xs)) (q : R (Itl K p) H) : rIL K (.ref p) H R := ⟨p, rfl, ⟨xs, S.sl n h⟩, q⟩
theorem x_itup {xs : List V} {R : It → Hp → Prop} (S : Sep H0 ft H l) (n : Nat) (h : l[n]? = some (t, p, .tup xs)) (q : R (Itt K p) H) : rIT K (.ref p) H R := ⟨p, rfl, ⟨xs, S.st n h⟩, q⟩
/-- dicts -/
theorem x_din {kvs : List (Key × V)} {k : Key} (S : Sep H0 ft H l) (n : Nat) (h : l[n]? = some (t, p, .dK kvs)) (q : Q (.bl (valV kvs k).isSome) H) : rDIn (kV k) (.ref p) H Q := ⟨p, _, rfl, DGet.k (S.get n h), q⟩
theorem x_dni {kvs : List (Key × V)} {k : Key} (S : Sep H0 ft H l) (n : Nat) (h : l[n]? = some (t, p, .dK kvs)) (q : Q (.bl (!(valV kvs k).isSome)) H) : rDNi (kV k) (.ref p) H Q := ⟨p, _, rfl, DGet.k (S.get n h), q⟩
theorem x_dget {kvs : List (Key × V)} {k : Key} (S : Sep H0 ft H l) (n : Nat) (h : l[n]? = some (t, p, .dK kvs)) (hv : valV kvs k = some v) (q : Q v H) : rDGet (.ref p) (kV k) H Q := ⟨p, v, rfl, by rw [← hv]; exact DGet.k (S.get n h), q⟩
theorem x_dput {kvs : List (Key × V)} {k : Key} {R : Hp → Prop} (S : Sep H0 ft H l) (n : Nat) (h : l[n]? = some (t, p, .dK kvs)) (hl : kvs.length < 100000) (q : ∀ H', Sep H0 ft H' (l.set n (t, p, .dK (putK kvs k v))) → R H')
    (ht : t = 1 ∨ t = 2 := by first | exact .inl rfl | exact .inr rfl) : rDPut (.ref p) (kV k) v H R := ⟨p, _, rfl, DPut.k (S.get n h) (Nat.lt_of_lt_of_le hl (by decide)), q _ (S.put n _ h ht)⟩
theorem x_isD {kvs : List (Key × V)} {R : Addr → Prop} (S : Sep H0 ft H l) (n : Nat) (h : l[n]? = some (t, p, .dK kvs)) (q : R p) : rIsD (.ref p) H R := ⟨p, rfl, .inl ⟨_, .inl (S.get n h)⟩, q⟩
theorem x_dpop {kvs : List (Key × V)} {k : Key} (S : Sep H0 ft H l) (n : Nat) (h : l[n]? = some (t, p, .dK kvs)) (hv : valV kvs k = some v) (q : ∀ H', Sep H0 ft H' (l.set n (t, p, .dK (dropK kvs k))) → Q v H')
    (ht : t = 1 ∨ t = 2 := by first | exact .inl rfl | exact .inr rfl) : rDPop p (kV k) H Q := ⟨kvs, k, v, S.get n h, rfl, hv, q _ (S.put n _ h ht)⟩
/-- fields -/
theorem x_fld {C dx : Addr} {fs : List (Str × V)} {f : Str} (S : Sep H0 ft H l) (n : Nat) (h : l[n]? = some (t, p, .ins C dx fs)) (c : Cls K C) (na : NoAttr K C f) (hf : fs.lookup f = some v) (q : Q v H) : rFld K f (.ref p) H Q := ⟨p, C, dx, fs, v, rfl, S.get n h, c, na, hf, q⟩
theorem x_fldA {C dx : Addr} {fs : List (Str × V)} {f : Str} {R : Addr → Addr → V → Prop} (S : Sep H0 ft H l) (n : Nat) (h : l[n]? = some (t, p, .ins C dx fs)) (c : Cls K C) (na : NoAttr K C f) (hf : fs.lookup f = some v) (q : R p C v) : rFldA K f (.ref p) H R := ⟨p, C, dx, fs, v, rfl, S.get n h, c, na, hf, q⟩
theorem x_sfld {C dx : Addr} {fs fs' : List (Str × V)} {f : Str} {R : Hp → Prop} (S : Sep H0 ft H l) (n : Nat) (h : l[n]? = some (t, p, .ins C dx fs)) (c : Cls K C) (na : NoAttr K C f) (e : putF f v fs = fs') (hl : fs.length < 1000) (q : ∀ H', Sep H0 ft H' (l.set n (t, p, .ins C dx fs')) → R H')
    (ht : t = 1 ∨ t = 2 := by first | exact .inl rfl | exact .inr rfl) : rSFld K f (.ref p) v H R :=
  ⟨p, C, dx, fs, rfl, S.get n h, c, na, hl, by rw [e]; exact q _ (S.put n _ h ht)⟩
theorem x_augf {C dx : Addr} {fs fs' : List (Str × V)} {f : Str} {R : Hp → Prop} (S : Sep H0 ft H l) (n : Nat) (h : l[n]? = some (t, p, .ins C dx fs)) (e : putF f v fs = fs') (hl : fs.length < 1000) (q : ∀ H', Sep H0 ft H' (l.set n (t, p, .ins C dx fs')) → R H')
    (ht : t = 1 ∨ t = 2 := by first | exact .inl rfl | exact .inr rfl) : rPutA f p C v H R :=
  ⟨dx, fs, S.get n h, hl, by rw [e]; exact q _ (S.put n _ h ht)⟩
theorem x_meth {C dx : Addr} {fs : List (Str × V)} {m : Str} {R : Prop} (S : Sep H0 ft H l) (n : Nat) (h : l[n]? = some (t, p, .ins C dx fs)) (hl : fs.lookup m = none) (q : R) : rMe C m (.ref p) H R := ⟨p, dx, fs, rfl, S.get n h, hl, q⟩
theorem x_add (q : Q (.int (i + j)) H) : rAdd (.int i) (.int j) H Q := ⟨i, j, rfl, rfl, q⟩
theorem x_sub (q : Q (.int (i - j)) H) : rSub (.int i) (.int j) H Q := ⟨i, j, rfl, rfl, q⟩
/-- lists' methods -/
theorem x_app {xs : List V} (S : Sep H0 ft H l) (n : Nat) (h : l[n]? = some (t, p, .lst xs)) (hl : xs.length < 100000) (q : ∀ H', Sep H0 ft H' (l.set n (t, p, .lst (xs ++ [v]))) → Q .non H') (ht : t = 1 ∨ t = 2 := by first | exact .inl rfl | exact .inr rfl) :
    rAppend (.ref p) [v] H Q := ⟨p, xs, v, rfl, rfl, S.get n h, Nat.lt_of_lt_of_le hl (by decide), q _ (S.put n _ h ht)⟩
theorem x_ty {xs : List V} (S : Sep H0 ft H l) (n : Nat) (h : l[n]? = some (t, p, .lst xs)) : tyV K "list" (.ref p) H := .inl ⟨rfl, xs, S.sl n h⟩
def rInsert : V → List V → Hp → VK → Prop := fun x vs H Q => ∃ (l : Addr) (xs : List V) (i : Int) (y : V), x = .ref l ∧ vs = [.int i, y] ∧ H l = some (.lst xs) ∧ xs.length < sizeLine ∧ 0 ≤ i ∧ i < 2 ^ 63 ∧ Q .non (upd H l (.lst (xs.take i.toNat ++ [y] ++ xs.drop i.toNat)))
theorem mt_ins {X : Cx} : MtR X "list.insert" rInsert := mt_insert
theorem x_ins {xs : List V} (S : Sep H0 ft H l) (n : Nat) (h : l[n]? = some (t, p, .lst xs)) (hl : xs.length < 100000) (h0 : 0 ≤ i) (h1 : i < 2 ^ 63) (q : ∀ H', Sep H0 ft H' (l.set n (t, p, .lst (xs.take i.toNat ++ [v] ++ xs.drop i.toNat))) → Q .non H')
    (ht : t = 1 ∨ t = 2 := by first | exact .inl rfl | exact .inr rfl) : rInsert (.ref p) [.int i, v] H Q := ⟨p, xs, i, v, rfl, rfl, S.get n h, Nat.lt_of_lt_of_le hl (by decide), h0, h1, q _ (S.put n _ h ht)⟩
/-- a list of ints with one put in -/
def insAt {α : Type} (ys : List α) (i : Int) (v : α) : List α := ys.take i.toNat ++ [v] ++ ys.drop i.toNat
theorem mem_insAt {α : Type} {ys : List α} {i : Int} {v x : α} : x ∈ insAt ys i v ↔ x = v ∨ x ∈ ys := by
  unfold insAt
  rw [List.append_assoc, List.mem_append, List.mem_append, List.mem_singleton]
  constructor
  · rintro (h | h | h)
    · exact .inr (List.mem_of_mem_take h)
    · exact .inl h
    · exact .inr (List.mem_of_mem_drop h)
  · rintro (h | h)
    · exact .inr (.inl h)
    · rw [← List.take_append_drop i.toNat ys] at h
      rcases List.mem_append.mp h with h | h
      · exact .inl h
      · exact .inr (.inr h)
theorem len_insAt {α : Type} {ys : List α} {i : Int} {v : α} : (insAt ys i v).length = ys.length + 1 := by
  unfold insAt
  rw [List.length_append, List.length_append, List.length_take, List.length_drop, List.length_singleton]
  omega
theorem insAt_map {α : Type} (f : α → V) (ys : List α) (i : Int) (v : α) : (ys.map f).take i.toNat ++ [f v] ++ (ys.map f).drop i.toNat = (insAt ys i v).map f := by
  unfold insAt
  rw [List.map_append, List.map_append, List.map_take, List.map_drop, List.map_singleton]
theorem x_insI {cs : List Int} (S : Sep H0 ft H l) (n : Nat) (h : l[n]? = some (t, p, .lst (cs.map V.int))) (hl : cs.length < 100000) (h0 : 0 ≤ i) (h1 : i < 2 ^ 63) (q : ∀ H', Sep H0 ft H' (l.set n (t, p, .lst ((insAt cs i j).map V.int))) → Q .non H')
    (ht : t = 1 ∨ t = 2 := by first | exact .inl rfl | exact .inr rfl) : rInsert (.ref p) [.int i, .int j] H Q := by
  refine x_ins S n h (by rw [List.length_map]; exact hl) h0 h1 (fun H' S' => q H' ?_) ht
  rw [insAt_map] at S'
  exact S'
/-- data compared -/
theorem dp_ints {ns : List Int} : DpAll K H (ns.map V.int) (ns.map PyData.int) := by
  induction ns with
  | nil => exact .nil
  | cons n r ih => exact .cons (.int n) ih
theorem lay_ints : ∀ ns : List Int, PyData.canLayAll0 (ns.map PyData.int) = true
  | [] => rfl
  | n :: r => lay_ints r
theorem dep_ints : ∀ ns : List Int, PyData.depthAll (ns.map PyData.int) = 0
  | [] => rfl
  | n :: r => by rw [List.map_cons, PyData.depthAll, dep_ints r]; rfl
theorem sh_list (ns : List Int) : SeqAt.shaped (.list (ns.map PyData.int)) = true := by
  unfold SeqAt.shaped
  rw [show PyData.canLay0 (.list (ns.map PyData.int)) = true from lay_ints ns, PyData.depth, dep_ints]
  rfl
theorem sh_tup (ns : List Int) : SeqAt.shaped (.tuple (ns.map PyData.int)) = true := by
  unfold SeqAt.shaped
  rw [show PyData.canLay0 (.tuple (ns.map PyData.int)) = true from lay_ints ns, PyData.depth, dep_ints]
  rfl
theorem eqv_list (ns ms : List Int) : PyData.eqv (.list (ns.map PyData.int)) (.list (ms.map PyData.int)) = decide (ns = ms) := PySem.W.Datum.eqv (α := List Int) ns ms
theorem eqv_tup (ns ms : List Int) : PyData.eqv (.tuple (ns.map PyData.int)) (.tuple (ms.map PyData.int)) = decide (ns = ms) := by
  have := PySem.W.Datum.eqv (α := PySem.W.Tup Int) ⟨ns⟩ ⟨ms⟩
  rw [show PyData.eqv (.tuple (ns.map PyData.int)) (.tuple (ms.map PyData.int)) = decide ((⟨ns⟩ : PySem.W.Tup Int) = ⟨ms⟩) from this]
  exact decide_eq_decide.mpr ⟨fun e => congrArg PySem.W.Tup.items e, fun e => by rw [e]⟩
theorem x_neSq {q : Addr} {xs ys : List Int} (hx : SqL K H p (xs.map V.int)) (hy : SqL K H q (ys.map V.int)) (k : Q (.bl (!decide (xs = ys))) H) : rNeD K (.ref p) (.ref q) H Q :=
  ⟨_, _, .lst hx dp_ints, .lst hy dp_ints, sh_list xs, sh_list ys, by rw [eqv_list]; exact k⟩
theorem x_neL {q : Addr} {xs ys : List Int} {t' : Nat} (S : Sep H0 ft H l) (n m : Nat) (h : l[n]? = some (t, p, .lst (xs.map V.int))) (h' : l[m]? = some (t', q, .lst (ys.map V.int))) (k : Q (.bl (!decide (xs = ys))) H) : rNeD K (.ref p) (.ref q) H Q :=
  x_neSq (S.sl n h) (S.sl m h') k
theorem x_eqP {q : Addr} {a b c d : Int} {t' : Nat} (S : Sep H0 ft H l) (n m : Nat) (h : l[n]? = some (t, p, .tup [.int a, .int b])) (h' : l[m]? = some (t', q, .tup [.int c, .int d])) (k : Q (.bl (decide (([a, b] : List Int) = [c, d]))) H) : rEqD K (.ref p) (.ref q) H Q :=
  ⟨_, _, .tup (S.st n h) (dp_ints (ns := [a, b])), .tup (S.st m h') (dp_ints (ns := [c, d])), sh_tup _, sh_tup _, by rw [eqv_tup]; exact k⟩
theorem x_neP {q : Addr} {a b c d : Int} {t' : Nat} (S : Sep H0 ft H l) (n m : Nat) (h : l[n]? = some (t, p, .tup [.int a, .int b])) (h' : l[m]? = some (t', q, .tup [.int c, .int d])) (k : Q (.bl (!decide (([a, b] : List Int) = [c, d]))) H) : rNeD K (.ref p) (.ref q) H Q :=
  ⟨_, _, .tup (S.st n h) (dp_ints (ns := [a, b])), .tup (S.st m h') (dp_ints (ns := [c, d])), sh_tup _, sh_tup _, by rw [eqv_tup]; exact k⟩
end
/-! ### defs as facts -/
structure Cal (P : Program) (w : World) (K : PySem.W.Frag) (mg : Str → Option Value) (base : Heap) (CX : CXT) (k : Nat) (x : Str) (sp : Sp) : Prop where
  ex : ∃ (f : Addr) (fd : FuncData) (ps : List Str), FnOk P w K mg base CX k f fd ps sp ∧ mg x = some (.ref f) ∧ PySem.W.keepIn K (.ref f) = true ∧ Binds K fd ps []
structure Met (P : Program) (w : World) (K : PySem.W.Frag) (mg : Str → Option Value) (base : Heap) (CX : CXT) (k : Nat) (C : Addr) (m : Str) (sp : Sp) : Prop where
  ex : ∃ (f : Addr) (fd : FuncData) (ps : List Str), Cls K C ∧ L2.Meth K C m f ∧ FnOk P w K mg base CX k f fd ps sp ∧ Binds K fd ps []
/-- C(k = v, ..): all keyword-only, no other parameters -/
structure MakK (P : Program) (w : World) (K : PySem.W.Frag) (mg : Str → Option Value) (base : Heap) (CX : CXT) (k : Nat) (x : Str) (C : Addr) (ks : List Str) (sp : Sp) : Prop where
  ex : ∃ (f : Addr) (fd : FuncData) (ps : List Str) (g : List Value → List Value → List Value), Mk K C f ∧ FnOk P w K mg base CX k f fd ps sp ∧ mg x = some (.ref C) ∧ KBn K fd ps 1 ks g (fun vs zs => vs ++ zs)
section
variable {X : Cx} {CX : CXT} {k j : Nat} {C : Addr} {x m : Str} {sp : Sp} {E : XK} {p pos apos : Pos} {e o : Expr} {es : List Expr} {kws : List Keyword} {ks : List Str} {ta : TE} {t tk : TA}
theorem pe_c (c : Cal X.prog X.w X.K X.mg X.base CX k x sp) (hr : Room j X.A) (hk : k ≤ j) (hg : Gl X x) (hx : Passes CX X E) (ha : PA X (e :: es) t)
    (hdb : (x == ("__debug__" : Str)) = false := by decide) (he : starEach (e :: es) X.env = (false, eval e X.env) :: starEach es X.env := by rfl) (hpl : (backTo pos (starEach es X.env)).any (·.1) = false := by rfl) :
    PE X (.Call (.Name x p) (e :: es) [] pos) (tCall sp [] E t) := by
  obtain ⟨f, fd, ps, F, hm, kp, b⟩ := c.ex
  exact pe_call F (hr.mono hk) hg hm kp b .nil hx ha hdb he hpl
theorem pe_mt {pl : Sem Bool} (c : Met X.prog X.w X.K X.mg X.base CX k C m sp) (hr : Room j X.A) (hk : k ≤ j) (hx : Passes CX X E) (he : PE X o ta) (ha : PA X (e :: es) t)
    (hst : starEach (e :: es) X.env = (false, eval e X.env) :: starEach es X.env := by rfl) (hpl : (backTo pos (starEach es X.env)).any (·.1) = false := by rfl)
    (ht : eval (.Call (.Attribute o m apos) (e :: es) [] pos) X.env = (do
      let ov ← eval o X.env
      standAt apos.atName
      let (f, first) ← holding [ov] (getMethod ov m pl)
      callWith pos f first (backTo pos (starEach (e :: es) X.env)) (backToKw pos (keywordEach [] X.env))) := by rfl) :
    PE X (.Call (.Attribute o m apos) (e :: es) [] pos) (tMeth1 C m sp [] E ta t) := by
  obtain ⟨f, fd, ps, hc, hm, F, b⟩ := c.ex
  exact pe_meth (pl := pl) he hc hm F (hr.mono hk) b .nil hx ha hst hpl ht
theorem pe_mt0 {pl : Sem Bool} (c : Met X.prog X.w X.K X.mg X.base CX k C m sp) (hr : Room j X.A) (hk : k ≤ j) (hx : Passes CX X E) (he : PE X o ta)
    (ht : eval (.Call (.Attribute o m apos) [] [] pos) X.env = (do
      let ov ← eval o X.env
      standAt apos.atName
      let (f, first) ← holding [ov] (getMethod ov m pl)
      callWith pos f first (backTo pos (starEach [] X.env)) (backToKw pos (keywordEach [] X.env))) := by rfl) :
    PE X (.Call (.Attribute o m apos) [] [] pos) (tMeth1 C m sp [] E ta tNil) := by
  obtain ⟨f, fd, ps, hc, hm, F, b⟩ := c.ex
  exact pe_meth0 (pl := pl) he hc hm F (hr.mono hk) b .nil hx ht
def rMkK (C : Addr) (n m : Nat) (sp : Sp) (gV : List V → List V → List V) (E : XK) : List V → List V → Hp → VK → Prop := fun vs zs H Q => vs.length = n ∧ zs.length = m ∧ ∀ x dx, H x = none → H dx = none → dx ≠ x →
  sp (gV (.ref x :: vs) zs) (upd (upd H dx (.own x)) x (.ins C dx [])) (fun v H3 => v = .non ∧ Q (.ref x) H3) E
def tMakeK1 (C : Addr) (n m : Nat) (sp : Sp) (gV : List V → List V → List V) (E : XK) (t tk : TA) : TE := fun σ H Q => t σ H fun vs H1 => tk σ H1 fun zs H2 => rMkK C n m sp gV E vs zs H2 Q
theorem pe_mkK (c : MakK X.prog X.w X.K X.mg X.base CX k x C ks sp) (hr : Room j X.A) (hk : k + 1 ≤ j) (hg : Gl X x) (hx : Passes CX X E) (hkw : PK X kws tk)
    (hall : (backToKw pos (keywordEach kws X.env)).all (·.1.isSome) = true := by rfl) (hks : (backToKw pos (keywordEach kws X.env)).filterMap (·.1) = ks := by rfl) (hdb : (x == ("__debug__" : Str)) = false := by decide)
    (hpl : ((backTo pos (starEach [] X.env)).any (·.1) || (backToKw pos (keywordEach kws X.env)).any (·.1.isNone)) = false := by rfl) :
    PE X (.Call (.Name x p) [] kws pos) (tMakeK1 C 0 ks.length sp (fun vs zs => vs ++ zs) E tNil tk) := by
  obtain ⟨f, fd, ps, g, M, F, hm, b⟩ := c.ex
  exact pe_makeK0 M F (hr.mono hk) hg hm b hx hkw hall hks hdb hpl
end
/-! ### calls by keywords -/
/-- the keywords' values in the parameters' order -/
def kwp (is : List Nat) {α : Type} (ws : List α) : List α := is.filterMap (ws[·]?)
theorem kwp_vals : ∀ (is : List Nat) {zs : List V} {ws : List Value}, L2.Vals zs ws → L2.Vals (kwp is zs) (kwp is ws)
  | [], _, _, _ => .nil
  | i :: r, zs, ws, h => by
    unfold kwp
    cases e : zs[i]? with
    | none =>
      rw [List.filterMap_cons_none e, List.filterMap_cons_none (h.none_of e)]
      exact kwp_vals r h
    | some v =>
      obtain ⟨u, e2, rv⟩ := h.get e
      rw [List.filterMap_cons_some e, List.filterMap_cons_some e2]
      exact .cons rv (kwp_vals r h)
/-- o.m(k = v, ..) -/
structure MetK (P : Program) (w : World) (K : PySem.W.Frag) (mg : Str → Option Value) (base : Heap) (CX : CXT) (k : Nat) (C : Addr) (m : Str) (ks : List Str) (is : List Nat) (sp : Sp) : Prop where
  ex : ∃ (f : Addr) (fd : FuncData) (ps : List Str), Cls K C ∧ L2.Meth K C m f ∧ FnOk P w K mg base CX k f fd ps sp ∧ KBn K fd ps 1 ks (fun us ws => us ++ kwp is ws) (fun vs zs => vs ++ kwp is zs)
/-- f(k = v, ..) -/
structure CalK (P : Program) (w : World) (K : PySem.W.Frag) (mg : Str → Option Value) (base : Heap) (CX : CXT) (k : Nat) (x : Str) (ks : List Str) (is : List Nat) (sp : Sp) : Prop where
  ex : ∃ (f : Addr) (fd : FuncData) (ps : List Str), FnOk P w K mg base CX k f fd ps sp ∧ mg x = some (.ref f) ∧ PySem.W.keepIn K (.ref f) = true ∧ KBn K fd ps 0 ks (fun us ws => us ++ kwp is ws) (fun vs zs => vs ++ kwp is zs)
def tMethK1 (C : Addr) (m : Str) (n : Nat) (is : List Nat) (sp : Sp) (E : XK) (ta : TE) (tk : TA) : TE := fun σ H Q => ta σ H fun x H1 => rMe C m x H1 (tk σ H1 fun zs H2 => zs.length = n ∧ sp ([x] ++ kwp is zs) H2 Q E)
def tCallK1 (n : Nat) (is : List Nat) (sp : Sp) (E : XK) (tk : TA) : TE := fun σ H Q => tk σ H fun zs H2 => zs.length = n ∧ sp ([] ++ kwp is zs) H2 Q E
section
variable {X : Cx} {CX : CXT} {k j : Nat} {C : Addr} {x m : Str} {sp : Sp} {E : XK} {p pos apos : Pos} {e o : Expr} {kws : List Keyword} {ks : List Str} {is : List Nat} {ta : TE} {t tk : TA}
theorem pe_mtK {pl : Sem Bool} (c : MetK X.prog X.w X.K X.mg X.base CX k C m ks is sp) (hr : Room j X.A) (hk : k ≤ j) (hx : Passes CX X E) (he : PE X o ta) (hkw : PK X kws tk)
    (hall : (backToKw pos (keywordEach kws X.env)).all (·.1.isSome) = true := by rfl) (hks : (backToKw pos (keywordEach kws X.env)).filterMap (·.1) = ks := by rfl)
    (hpl : ((backTo pos (starEach [] X.env)).any (·.1) || (backToKw pos (keywordEach kws X.env)).any (·.1.isNone)) = false := by rfl)
    (ht : eval (.Call (.Attribute o m apos) [] kws pos) X.env = (do
      let ov ← eval o X.env
      standAt apos.atName
      let (f, first) ← holding [ov] (getMethod ov m pl)
      callWith pos f first (backTo pos (starEach [] X.env)) (backToKw pos (keywordEach kws X.env))) := by rfl) :
    PE X (.Call (.Attribute o m apos) [] kws pos) (tMethK1 C m ks.length is sp E ta tk) := by
  obtain ⟨f, fd, ps, c1, hm, F, b⟩ := c.ex
  refine ⟨fun pins s σ H Q I h => ?_⟩
  refine PySem.W.methodCall_KW (pl := pl) (thn (he.run pins s σ H _ I h) fun u s1 ⟨x, H1, I1, rx, a, dx, fs, ex, ea, l, q⟩ => ?_) ht
  subst ex
  obtain rfl : u = Value.ref a := rx
  refine getmeth_ok I1 ea c1 hm l ?_
  refine PySem.W.callWith_KW0 (first := [.ref a]) (h₀ := X.base) I.ok.mod.kin hm.kp hall (thn (hkw.run pos pins s1 σ H1 _ I1 q) fun ws s2 ⟨zs, H2, I2, rz, l2, q2⟩ => ⟨I2.kIn, ?_⟩) hpl
  rw [hks]
  exact run_fnN (us := [.ref a]) (vs := [.ref a]) F (hr.mono hk) b hx I2 (.cons rfl .nil) rz rfl l2 q2
theorem pe_ck (c : CalK X.prog X.w X.K X.mg X.base CX k x ks is sp) (hr : Room j X.A) (hk : k ≤ j) (hg : Gl X x) (hx : Passes CX X E) (hkw : PK X kws tk)
    (hall : (backToKw pos (keywordEach kws X.env)).all (·.1.isSome) = true := by rfl) (hks : (backToKw pos (keywordEach kws X.env)).filterMap (·.1) = ks := by rfl) (hdb : (x == ("__debug__" : Str)) = false := by decide)
    (hpl : ((backTo pos (starEach [] X.env)).any (·.1) || (backToKw pos (keywordEach kws X.env)).any (·.1.isNone)) = false := by rfl) :
    PE X (.Call (.Name x p) [] kws pos) (tCallK1 ks.length is sp E tk) := by
  obtain ⟨f, fd, ps, F, hm, kp, b⟩ := c.ex
  refine ⟨fun pins s σ H Q I h => ?_⟩
  refine wpAny_Call_Name_kw (ld_glob I hg hm ?_ hdb)
  refine PySem.W.callWith_KW0 (h₀ := X.base) I.ok.mod.kin kp hall (thn (hkw.run pos pins s σ H _ I h) fun ws s2 ⟨zs, H2, I2, rz, l2, q2⟩ => ⟨I2.kIn, ?_⟩) hpl
  rw [hks]
  exact run_fnN (us := []) (vs := []) F (hr.mono hk) b hx I2 .nil rz rfl l2 q2
end
/-- C(): every keyword-only parameter by its default -/
structure MakD (P : Program) (w : World) (K : PySem.W.Frag) (mg : Str → Option Value) (base : Heap) (CX : CXT) (k : Nat) (x : Str) (C : Addr) (dvs : List V) (sp : Sp) : Prop where
  ex : ∃ (f : Addr) (fd : FuncData) (ps : List Str) (ds : List Value), Mk K C f ∧ FnOk P w K mg base CX k f fd ps sp ∧ mg x = some (.ref C) ∧ Binds K fd ps ds ∧ L2.Vals dvs ds
def rMk0 (C : Addr) (sp : Sp) (dvs : List V) (E : XK) : Hp → VK → Prop := fun H Q => ∀ x dx, H x = none → H dx = none → dx ≠ x → sp (.ref x :: ([] ++ dvs)) (upd (upd H dx (.own x)) x (.ins C dx [])) (fun v H2 => v = .non ∧ Q (.ref x) H2) E
def tMk0 (C : Addr) (sp : Sp) (dvs : List V) (E : XK) : TE := fun _ H Q => rMk0 C sp dvs E H Q
theorem pe_mkD {X : Cx} {CX : CXT} {k j : Nat} {C : Addr} {x : Str} {sp : Sp} {E : XK} {p pos : Pos} {dvs : List V} (c : MakD X.prog X.w X.K X.mg X.base CX k x C dvs sp) (hr : Room j X.A) (hk : k + 1 ≤ j) (hg : Gl X x) (hx : Passes CX X E) (hdb : (x == ("__debug__" : Str)) = false := by decide) :
    PE X (.Call (.Name x p) [] [] pos) (tMk0 C sp dvs E) := by
  obtain ⟨f, fd, ps, ds, M, F, hm, b, d⟩ := c.ex
  exact pe_make0 M F (hr.mono hk) hg hm b d hx hdb
section
variable {H0 H : Hp} {ft : List Addr} {l : List Cell} {t : Nat} {a p C : Addr} {o : HO} {c : Cell}
theorem Sep.drop1 (S : Sep H0 ft H (c :: l)) : Sep H0 ft H l :=
  ⟨(List.nodup_cons.mp S.nd).2, fun d h => S.rd d (List.mem_cons_of_mem _ h), S.fr, fun d h => S.wr d (List.mem_cons_of_mem _ h), fun d h => S.nw d (List.mem_cons_of_mem _ h), S.ex⟩
theorem Sep.drop2 {d : Cell} (S : Sep H0 ft H (d :: c :: l)) : Sep H0 ft H (d :: l) := by
  obtain ⟨n1, n2⟩ := List.nodup_cons.mp S.nd
  exact ⟨List.nodup_cons.mpr ⟨fun h => n1 (List.mem_cons_of_mem _ h), (List.nodup_cons.mp n2).2⟩, fun e h => S.rd e ((List.mem_cons.mp h).elim (fun z => z ▸ List.mem_cons_self) fun h => List.mem_cons_of_mem _ (List.mem_cons_of_mem _ h)), S.fr,
    fun e h => S.wr e ((List.mem_cons.mp h).elim (fun z => z ▸ List.mem_cons_self) fun h => List.mem_cons_of_mem _ (List.mem_cons_of_mem _ h)),
    fun e h => S.nw e ((List.mem_cons.mp h).elim (fun z => z ▸ List.mem_cons_self) fun h => List.mem_cons_of_mem _ (List.mem_cons_of_mem _ h)), S.ex⟩
/-- a new instance, ahead of its __init__ -/
theorem Sep.made {x dx : Addr} (S : Sep H0 ft H l) (hx : H x = none) (hd : H dx = none) (n : dx ≠ x) : Sep H0 ft (upd (upd H dx (.own x)) x (.ins C dx [])) ((2, x, .ins C dx []) :: l) :=
  ((S.new hd (.own x)).new (by rw [upd_ne n.symm]; exact hx) (.ins C dx [])).drop2
/-- a new cell that a call has laid -/
theorem Sep.got {H' : Hp} {l' : List Cell} (S : Sep H0 ft H l) (S' : Sep H0 ft H' l') (e : l'.map (·.2.1) = l.map (·.2.1)) (hn : H p = none) (hp : H' p = some o) : Sep H0 ft H' ((2, p, o) :: l') := by
  refine S'.add 2 hp (fun c hc z => ?_) (fun e => by cases e) fun _ => S.none0 hn
  have : c.2.1 ∈ l.map (·.2.1) := by rw [← e]; exact List.mem_map.mpr ⟨c, hc, rfl⟩
  obtain ⟨d, hd, ed⟩ := List.mem_map.mp this
  have := S.rd d hd
  rw [ed, z, hn] at this; cases this
theorem map_set {i : Nat} {o' : HO} (h : l[i]? = some (t, a, o)) : (l.set i (t, a, o')).map (·.2.1) = l.map (·.2.1) := by
  rw [List.map_set]
  have : (l.map (·.2.1))[i]? = some a := by rw [List.getElem?_map, h]; rfl
  obtain ⟨x, e⟩ := List.getElem?_eq_some_iff.mp this
  rw [← e]
  exact List.set_getElem_self x
end
/-- tests -/
theorem ited {p A B : Prop} [Decidable p] (h1 : p → A) (h2 : ¬ p → B) : if decide p = true then A else B := by
  by_cases h : p
  · rw [decide_eq_true h, if_pos rfl]; exact h1 h
  · rw [decide_eq_false h, if_neg Bool.false_ne_true]; exact h2 h
theorem itend {p A B : Prop} [Decidable p] (h1 : ¬ p → A) (h2 : p → B) : if (!decide p) = true then A else B := by
  by_cases h : p
  · rw [decide_eq_true h]; exact h2 h
  · rw [decide_eq_false h]; exact h1 h
theorem iteq {i j : Int} {A B : Prop} (h1 : i = j → A) (h2 : i ≠ j → B) : if decide (V.int i = V.int j) = true then A else B := ited (fun h => h1 (V.int.inj h)) fun h => h2 fun e => h (by rw [e])
theorem itne {i j : Int} {A B : Prop} (h1 : i ≠ j → A) (h2 : i = j → B) : if (!decide (V.int i = V.int j)) = true then A else B := itend (fun h => h1 fun e => h (by rw [e])) fun h => h2 (V.int.inj h)
theorem iteb {b : Bool} {A B : Prop} (h1 : b = true → A) (h2 : b = false → B) : if b = true then A else B := by
  cases b with
  | true => rw [if_pos rfl]; exact h1 rfl
  | false => rw [if_neg Bool.false_ne_true]; exact h2 rfl
theorem itnb {b : Bool} {A B : Prop} (h1 : b = false → A) (h2 : b = true → B) : if (!b) = true then A else B := by
  cases b with
  | true => exact ite2 (fun h => nomatch h) fun _ => h2 rfl
  | false => exact ite2 (fun _ => h1 rfl) fun h => absurd rfl h
theorem itnn {b : Bool} {A B : Prop} (h : if b = true then A else B) : if (!(!b)) = true then A else B := by rw [Bool.not_not]; exact h
theorem iteSome {v : Option V} {A B : Prop} (h1 : ∀ w, v = some w → A) (h2 : v = none → B) : if v.isSome = true then A else B := by
  cases v with
  | none => exact ite2 (fun h => nomatch h) fun _ => h2 rfl
  | some w => exact ite2 (fun _ => h1 w rfl) fun h => absurd rfl h
theorem iteNone {v : Option V} {A B : Prop} (h1 : v = none → A) (h2 : ∀ w, v = some w → B) : if (!v.isSome) = true then A else B := by
  cases v with
  | none => exact ite2 (fun _ => h1 rfl) fun h => absurd rfl h
  | some w => exact ite2 (fun h => nomatch h) fun _ => h2 w rfl
theorem mul_bd {a b A B : Int} (h0 : 0 ≤ a) (h1 : a < A) (h2 : 0 ≤ b) (h3 : b < B) : 0 ≤ a * b ∧ a * b < A * B :=
  ⟨Int.mul_nonneg h0 h2, Int.lt_of_le_of_lt (Int.mul_le_mul_of_nonneg_left (Int.le_of_lt h3) h0) (Int.mul_lt_mul_of_pos_right h1 (by omega))⟩
theorem pos_lt {x y : Int} (h : 0 < x) : y % x < x := Int.emod_lt_of_pos y h
theorem mod_nn {x y : Int} (h : 0 < x) : 0 ≤ y % x := Int.emod_nonneg y (by omega)
/-! ### calls that change several cells -/
section
variable {H0 H H' : Hp} {ft ft' : List Addr} {l l' : List Cell}
/-- the cells ahead of a call, tagged anew -/
theorem Sep.retag (S : Sep H0 ft H l) (e : l'.map (·.2) = l.map (·.2)) (h1 : ∀ c ∈ l', c.1 = 1 → c.2.1 ∈ ft') (h2 : ∀ c ∈ l', c.1 ≠ 2) (h3 : ∀ b ∈ ft', b ∈ l'.map (·.2.1)) : Sep H ft' H l' := by
  have em : l'.map (·.2.1) = l.map (·.2.1) := by
    have := congrArg (List.map Prod.fst) e
    rw [List.map_map, List.map_map] at this
    exact this
  have rd : ∀ c ∈ l', H c.2.1 = some c.2.2 := fun c hc => by
    have : c.2 ∈ l.map (·.2) := by rw [← e]; exact List.mem_map.mpr ⟨c, hc, rfl⟩
    obtain ⟨d, hd, ed⟩ := List.mem_map.mp this
    have := S.rd d hd
    rw [ed] at this
    exact this
  refine ⟨by rw [em]; exact S.nd, rd, fun _ _ h _ => h, h1, fun c hc z => absurd z (h2 c hc), fun b hb => ?_⟩
  obtain ⟨c, hc, rfl⟩ := List.mem_map.mp (h3 b hb)
  exact ⟨_, rd c hc⟩
/-- the cells that a call is given: (tag, index) -/
def preL (l : List Cell) (is : List (Nat × Nat)) : List Cell := is.filterMap fun u => l[u.2]?.map fun c => (u.1, c.2)
theorem Sep.pre (S : Sep H0 ft H l) (is : List (Nat × Nat)) (hn : (is.map (·.2)).Nodup := by decide) (ht : (is.all fun u => decide (u.1 ≤ 1)) = true := by decide) : Sep H (((preL l is).filter (·.1 = 1)).map (·.2.1)) H (preL l is) := by
  refine (S.sub (is.map (·.2)) hn).retag ?_ ?_ ?_ ?_
  · unfold preL
    rw [List.map_filterMap, List.map_filterMap, List.filterMap_map]
    congr 1
    funext u
    show Option.map _ (Option.map _ l[u.2]?) = Option.map _ l[u.2]?
    cases l[u.2]? <;> rfl
  · intro c hc e
    exact List.mem_map.mpr ⟨c, List.mem_filter.mpr ⟨hc, decide_eq_true e⟩, rfl⟩
  · intro c hc e
    obtain ⟨u, hu, eu⟩ := List.mem_filterMap.mp hc
    obtain ⟨d, _, rfl⟩ := Option.map_eq_some_iff.mp eu
    have := of_decide_eq_true (List.all_eq_true.mp ht u hu)
    have e : u.1 = 2 := e
    omega
  · intro b hb
    obtain ⟨c, hc, rfl⟩ := List.mem_map.mp hb
    exact List.mem_map.mpr ⟨c, (List.mem_filter.mp hc).1, rfl⟩
/-- the cells behind it: (index, cell) -/
theorem Sep.chgs : ∀ (us : List (Nat × Cell)) {H : Hp} {l : List Cell}, Sep H0 ft H l → (∀ u ∈ us, ∃ o, l[u.1]? = some (u.2.1, u.2.2.1, o)) → (∀ u ∈ us, u.2.1 = 1 ∨ u.2.1 = 2) → (us.map (·.1)).Nodup →
    (∀ b o, H b = some o → b ∉ us.map (·.2.2.1) → H' b = some o) → (∀ u ∈ us, H' u.2.2.1 = some u.2.2.2) → Sep H0 ft H' (us.foldl (fun l u => l.set u.1 u.2) l)
  | [], _, _, S, _, _, _, F, _ => S.stay fun b o e => F b o e (fun z => nomatch z)
  | (i, t, a, o') :: r, H, l, S, hi, ht, hn, F, he => by
    obtain ⟨o, ho⟩ := hi _ List.mem_cons_self
    obtain ⟨n1, n2⟩ := List.nodup_cons.mp hn
    refine Sep.chgs r (S.put i o' ho (ht _ List.mem_cons_self)) (fun u hu => ?_) (fun u hu => ht u (List.mem_cons_of_mem _ hu)) n2 (fun b u hb hm => ?_) (fun u hu => he u (List.mem_cons_of_mem _ hu))
    · obtain ⟨v, hv⟩ := hi u (List.mem_cons_of_mem _ hu)
      exact ⟨v, by rw [List.getElem?_set_ne (fun z => n1 (List.mem_map.mpr ⟨u, hu, z.symm⟩))]; exact hv⟩
    · by_cases z : b = a
      · subst z
        rw [upd_same] at hb
        cases hb
        exact he _ List.mem_cons_self
      · rw [upd_ne z] at hb
        exact F b u hb (fun m => (List.mem_cons.mp m).elim z hm)
end
theorem fun_kbn {K : PySem.W.Frag} {x qual : Str} {st : Stmt} {f : Addr} {fd : FuncData} (F : L2.Fun K x qual st f fd) (n : Nat) (ks : List Str) (is : List Nat) {ps : List Str}
    (h : ∀ (kV doc pm : Value) (an : Option Addr) (cdv ct : Value) (us ws : List Value), us.length = n → ws.length = ks.length → bindArgs (PySem.W.fnOf x qual (defArgs st) (defBody st) (defScope st) .none kV doc pm an cdv ct) ⟨us, ks.zip ws⟩ = pure (ps.zip (us ++ kwp is ws))) :
    KBn K fd ps n ks (fun us ws => us ++ kwp is ws) (fun vs zs => vs ++ kwp is zs) := by
  obtain ⟨oc, od, kV, doc, pm, an, cdv, ct, osl, rfl, lk, hcd⟩ := F.ex
  exact ⟨fun s us ws _ l1 l2 => .of_eq (h kV doc pm an cdv ct us ws l1 l2), fun r1 r2 => r1.append (kwp_vals is r2)⟩
/-! ### rules that the layer lacks -/
section
variable {X : Cx}
theorem get_list : PGet X (rIxL X.K) := by
  intro pins s σ H x y v u Q I rx ry h
  obtain ⟨p, xs, i, z, rfl, rfl, hq, he, q⟩ := h
  cases rx
  obtain ⟨t, rfl⟩ := ry
  obtain ⟨its, r, pl, hz⟩ := I.list hq
  obtain ⟨j, h1, h2, h3, h4, h5⟩ := atI_get he
  obtain ⟨w, ew, rw'⟩ := r.get h2
  have hl := r.length
  have hn := line63
  have fin : EP X pins σ Q w s := ⟨z, H, I, rw', q⟩
  by_cases h0 : 0 ≤ i
  · have hj : i.toNat = j := by
      rw [seqIndex_of h0 h5] at h1
      exact Option.some.inj h1
    exact wpAny_getItem_list pl.isList h0 (by omega) (by rw [hj]; simpa using ew) fin
  · have hj : (i + (its.toArray.size : Int)).toNat = j := by
      rw [seqIndex_neg (by omega) h4] at h1
      rw [List.size_toArray, ← hl]
      exact Option.some.inj h1
    exact wpAny_getItem_list_neg pl.isList (by omega) (by rw [List.size_toArray] <;> omega) (by omega) (by rw [hj]; simpa using ew) fin
end
end G

set_option linter.all false
set_option maxRecDepth 100000
/-! walks, locked dicts, dicts with tuple keys, more methods -/
namespace G
open PySem PySem.Spec PyProof.Rows L2
section
variable {H0 H : Hp} {ft : List Addr} {l : List Cell} {t : Nat} {a p : Addr} {o u : HO} {K : PySem.W.Frag} {σ : L2.St} {Q : VK} {v x y z : V} {i j : Int}
theorem x_join (te : TE) (R : V → Hp → Prop) (k : ∀ v H', R v H' → Q v H') (h : (∀ v H', R v H' → Q v H') → te σ H Q) : te σ H Q := h k
theorem x_orT {ta tb : TE} (h : ta σ H fun x H1 => ∃ k, TruV K x H1 k ∧ if k = true then Q x H1 else tb σ H1 Q) : tOrT K ta tb σ H Q := h
theorem forW {J : It} {n : Nat} {G : Hp → Prop} {Y : Nat → Hp → V → Hp → Prop} (w : Walk J n G Y) {g : TG} {tb : TS} {D : Ends} (Pv : Nat → L2.St → Hp → Prop) (h0 : Pv 0 σ H) (hG : ∀ i σ H, i ≤ n → Pv i σ H → G H)
    (hs : ∀ i x σ H H', i < n → Pv i σ H → Y i H x H' → g x σ H' fun σ2 H2 => tb { D with nx := Pv (i + 1), ct := Pv (i + 1), bk := D.nx } σ2 H2) (hd : ∀ σ H, Pv n σ H → D.nx σ H) : ForJ J g tb D σ H := for_it w Pv h0 hG hs hd
theorem lcW {J : It} {n : Nat} {G : Hp → Prop} {Y : Nat → Hp → V → Hp → Prop} (w : Walk J n G Y) {g : TG} {tt : TT} {te : TE} {vs : List Nat} (S : Sep H0 ft H l)
    (h : ∀ D H1, Sep H0 ft H1 ((2, D, .lst []) :: l) → ∃ Pv : Nat → Hp → Prop, Pv 0 H1 ∧ (∀ i H, i ≤ n → Pv i H → G H) ∧
      (∀ i x H H', i < n → Pv i H → Y i H x H' → g x (wipe σ vs) H' fun σ2 H2 => wipe σ2 vs = wipe σ vs ∧ tt σ2 H2 fun b H3 => if b = true then te σ2 H3 fun y H4 => rLcA D y H4 (Pv (i + 1)) else Pv (i + 1) H3) ∧
      ∀ H, Pv n H → Q (.ref D) H) : LcJ J g tt te vs σ H Q := fun D hD =>
  let ⟨Pv, h0, hG, hs, hd⟩ := h D _ (S.new hD (.lst []))
  lc_it w (H1 := H) Pv h0 hG hs hd
theorem pg_tupK {X : Cx} {pos : Pos} {es : List Expr} {k : Nat} {t : TGs} (K : PySem.W.Frag) (n : Nat) (hc : X.calm = true) (h : PGs X es t) (hn : (assignEach es X.env).length = n := by rfl) (hst : (assignEach es X.env).findIdx? (·.1) = none := by rfl) (e : X.K = K := by rfl) : PG X (.Tuple es k pos) (gTup K n t) := by
  subst e; exact pg_tup hc h hn hst
def tNevE : TE := fun _ _ _ => False
theorem pe_never {X : Cx} {e : Expr} : PE X e tNevE := ⟨fun _ _ _ _ _ _ h => h.elim⟩
def tNevT : TT := fun _ _ _ => False
theorem pt_never {X : Cx} {e : Expr} : PT X e tNevT := ⟨fun _ _ _ _ _ _ h => h.elim⟩
/-! a dict that is walked stands locked -/
def rUnl (p : Addr) (od : Obj) (u : HO) (H : Hp) (R : Hp → Prop) : Prop := H p = some (.frz od u) ∧ R (upd H p u)
theorem x_lockE {te : TE} (S : Sep H0 ft H l) (n : Nat) (h : l[n]? = some (t, p, u)) (mu : Mut (some u)) (q : ∀ od H', Sep H0 ft H' (l.set n (t, p, .frz od u)) → te σ H' fun v H2 => rUnl p od u H2 (Q v))
    (ht : t = 1 ∨ t = 2 := by first | exact .inl rfl | exact .inr rfl) : tLockE te σ H Q := ⟨p, u, S.get n h, mu, fun od => q od _ (S.put n _ h ht)⟩
theorem x_unl {od : Obj} {R : Hp → Prop} (S : Sep H0 ft H l) (n : Nat) (h : l[n]? = some (t, p, .frz od u)) (q : ∀ H', Sep H0 ft H' (l.set n (t, p, u)) → R H') (ht : t = 1 ∨ t = 2 := by first | exact .inl rfl | exact .inr rfl) : rUnl p od u H R :=
  ⟨S.get n h, q _ (S.put n _ h ht)⟩
def lockD (p : Addr) (od : Obj) (u : HO) (D : Ends) : Ends := ⟨fun σ' H' => rUnl p od u H' (D.nx σ'), fun v H' => rUnl p od u H' (D.rt v), fun σ' H' => rUnl p od u H' (D.bk σ'), fun σ' H' => rUnl p od u H' (D.ct σ')⟩
theorem x_lockS {ts : TS} {D : Ends} (S : Sep H0 ft H l) (n : Nat) (h : l[n]? = some (t, p, u)) (mu : Mut (some u)) (q : ∀ od H', Sep H0 ft H' (l.set n (t, p, .frz od u)) → ts (lockD p od u D) σ H')
    (ht : t = 1 ∨ t = 2 := by first | exact .inl rfl | exact .inr rfl) : tLock ts D σ H := ⟨p, u, S.get n h, mu, fun od => q od _ (S.put n _ h ht)⟩
def rKeys : V → Hp → (It → Hp → Prop) → Prop := fun x H R => ∃ d o, x = .ref d ∧ ((∃ kvs, H d = some (.frz o (.dK kvs)) ∧ R (Itk d o kvs) H) ∨ ∃ kvs, H d = some (.frz o (.dT kvs)) ∧ R (Itkt d o kvs) H)
def iKeys1 (td : TE) : TI := fun σ H R => td σ H fun x H1 => rKeys x H1 R
theorem pi_keys1 {X : Cx} {tg e : Expr} {td : TE} (he : PE X e td) : PI X tg e (iKeys1 td) := pi_keys he
theorem x_ikeysT {od : Obj} {kvs : List (List Key × V)} {R : It → Hp → Prop} (S : Sep H0 ft H l) (n : Nat) (h : l[n]? = some (t, p, .frz od (.dT kvs))) (q : R (Itkt p od kvs) H) : rKeys (.ref p) H R := ⟨p, od, rfl, .inr ⟨kvs, S.get n h, q⟩⟩
theorem x_ikeys {od : Obj} {kvs : List (Key × V)} {R : It → Hp → Prop} (S : Sep H0 ft H l) (n : Nat) (h : l[n]? = some (t, p, .frz od (.dK kvs))) (q : R (Itk p od kvs) H) : rKeys (.ref p) H R := ⟨p, od, rfl, .inl ⟨kvs, S.get n h, q⟩⟩
def rEnum (K : PySem.W.Frag) : List V → Hp → (It → Hp → Prop) → Prop := fun vs H R => ∃ a xs, vs = [.ref a] ∧ SqL K H a xs ∧ R (Ite K a) H
def iEnum1 (K : PySem.W.Frag) (ta : TA) : TI := fun σ H R => ta σ H fun vs H1 => rEnum K vs H1 R
theorem pi_enumK {X : Cx} {e : Expr} {ta : TA} {p pos tpos : Pos} {elts : List Expr} {kk : Nat} (K : PySem.W.Frag) (hg : Gl X "enumerate") (hm : X.mg "enumerate" = none) (ha : PA X [e] ta) (hs : starEach [e] X.env = [(false, eval e X.env)] := by rfl) (h : X.K = K := by rfl) :
    PI X (.Tuple elts kk tpos) (.Call (.Name "enumerate" p) [e] [] pos) (iEnum1 K ta) := by subst h; exact pi_enum hg hm ha hs
theorem x_enum {xs : List V} {R : It → Hp → Prop} (S : Sep H0 ft H l) (n : Nat) (h : l[n]? = some (t, p, .lst xs)) (q : R (Ite K p) H) : rEnum K [.ref p] H R := ⟨p, xs, rfl, S.sl n h, q⟩
/-! dicts with tuple keys -/
def rDNewT : Hp → VK → Prop := fun H Q => ∀ p, H p = none → Q (.ref p) (upd H p (.dT []))
def tDNewT1 : TE := fun _ H Q => rDNewT H Q
theorem pe_dnewT1 {X : Cx} {pos : Pos} : PE X (.Dict [] [] pos) tDNewT1 := pe_dnewT
theorem x_dnewT (S : Sep H0 ft H l) (q : ∀ p H', Sep H0 ft H' ((2, p, .dT []) :: l) → Q (.ref p) H') : rDNewT H Q := x_new S _ q
theorem x_dputT {t' : Nat} {b : Addr} {kvs : List (List Key × V)} {xs : List V} {R : Hp → Prop} (k : List Key) (S : Sep H0 ft H l) (n m : Nat) (h : l[n]? = some (t, p, .dT kvs)) (h' : l[m]? = some (t', b, .tup xs)) (hl : kvs.length < 100000) (q : ∀ H', Sep H0 ft H' (l.set n (t, p, .dT (putK kvs k v))) → R H')
    (e : xs = k.map kV := by rfl) (ht : t = 1 ∨ t = 2 := by first | exact .inl rfl | exact .inr rfl) : rDPut (.ref p) (.ref b) v H R := by
  subst e; exact ⟨p, _, rfl, DPut.t (S.get n h) (S.get m h') (Nat.lt_of_lt_of_le hl (by decide)), q _ (S.put n _ h ht)⟩
theorem x_dinT {t' : Nat} {b : Addr} {kvs : List (List Key × V)} {xs : List V} (k : List Key) (S : Sep H0 ft H l) (n m : Nat) (h : l[n]? = some (t, p, .dT kvs)) (h' : l[m]? = some (t', b, .tup xs)) (q : Q (.bl (valV kvs k).isSome) H) (e : xs = k.map kV := by rfl) : rDIn (.ref b) (.ref p) H Q := by
  subst e; exact ⟨p, _, rfl, DGet.t (S.get n h) (S.get m h'), q⟩
theorem x_dniT {t' : Nat} {b : Addr} {kvs : List (List Key × V)} {xs : List V} (k : List Key) (S : Sep H0 ft H l) (n m : Nat) (h : l[n]? = some (t, p, .dT kvs)) (h' : l[m]? = some (t', b, .tup xs)) (q : Q (.bl (!(valV kvs k).isSome)) H) (e : xs = k.map kV := by rfl) : rDNi (.ref b) (.ref p) H Q := by
  subst e; exact ⟨p, _, rfl, DGet.t (S.get n h) (S.get m h'), q⟩
/-! d.get -/
def rDG (y z : V) (a : Addr) (H : Hp) (Q : VK) : Prop := ∃ o, DGet H a y o ∧ Q (o.getD z) H
def tDG1 (td ty : TE) : TE := fun σ H Q => td σ H fun x H1 => rIsD x H1 fun a => ty σ H1 fun y H2 => rDG y .non a H2 Q
def tDG2 (td ty tx : TE) : TE := fun σ H Q => td σ H fun x H1 => rIsD x H1 fun a => ty σ H1 fun y H2 => tx σ H2 fun z H3 => rDG y z a H3 Q
section
variable {X : Cx} {td ty tx : TE} {oe e f : Expr} {apos cpos : Pos}
theorem pe_dg1 (hu : X.A.units + 1 < cLine) (ho : PE X oe td) (he : PE X e ty) (m : M1 X oe "get" apos e cpos) : PE X (.Call (.Attribute oe "get" apos) [e] [] cpos) (tDG1 td ty) := pe_dget1 hu ho he m
theorem pe_dg2 (hu : X.A.units + 1 < cLine) (ho : PE X oe td) (he : PE X e ty) (hf : PE X f tx) (m : M2 X oe "get" apos e f cpos) : PE X (.Call (.Attribute oe "get" apos) [e, f] [] cpos) (tDG2 td ty tx) := pe_dget2 hu ho he hf m
end
theorem x_dg {kvs : List (Key × V)} {k : Key} (S : Sep H0 ft H l) (n : Nat) (h : l[n]? = some (t, p, .dK kvs)) (q0 : valV kvs k = none → Q z H) (q1 : ∀ v, valV kvs k = some v → Q v H) : rDG (kV k) z p H Q := by
  refine ⟨_, DGet.k (k := k) (S.get n h), ?_⟩
  cases e : valV kvs k with
  | none => exact q0 e
  | some v => exact q1 v e
theorem x_dgT {t' : Nat} {b : Addr} {kvs : List (List Key × V)} {xs : List V} (k : List Key) (S : Sep H0 ft H l) (n m : Nat) (h : l[n]? = some (t, p, .dT kvs)) (h' : l[m]? = some (t', b, .tup xs)) (q0 : valV kvs k = none → Q z H) (q1 : ∀ v, valV kvs k = some v → Q v H) (e : xs = k.map kV := by rfl) : rDG (.ref b) z p H Q := by
  subst e
  refine ⟨_, DGet.t (k := k) (S.get n h) (S.get m h'), ?_⟩
  cases e : valV kvs k with
  | none => exact q0 e
  | some v => exact q1 v e
theorem x_isDT {kvs : List (List Key × V)} {R : Addr → Prop} (S : Sep H0 ft H l) (n : Nat) (h : l[n]? = some (t, p, .dT kvs)) (q : R p) : rIsD (.ref p) H R := ⟨p, rfl, .inr ⟨_, .inl (S.get n h)⟩, q⟩
/-! more calls -/
def rAbs : List V → Hp → VK → Prop := fun xs H Q => ∃ i, xs = [.int i] ∧ Q (.int (if i < 0 then -i else i)) H
theorem cl_abs {X : Cx} : CallR X (.builtin "abs") rAbs := call_abs
theorem x_abs (q : Q (.int (i.natAbs : Int)) H) : rAbs [.int i] H Q := ⟨i, rfl, by
  have : (if i < 0 then -i else i) = (i.natAbs : Int) := by split <;> omega
  rw [this]; exact q⟩
theorem cl_maxK {X : Cx} (K : PySem.W.Frag) (hc : X.calm = true) (h : X.K = K := by rfl) : CallR X (.builtin "max") (rMax K) := by subst h; exact cr_max hc
theorem x_maxL {ns : List Int} (S : Sep H0 ft H l) (n : Nat) (h : l[n]? = some (t, p, .lst (ns.map V.int))) (hl : 0 < ns.length) (q : ∀ m, m ∈ ns → (∀ y, y ∈ ns → y ≤ m) → Q (.int m) H) : rMax K [.ref p] H Q := ⟨p, ns, rfl, S.sl n h, hl, q⟩
theorem cl_sortedK {X : Cx} (K : PySem.W.Frag) (h : X.K = K := by rfl) : CallR X (.builtin "sorted") (rSorted K) := by subst h; exact cr_sorted
theorem x_sorted {ns : List Int} (S : Sep H0 ft H l) (n : Nat) (h : l[n]? = some (t, p, .lst (ns.map V.int))) (hl : ns.length < 64) (q : ∀ (ns' : List Int) r H', ns'.Perm ns → ns'.Pairwise (· ≤ ·) → Sep H0 ft H' ((2, r, .lst (ns'.map V.int)) :: l) → Q (.ref r) H') : rSorted K [.ref p] H Q :=
  ⟨p, ns, rfl, S.sl n h, hl, fun ns' r hp hw hr => q ns' r _ hp hw (S.new hr _)⟩
theorem x_cat {q1 : Addr} {t' : Nat} {xs ys : List V} (S : Sep H0 ft H l) (n m : Nat) (h : l[n]? = some (t, p, .lst xs)) (h' : l[m]? = some (t', q1, .lst ys)) (hl : xs.length + ys.length ≤ 100000) (q : ∀ r H', Sep H0 ft H' ((2, r, .lst (xs ++ ys)) :: l) → Q (.ref r) H') : rCat (.ref p) (.ref q1) H Q :=
  ⟨p, q1, xs, ys, rfl, rfl, S.get n h, S.get m h', Nat.le_trans hl (by decide), x_new S _ q⟩
theorem x_rev {xs : List V} (S : Sep H0 ft H l) (n : Nat) (h : l[n]? = some (t, p, .lst xs)) (q : ∀ H', Sep H0 ft H' (l.set n (t, p, .lst xs.reverse)) → Q .non H') (ht : t = 1 ∨ t = 2 := by first | exact .inl rfl | exact .inr rfl) : rReverse (.ref p) [] H Q := ⟨p, xs, rfl, rfl, S.get n h, q _ (S.put n _ h ht)⟩
theorem x_clear {xs : List V} (S : Sep H0 ft H l) (n : Nat) (h : l[n]? = some (t, p, .lst xs)) (q : ∀ H', Sep H0 ft H' (l.set n (t, p, .lst [])) → Q .non H') (ht : t = 1 ∨ t = 2 := by first | exact .inl rfl | exact .inr rfl) : rClear (.ref p) [] H Q := ⟨p, xs, rfl, rfl, S.get n h, q _ (S.put n _ h ht)⟩
theorem x_appI {cs : List Int} (S : Sep H0 ft H l) (n : Nat) (h : l[n]? = some (t, p, .lst (cs.map V.int))) (hl : cs.length < 100000) (q : ∀ H', Sep H0 ft H' (l.set n (t, p, .lst ((cs ++ [i]).map V.int))) → Q .non H') (ht : t = 1 ∨ t = 2 := by first | exact .inl rfl | exact .inr rfl) :
    rAppend (.ref p) [.int i] H Q := x_app S n h (by rw [List.length_map]; exact hl) (fun H' S' => q H' (by rw [List.map_append]; exact S')) ht
/-! a list of which the script's cells are read -/
theorem x_slS {cs : List Int} {lo hi : Option Int} (hs : SqL K H p (cs.map V.int)) (S : Sep H0 ft H l) (q : ∀ r H', Sep H0 ft H' ((2, r, .lst ((cutI cs lo hi).map V.int)) :: l) → Q (.ref r) H') : rSlL K (.ref p) lo hi H Q :=
  ⟨p, _, rfl, hs, by rw [cutV_map]; exact x_new S _ q⟩
theorem len_cutI {α : Type} (xs : List α) (lo hi : Option Int) : (cutI xs lo hi).length ≤ xs.length := by
  unfold cutI
  rw [List.length_take, List.length_drop]
  omega
theorem cutV_from {xs : List V} {i : Int} (h0 : 0 ≤ i) : cutV xs (some i) none = xs.drop i.toNat := by
  unfold cutV
  have e : i = (i.toNat : Int) := by omega
  rw [e, HT.sIx_nat, Int.toNat_natCast]
  have e2 : HT.sIx xs.length xs.length none = xs.length := by unfold HT.sIx; simp
  rw [e2]
  by_cases hl : i.toNat ≤ xs.length
  · rw [Nat.min_eq_left hl, List.take_of_length_le (by rw [List.length_drop]; exact Nat.le_refl _)]
  · rw [Nat.min_eq_right (by omega), List.drop_length, List.take_nil, List.drop_eq_nil_of_le (by omega)]
end
end G

set_option linter.all false
set_option maxRecDepth 100000
/-! dicts with fixed keys, displays, a tail of cells -/
namespace G
open PySem PySem.Spec PyProof.Rows L2
section
variable {H0 H H' : Hp} {ft : List Addr} {l l' o' : List Cell} {t : Nat} {a p : Addr} {o u : HO} {K : PySem.W.Frag} {σ : L2.St} {Q : VK} {v x y z : V} {i j : Int}
def rDsE (p : Addr) (ps : List (V × V)) (H : Hp) (Q : VK) : Prop := H p = some (.dK []) ∧ ∃ kvs : List (Key × V), ps = kvs.map (fun kv => (kV kv.1, kv.2)) ∧ kvs.length ≤ 15 ∧ Q (.ref p) (upd H p (.dK (mergeK [] kvs)))
theorem x_disp {trs : List (TE × TE)} (S : Sep H0 ft H l) (q : ∀ p H', Sep H0 ft H' ((2, p, .dK []) :: l) → tPairs trs σ H' fun ps H2 => rDsE p ps H2 Q) : tDisp trs σ H Q := fun p hp => q p _ (S.new hp _)
theorem x_dispE {kvs kvs' : List (Key × V)} {ps : List (V × V)} (S : Sep H0 ft H l) (n : Nat) (h : l[n]? = some (t, p, .dK [])) (e : ps = kvs.map (fun kv => (kV kv.1, kv.2))) (hl : kvs.length ≤ 15) (hm : mergeK [] kvs = kvs') (q : ∀ H', Sep H0 ft H' (l.set n (t, p, .dK kvs')) → Q (.ref p) H')
    (ht : t = 1 ∨ t = 2 := by first | exact .inl rfl | exact .inr rfl) : rDsE p ps H Q := ⟨S.get n h, kvs, e, hl, by rw [hm]; exact q _ (S.put n _ h ht)⟩
theorem x_dputR {kvs kvs' : List (Key × V)} {k : Key} {R : Hp → Prop} (S : Sep H0 ft H l) (n : Nat) (h : l[n]? = some (t, p, .dK kvs)) (e : putK kvs k v = kvs') (hl : kvs.length < 100000) (q : ∀ H', Sep H0 ft H' (l.set n (t, p, .dK kvs')) → R H')
    (ht : t = 1 ∨ t = 2 := by first | exact .inl rfl | exact .inr rfl) : rDPut (.ref p) (kV k) v H R := x_dput S n h hl (fun H' S' => q H' (by rw [← e]; exact S')) ht
theorem x_pop0 {xs : List V} (S : Sep H0 ft H l) (n : Nat) (h : l[n]? = some (t, p, .lst (x :: xs))) (q : ∀ H', Sep H0 ft H' (l.set n (t, p, .lst xs)) → Q x H') (ht : t = 1 ∨ t = 2 := by first | exact .inl rfl | exact .inr rfl) : rPopAt (.ref p) [.int 0] H Q :=
  ⟨p, _, 0, 0, x, rfl, rfl, S.get n h, by decide, by decide, by unfold seqIndex?; simp, rfl, q _ (S.put n _ h ht)⟩
/-- some of the first n cells, in another order, ahead of the others -/
theorem Sep.subT (S : Sep H0 ft H l) (n : Nat) (is : List Nat) (hn : is.Nodup := by decide) (hb : (is.all fun i => decide (i < n)) = true := by decide) : Sep H0 ft H (is.filterMap (l[·]?) ++ l.drop n) := by
  have hm : ∀ c ∈ is.filterMap (l[·]?) ++ l.drop n, c ∈ l := fun c hc => by
    rcases List.mem_append.mp hc with hc | hc
    · obtain ⟨j, _, ej⟩ := List.mem_filterMap.mp hc
      exact List.mem_of_getElem? ej
    · exact List.mem_of_mem_drop hc
  refine ⟨?_, fun c hc => S.rd c (hm c hc), S.fr, fun c hc => S.wr c (hm c hc), fun c hc => S.nw c (hm c hc), S.ex⟩
  have e1 : (is.filterMap (l[·]?)).map (·.2.1) = is.filterMap ((l.map (·.2.1))[·]?) := by
    rw [List.map_filterMap]
    congr 1
    funext i
    rw [List.getElem?_map]
  rw [List.map_append, List.map_drop, e1]
  refine List.nodup_append.mpr ⟨nodup_of _ is hn S.nd, List.Sublist.nodup (List.drop_sublist _ _) S.nd, fun b hb1 c hc1 e => ?_⟩
  subst e
  obtain ⟨i, hi, ei⟩ := List.mem_filterMap.mp hb1
  have hin : i < n := of_decide_eq_true (List.all_eq_true.mp hb i hi)
  obtain ⟨j, hj⟩ := List.mem_iff_getElem?.mp hc1
  rw [List.getElem?_drop] at hj
  obtain ⟨x1, e1'⟩ := List.getElem?_eq_some_iff.mp ei
  obtain ⟨x2, e2'⟩ := List.getElem?_eq_some_iff.mp hj
  have := (List.getElem_inj S.nd).mp (e1'.trans e2'.symm)
  omega
/-- what a def with two cells of its own is given -/
theorem Sep.give3 {t1 t2 t3 : Nat} {p q r : Addr} {o1 o2 o3 : HO} (S : Sep H0 ft H l) (i j k : Nat) (hi : l[i]? = some (t1, p, o1)) (hj : l[j]? = some (t2, q, o2)) (hk : l[k]? = some (t3, r, o3)) (hn : [i, j, k].Nodup) : Sep H [p, q] H [(1, p, o1), (1, q, o2), (0, r, o3)] := by
  have h := S.sub [i, j, k] hn
  simp only [List.filterMap_cons, hi, hj, hk, List.filterMap_nil] at h
  refine h.retag rfl ?_ ?_ ?_
  · simp
  · simp
  · simp
theorem x_ilistS {xs : List V} {R : It → Hp → Prop} (hs : SqL K H p xs) (q : R (Itl K p) H) : rIL K (.ref p) H R := ⟨p, rfl, ⟨xs, hs⟩, q⟩
def AllP {α : Type} (p : α → Prop) : List α → Prop
  | [] => True
  | a :: r => p a ∧ AllP p r
theorem AllP.all {α : Type} {p : α → Prop} : ∀ {us : List α}, AllP p us → ∀ u ∈ us, p u
  | a :: r, ⟨h, hr⟩, u, hu => (List.mem_cons.mp hu).elim (fun e => e ▸ h) fun m => AllP.all hr u m
theorem fold_addr {us : List (Nat × Cell)} : ∀ {l : List Cell}, (∀ u ∈ us, ∃ o, l[u.1]? = some (u.2.1, u.2.2.1, o)) → (us.map (·.1)).Nodup → (us.foldl (fun l u => l.set u.1 u.2) l).map (·.2.1) = l.map (·.2.1) := by
  induction us with
  | nil => intro l _ _; rfl
  | cons u us ih =>
    intro l hi hn
    obtain ⟨n1, n2⟩ := List.nodup_cons.mp hn
    rw [List.foldl_cons, ih (fun v hv => ?_) n2]
    · obtain ⟨o, ho⟩ := hi u List.mem_cons_self
      exact map_set ho
    · obtain ⟨o, ho⟩ := hi v (List.mem_cons_of_mem _ hv)
      exact ⟨o, by rw [List.getElem?_set_ne (fun z => n1 (List.mem_map.mpr ⟨v, hv, z.symm⟩))]; exact ho⟩
/-- new cells beside those that are -/
theorem Sep.join {ft' : List Addr} {m : List Cell} (S : Sep H0 ft H l) (S1 : Sep H0 ft H' l') (e : l'.map (·.2.1) = l.map (·.2.1)) (S' : Sep H ft' H' (m ++ o')) (hm : ∀ c ∈ m, c.1 = 2) : Sep H0 ft H' (m ++ l') := by
  have hd : ∀ c ∈ m, H c.2.1 = none := fun c hc => S'.nw c (List.mem_append_left _ hc) (hm c hc)
  have nd' := S'.nd
  rw [List.map_append] at nd'
  refine ⟨?_, fun c hc => (List.mem_append.mp hc).elim (fun h => S'.rd c (List.mem_append_left _ h)) (S1.rd c), S1.fr, fun c hc e1 => (List.mem_append.mp hc).elim (fun h => by rw [hm c h] at e1; cases e1) (fun h => S1.wr c h e1),
    fun c hc e1 => (List.mem_append.mp hc).elim (fun h => S.none0 (hd c h)) (fun h => S1.nw c h e1), S1.ex⟩
  rw [List.map_append]
  refine List.nodup_append.mpr ⟨(List.nodup_append.mp nd').1, S1.nd, fun a ha b hb z => ?_⟩
  subst z
  obtain ⟨c, hc, rfl⟩ := List.mem_map.mp ha
  rw [e] at hb
  obtain ⟨d, hd2, ed⟩ := List.mem_map.mp hb
  have := S.rd d hd2
  rw [ed, hd c hc] at this
  cases this
/-- behind a call: n new cells and the changed ones are told by the callee's own list -/
theorem Sep.call {L : List Cell} (S : Sep H0 ft H l) (n : Nat) (us : List (Nat × Cell)) (hi : AllP (fun u : Nat × Cell => ∃ o, l[u.1]? = some (u.2.1, u.2.2.1, o) ∧ (u.2.1 = 1 ∨ u.2.1 = 2)) us) (hn : (us.map (·.1)).Nodup) (S' : Sep H (us.map (·.2.2.1)) H' L)
    (e : L.drop n = us.map (fun u => (1, u.2.2)) := by rfl) (hm : AllP (fun c : Cell => c.1 = 2) (L.take n) := by first | trivial | exact ⟨rfl, trivial⟩ | exact ⟨rfl, rfl, trivial⟩ | exact ⟨rfl, rfl, rfl, trivial⟩ | exact ⟨rfl, rfl, rfl, rfl, trivial⟩) : Sep H0 ft H' (L.take n ++ us.foldl (fun l u => l.set u.1 u.2) l) := by
  have hi1 : ∀ u ∈ us, ∃ o, l[u.1]? = some (u.2.1, u.2.2.1, o) := fun u hu => let ⟨o, h, _⟩ := hi.all u hu; ⟨o, h⟩
  have S1 := S.chgs us hi1 (fun u hu => let ⟨_, _, h⟩ := hi.all u hu; h) hn S'.fr (fun u hu => by
    have : ((1, u.2.2) : Cell) ∈ L := List.mem_of_mem_drop (i := n) (by rw [e]; exact List.mem_map.mpr ⟨u, hu, rfl⟩)
    exact S'.rd (1, u.2.2) this)
  rw [← List.take_append_drop n L] at S'
  exact S.join S1 (fold_addr hi1 hn) S' hm.all
end
end G

set_option linter.all false
set_option maxRecDepth 100000
/-! texts -/
namespace G
open PySem PySem.Spec PyProof.Rows L2
theorem len_app (a b : Str) : (a ++ b).length = a.length + b.length := by
  show (a.cps ++ b.cps).size = _
  rw [Array.size_append]; rfl
theorem len_join0 : ∀ ys : List Str, (Txt.join "" ys).length = (ys.map (·.length)).sum := by
  intro ys
  rw [TL.join_eq]
  induction ys with
  | nil => rfl
  | cons y r ih =>
    cases r with
    | nil => show y.length = y.length + 0; omega
    | cons z r =>
      show (y ++ ("" : Str) ++ Str.join "" (z :: r)).length = _
      rw [len_app, len_app, ih]
      rfl
theorem len_cut8 (z : Str) : (cutS z none (some 8)).length = min z.length 8 := by
  unfold cutS
  have e1 : HT.sIx z.length 0 none = 0 := by unfold HT.sIx; simp
  have e2 : HT.sIx z.length z.length (some 8) = min 8 z.length := HT.sIx_nat z.length z.length 8
  rw [e1, e2]
  show ((z.cps.toList.drop 0).take (min 8 z.length - 0)).toArray.size = _
  rw [List.size_toArray, List.length_take, List.drop_zero, Array.length_toList, Nat.sub_zero]
  show min (min 8 z.length) z.length = _
  omega
theorem inV_str (s : Str) (ss : List Str) : inV (.str s) (ss.map V.str) = decide (s ∈ ss) := by
  unfold inV
  induction ss with
  | nil => rfl
  | cons a r ih =>
    rw [List.map_cons, List.any_cons, ih]
    show ((a == s) || decide (s ∈ r)) = _
    by_cases h : s = a
    · subst h; simp
    · have : (a == s) = false := by
        apply Bool.eq_false_iff.mpr
        intro e
        exact h (eq_of_beq e).symm
      rw [this, Bool.false_or]
      exact decide_eq_decide.mpr ⟨fun m => List.mem_cons_of_mem _ m, fun m => (List.mem_cons.mp m).elim (fun e => absurd e h) id⟩
theorem flat_strs (ss : List Str) : (ss.map V.str).all flatV = true := List.all_eq_true.mpr fun v hv => by obtain ⟨s, _, rfl⟩ := List.mem_map.mp hv; rfl
section
variable {H0 H H' : Hp} {ft : List Addr} {l : List Cell} {t : Nat} {a p : Addr} {K : PySem.W.Frag} {σ : L2.St} {Q : VK} {v x y z : V} {i j : Int}
theorem op_inK {X : Cx} (K : PySem.W.Frag) (h : X.K = K := by rfl) : OpR X (compareOp .In) (rIn K false) := by subst h; exact op_in_seq
theorem op_niK {X : Cx} (K : PySem.W.Frag) (h : X.K = K := by rfl) : OpR X (compareOp .NotIn) (rIn K true) := by subst h; exact op_notIn_seq
theorem x_inS {s : Str} {ss : List Str} (S : Sep H0 ft H l) (n : Nat) (h : l[n]? = some (t, p, .lst (ss.map V.str))) (q : Q (.bl (decide (s ∈ ss))) H) : rIn K false (.str s) (.ref p) H Q :=
  ⟨p, _, rfl, .inl (S.sl n h), rfl, flat_strs ss, by rw [inV_str]; exact q⟩
theorem x_niS {s : Str} {ss : List Str} (S : Sep H0 ft H l) (n : Nat) (h : l[n]? = some (t, p, .lst (ss.map V.str))) (q : Q (.bl (!decide (s ∈ ss))) H) : rIn K true (.str s) (.ref p) H Q :=
  ⟨p, _, rfl, .inl (S.sl n h), rfl, flat_strs ss, by rw [inV_str]; exact q⟩
def rAddS : V → V → Hp → VK → Prop := fun x y H Q => ∃ i j, x = .str i ∧ y = .str j ∧ i.length + j.length ≤ sizeLine ∧ Q (.str (i ++ j)) H
theorem op_addS {X : Cx} : OpR X (binaryOp .Add) rAddS := op_add_str
theorem x_addS {a b : Str} (h : a.length + b.length ≤ 100000) (q : Q (.str (a ++ b)) H) : rAddS (.str a) (.str b) H Q := ⟨a, b, rfl, rfl, Nat.le_trans h (by decide), q⟩
theorem x_slStr {s : Str} {lo hi : Option Int} (h : s.length ≤ 100000) (q : Q (.str (cutS s lo hi)) H) : rSlS (.str s) lo hi H Q := ⟨s, rfl, Nat.le_trans h (by decide), q⟩
def rJoin (K : PySem.W.Frag) : V → List V → Hp → VK → Prop := fun x xs H Q => ∃ a p, ∃ ys : List Str, x = .str a ∧ xs = [.ref p] ∧ (SqL K H p (ys.map V.str) ∨ SqT K H p (ys.map V.str)) ∧ (ys.map (·.length)).sum + ys.length * a.length ≤ 16777216 ∧ Q (.str (Txt.join a ys)) H
theorem mt_joinK {X : Cx} (K : PySem.W.Frag) (h : X.K = K := by rfl) : MtR X "str.join" (rJoin K) := by subst h; exact mt_join
theorem x_joinS {s : Str} {ys : List Str} (S : Sep H0 ft H l) (n : Nat) (h : l[n]? = some (t, p, .lst (ys.map V.str))) (hl : (ys.map (·.length)).sum + ys.length * s.length ≤ 16777216) (q : Q (.str (Txt.join s ys)) H) : rJoin K (.str s) [.ref p] H Q := ⟨s, p, ys, rfl, rfl, .inl (S.sl n h), hl, q⟩
theorem x_lcappS {ss : List Str} {s : Str} {R : Hp → Prop} (S : Sep H0 ft H l) (n : Nat) (h : l[n]? = some (t, p, .lst (ss.map V.str))) (hl : ss.length < 100000) (q : ∀ H', Sep H0 ft H' (l.set n (t, p, .lst ((ss ++ [s]).map V.str))) → R H') (ht : t = 1 ∨ t = 2 := by first | exact .inl rfl | exact .inr rfl) :
    rLcA p (.str s) H R := x_lcapp S n h (by rw [List.length_map]; exact hl) (fun H' S' => q H' (by rw [List.map_append]; exact S')) ht
theorem x_appS {ss : List Str} {s : Str} (S : Sep H0 ft H l) (n : Nat) (h : l[n]? = some (t, p, .lst (ss.map V.str))) (hl : ss.length < 100000) (q : ∀ H', Sep H0 ft H' (l.set n (t, p, .lst ((ss ++ [s]).map V.str))) → Q .non H') (ht : t = 1 ∨ t = 2 := by first | exact .inl rfl | exact .inr rfl) :
    rAppend (.ref p) [.str s] H Q := x_app S n h (by rw [List.length_map]; exact hl) (fun H' S' => q H' (by rw [List.map_append]; exact S')) ht
def rStr : V → Hp → (It → Hp → Prop) → Prop := fun v H R => ∃ x, v = .str x ∧ R (Its x) H
def iStr1 (te : TE) : TI := fun σ H R => te σ H fun v H1 => rStr v H1 R
theorem pi_str1 {X : Cx} {tg e : Expr} {te : TE} (he : PE X e te) : PI X tg e (iStr1 te) := pi_str he
theorem x_istr {s : Str} {R : It → Hp → Prop} (q : R (Its s) H) : rStr (.str s) H R := ⟨s, rfl, q⟩
end
/-- small letters alone -/
def Low (s : Str) : Prop := ∀ c ∈ s.cps.toList, 97 ≤ c ∧ c ≤ 122
/-- a name: one to eight small letters -/
structure OkN (s : Str) : Prop where
  l1 : 1 ≤ s.length
  l8 : s.length ≤ 8
  low : Low s
def IsN (v : V) : Prop := ∃ s, v = .str s ∧ OkN s
theorem Low.app {a b : Str} (h : Low a) (h' : Low b) : Low (a ++ b) := fun c hc => by
  have : c ∈ a.cps.toList ++ b.cps.toList := by
    rw [← Array.toList_append]; exact hc
  exact (List.mem_append.mp this).elim (h c) (h' c)
theorem Low.cut {z : Str} {lo hi : Option Int} (h : Low z) : Low (cutS z lo hi) := fun c hc => by
  unfold cutS at hc
  exact h c (List.mem_of_mem_drop (List.mem_of_mem_take hc))
theorem Low.join : ∀ {ys : List Str}, (∀ y ∈ ys, Low y) → Low (Txt.join "" ys) := by
  intro ys h
  rw [TL.join_eq]
  induction ys with
  | nil => exact fun c hc => by cases hc
  | cons y r ih =>
    cases r with
    | nil => exact h y List.mem_cons_self
    | cons z r => exact ((h y List.mem_cons_self).app (fun c hc => by cases hc)).app (ih fun w hw => h w (List.mem_cons_of_mem _ hw))
theorem lay_strs : ∀ {ss : List Str}, (∀ s ∈ ss, Low s) → PyData.canLayAll0 (ss.map PyData.str) = true
  | [], _ => rfl
  | s :: r, h => by
    rw [List.map_cons, PyData.canLayAll0, lay_strs fun w hw => h w (List.mem_cons_of_mem _ hw), Bool.and_true]
    show PyData.strOk s = true
    have := h s List.mem_cons_self
    unfold PyData.strOk
    rw [← Array.all_toList]
    exact List.all_eq_true.mpr fun c hc => decide_eq_true (by have := (this c hc).2; omega)
theorem dep_strs : ∀ ss : List Str, PyData.depthAll (ss.map PyData.str) = 0
  | [] => rfl
  | n :: r => by rw [List.map_cons, PyData.depthAll, dep_strs r]; rfl
theorem sh_strs {ss : List Str} (h : ∀ s ∈ ss, Low s) : SeqAt.shaped (.list (ss.map PyData.str)) = true := by
  unfold SeqAt.shaped
  rw [show PyData.canLay0 (.list (ss.map PyData.str)) = true from lay_strs h, PyData.depth, dep_strs]
  rfl
theorem eqv_strs (ns ms : List Str) : PyData.eqv (.list (ns.map PyData.str)) (.list (ms.map PyData.str)) = decide (ns = ms) := PySem.W.Datum.eqv (α := List Str) ns ms
theorem dp_strs {K : PySem.W.Frag} {H : Hp} : ∀ {ss : List Str}, DpAll K H (ss.map V.str) (ss.map PyData.str)
  | [] => .nil
  | s :: r => .cons (.str s) dp_strs
theorem x_neS {K : PySem.W.Frag} {H0 H : Hp} {ft : List Addr} {l : List Cell} {t t' : Nat} {p q : Addr} {ss ts : List Str} {Q : VK} (S : Sep H0 ft H l) (n m : Nat) (h : l[n]? = some (t, p, .lst (ss.map V.str))) (h' : l[m]? = some (t', q, .lst (ts.map V.str))) (hs : ∀ s ∈ ss, Low s) (ht : ∀ s ∈ ts, Low s) (k : Q (.bl (!decide (ss = ts))) H) : rNeD K (.ref p) (.ref q) H Q :=
  ⟨_, _, .lst (S.sl n h) dp_strs, .lst (S.sl m h') dp_strs, sh_strs hs, sh_strs ht, by rw [eqv_strs]; exact k⟩
theorem at0 {α : Type} {x : α} {xs : List α} : atI (x :: xs) 0 = some x := by
  have := atI_nat (xs := x :: xs) (j := 0) (v := x) rfl
  exact this
theorem sum_ones : ∀ {ys : List Str}, (∀ s ∈ ys, s.length = 1) → (ys.map (·.length)).sum = ys.length
  | [], _ => rfl
  | y :: r, h => by rw [List.map_cons, List.sum_cons, h y List.mem_cons_self, sum_ones fun s m => h s (List.mem_cons_of_mem _ m), List.length_cons]; omega
end G

set_option linter.all false
set_option maxRecDepth 100000
set_option maxHeartbeats 2000000
/-! a, *rest = a tuple -/
namespace G
open PySem PySem.Spec PyProof.Rows
theorem nolen_ti : typeLookup (.type "tuple_iterator") "__len__" = pure none := by rw [typeLookup_type, builtinLookup_eq_fast]; kernel_rfl
theorem hint_ti : typeLookup (.type "tuple_iterator") "__length_hint__" = pure (some (.builtin "tuple_iterator.__length_hint__")) := by rw [typeLookup_type, builtinLookup_eq_fast]; kernel_rfl
section
variable {prog : Program} {w : World} {A : Around} {E : Value → Shared → Prop} {s : Shared}
theorem walks_shift {I : Addr} {fp wr : List Addr} {n k : Nat} {P : Nat → Value → Prop} {St : Nat → Heap → Prop} (W : Walks prog w A I fp wr n P St) (hk : k ≤ n) : Walks prog w A I fp wr (n - k) (fun i v => P (k + i) v) (fun i h => St (k + i) h) where
  sub := W.sub
  frame := fun i h h' st hf => W.frame (k + i) h h' st hf
  item := fun i s Q E hi st hQ => W.item (k + i) s Q E (by omega) st hQ
  done := fun s Q E st hQ => W.done s Q E (by have e : k + (n - k) = n := by omega
                                              rw [e] at st; exact st) hQ
  self := fun i s Q E st hQ => W.self (k + i) s Q E st hQ
theorem collect_ti {it t : Addr} {items : Array Value} {k : Nat} {Q : List Value → Shared → Prop} (hh : A.handled = none) (hit : s.heap.IsTupleIter it t k) (ht : s.heap.IsTuple t items) (hne : t ≠ it) (hk : k ≤ items.size) (hn : items.size ≤ sizeLine)
    (hQ : ∀ (h' : Heap) (tk : Nat) (acc : Array Value), (∀ b o, b ≠ it → s.heap.get? b = some o → h'.get? b = some o) → ItemsOf (fun i v => items[k + i]? = some v) acc (items.size - k) → Q acc.toList { s with heap := h', toks := tk }) :
    wpAny (model prog w) A (collect (.ref it)) Q E s := by
  have W := (walks_shift (Walks.tuple (prog := prog) (w := w) (A := A.in1) hh it t hne items) hk).toS
  obtain ⟨oi, hoi, hci, _⟩ := id hit
  obtain ⟨ol, hol, _⟩ := id ht
  have hSi : s.heap.objs.size ≠ it := Nat.ne_of_gt (Heap.lt_size hoi)
  have hSl : s.heap.objs.size ≠ t := Nat.ne_of_gt (Heap.lt_size hol)
  have hSf : s.heap.objs.size ∉ [it, t] := by simp only [List.mem_cons, List.not_mem_nil, or_false, not_or]; exact ⟨hSi, hSl⟩
  unfold collect
  refine wpAny_bind (wpAny_runValue (codeAny_builtin F.entry_proto_collect ?_))
  rw [Around.under_plainId F.plain_proto_collect _]
  show wpAny _ A.in1 (newList [] >>= fun l' => again (.builtin "list.__iadd__" ⟨[l', .ref it], []⟩)) _ _ s
  refine wpAny_bind (wpAny_newObj_type ?_)
  refine wpAny_pure ⟨plainId_quiet F.plain_list_iadd _, codeAny_builtin F.entry_list_iadd ?_⟩
  rw [Around.under_plainId F.plain_list_iadd _]
  have hS₁ : (s.heap.push { cls := .type "list", data := .seq ([] : List Value).toArray }).get? s.heap.objs.size = some { cls := .type "list", data := .seq ([] : List Value).toArray } := Heap.get?_push_size _ rfl
  have hit1 : (s.heap.push { cls := .type "list", data := .seq ([] : List Value).toArray }).IsTupleIter it t k := hit.at fun o e => Heap.get?_push_of_some _ e
  have ht1 : (s.heap.push { cls := .type "list", data := .seq ([] : List Value).toArray }).IsTuple t items := ht.at fun o e => Heap.get?_push_of_some _ e
  have hT : ({ s with heap := s.heap.push { cls := .type "list", data := .seq ([] : List Value).toArray } } : Shared).TypeIs (.ref it) "tuple_iterator" := ⟨oi, Heap.get?_push_of_some _ hoi, hci⟩
  have h1 : Builtin.List.listSameRef (.ref s.heap.objs.size) (.ref it) = false := by simp [Builtin.List.listSameRef, hSi]
  show wpAny _ A.in1 (Builtin.List.listExtendWith (.ref s.heap.objs.size) (.ref it) (.ref s.heap.objs.size)) _ _ _
  unfold Builtin.List.listExtendWith
  refine wpAny_bind (wpAny_typeOf hT ?_)
  rw [if_neg (by rw [h1]; decide)]
  refine wpAny_bind (wpAny_pyIter_tupleiter (s := { s with heap := s.heap.push { cls := .type "list", data := .seq ([] : List Value).toArray } }) hit1 ?_)
  refine wpAny_bind (wpAny_holding ?_)
  unfold Builtin.List.listLengthHint
  refine wpAny_bind (wpAny_specialOf hT nolen_ti ?_)
  show wpAny _ A.in1 (specialOf (Value.ref it) (Str.ofString "__length_hint__") >>= _) _ _ _
  refine wpAny_bind (wpAny_specialOf hT hint_ti ?_)
  generalize hid : ("tuple_iterator.__length_hint__" : String) = id0
  wp_delta
  rw [show splitId id0 = some ("tuple_iterator", "__length_hint__") from by subst hid; decide +kernel]
  subst hid
  refine wpAny_bind (wpAny_isInstance (b := true) hT (by rw [isSubtype_type]; kernel_rfl) ?_)
  refine wpAny_pure ?_
  rw [if_neg (by decide)]
  refine wpAny_pure ⟨plainId_quiet F.plain_extend_loop _, codeAny_extend_loopS W (by omega) _ hSf _ (items.size - k) 0 _ _ _ rfl (Nat.zero_le _) ⟨hit1, ht1⟩ hS₁ (ItemsOf.nil _) fun s' acc' c' hm hS' hacc => ?_⟩
  show wpAny _ A (load s.heap.objs.size >>= _) _ _ s'
  refine wpAny_bind (wpAny_load hS' ?_)
  refine wpAny_pure ?_
  rw [Moved.eq_with hm]
  refine hQ s'.heap s'.toks acc' (fun b o hb e => hm.heap b o (fun hmem => ?_) (Heap.get?_push_of_some _ e)) hacc
  rcases List.mem_cons.mp hmem with e' | hmem
  · exact absurd (Heap.lt_size e) (by rw [e']; exact Nat.lt_irrefl _)
  · exact hb (List.mem_singleton.mp hmem)
theorem unpackItems_star {t : Addr} {items : Array Value} {k : Nat} {Q : List Value → Shared → Prop} (hh : A.handled = none) (ht : IsTup s.heap t items) (hk : k ≤ items.size) (hn : items.size ≤ sizeLine)
    (hQ : ∀ (h' : Heap) (tk : Nat), Heap.ExtBut s.heap.objs.size s.heap h' → Q (items.toList.take k ++ [.ref h'.objs.size]) { s with heap := h'.push { cls := .type "list", data := .seq (items.toList.drop k).toArray }, toks := tk }) : wpAny (model prog w) A (unpackItems (.ref t) (k + 1) (some k)) Q E s := by
  have hlt : t ≠ s.heap.objs.size := by obtain ⟨o, ho, _⟩ := ht; exact Nat.ne_of_lt (Heap.lt_size ho)
  unfold unpackItems
  refine wpAny_bind ?_
  · unfold notIterableAtAll
    refine wpAny_bind (wpAny_specialOf ht.typeIs slot_tuple_iter.lookup ?_)
    refine wpAny_pure ?_
    simp only [Bool.false_eq_true, if_false]
    refine wpAny_bind (wpAny_holding (iter_tuple ht ?_))
    refine wpAny_bind (wpAny_holding (draw_tuple hlt k 0 _ _ ⟨_, Heap.get?_push_size _ rfl, rfl, rfl⟩ (ht.push _) (by omega) fun h₁ hit₁ hs₁ => ?_))
    rw [List.drop_zero]
    have hl1 : (items.toList.take k).length = k := by rw [List.length_take, Array.length_toList]; omega
    rw [if_neg (by rw [hl1]; omega)]
    have ht₁ : IsTup h₁ t items := (ht.push _).extBut hs₁.extBut hlt
    rw [Nat.zero_add] at hit₁
    refine wpAny_bind (wpAny_holding (collect_ti hh (s := { s with heap := h₁ }) (k := k) hit₁ ht₁ hlt hk hn fun h₂ tk acc hx hacc => ?_))
    have hall : acc.toList = items.toList.drop k := by
      apply List.ext_getElem?
      intro j
      rw [List.getElem?_drop]
      by_cases hj : j < acc.size
      · have e1 : acc.toList[j]? = some acc[j] := by rw [Array.getElem?_toList, Array.getElem?_eq_getElem hj]
        have := hacc.2 j acc[j] (Array.getElem?_eq_getElem hj)
        rw [e1, Array.getElem?_toList, this]
      · have hs := hacc.1
        rw [List.getElem?_eq_none (by rw [Array.length_toList]; omega), List.getElem?_eq_none (by rw [Array.length_toList]; omega)]
    rw [hall]
    rw [show k + 1 - 1 - k = 0 by omega]
    rw [if_neg (by omega), Nat.sub_zero, List.take_length, List.drop_length]
    refine wpAny_bind (wpAny_newList ?_)
    refine wpAny_pure ?_
    rw [List.append_nil]
    exact hQ h₂ tk fun b o hb e => hx b o hb (hs₁.extBut b o hb (Heap.get?_push_of_some _ e))
end
end G
namespace L2
open PySem PySem.Spec PyProof.Rows
section
variable {X : Cx} {pos : Pos}
/-- (a, .., *rest) = a tuple -/
def gStar (K : PySem.W.Frag) (k : Nat) (t : TGs) : TG := fun v σ H Q => ∃ a xs, v = .ref a ∧ SqT K H a xs ∧ k ≤ xs.length ∧ ∀ r, H r = none → t (xs.take k ++ [.ref r]) σ (upd H r (.lst (xs.drop k))) Q
theorem vals_take : ∀ {xs : List V} {us : List Value} (k : Nat), Vals xs us → Vals (xs.take k) (us.take k)
  | _, _, 0, _ => .nil
  | _, _, _ + 1, .nil => .nil
  | _, _, k + 1, .cons r h => .cons r (vals_take k h)
theorem vals_drop : ∀ {xs : List V} {us : List Value} (k : Nat), Vals xs us → Vals (xs.drop k) (us.drop k)
  | _, _, 0, h => h
  | _, _, _ + 1, .nil => .nil
  | _, _, k + 1, .cons _ h => vals_drop k h
theorem pgs_star {e : Expr} {p : Pos} {t : TG} (h1 : PG X e t) : PGs X [.Starred e p] (gCons t gNil) := by
  refine ⟨fun pins s σ H vs us Q I r h => ?_⟩
  obtain ⟨v, vr, e1, h⟩ := h
  subst e1
  cases r with
  | cons r rr =>
    show wpAny _ _ (assignInOrder [assign e X.env] _) _ _ _
    refine assignInOrder_cons (thn (h1.run pins s σ H _ _ _ I r h) fun _ s1 ⟨σ1, H1, I1, q1⟩ => ?_)
    obtain ⟨e2, q1⟩ := q1
    subst e2
    cases rr
    exact assignInOrder_nil ⟨σ1, H1, I1, q1⟩
theorem pg_star {es : List Expr} {j : Nat} {t : TGs} (K : PySem.W.Frag) (k : Nat) (hc : X.calm = true) (h : PGs X es t) (hn : (assignEach es X.env).length = k + 1 := by rfl) (hst : (assignEach es X.env).findIdx? (·.1) = some k := by rfl) (hK : X.K = K := by rfl) : PG X (.Tuple es j pos) (gStar K k t) := by
  subst hK
  refine ⟨fun pins s σ H v u Q I r hw => ?_⟩
  obtain ⟨a, xs, e1, hq, hl, hw⟩ := hw
  subst e1
  cases r
  obtain ⟨its, rv, ht, hz⟩ := I.tuple hq
  rw [PyProof.Rows.assign_Tuple]
  refine wpAny_bind (wpAny_standAt ?_)
  unfold unpack
  rw [hn, hst]
  have hlen := rv.length
  refine wpAny_bind (wpAny_holding (G.unpackItems_star (I.ok.hd hc) ht (by rw [List.size_toArray]; omega) (by rw [List.size_toArray]; omega) fun h' tk hx => ?_))
  have I1 : Inv X pins σ H { s with heap := h', toks := tk } := I.kept (t' := tk) fun b o e => hx b o (Nat.ne_of_lt (Heap.lt_size e)) e
  have I2 := I1.lnew (ys := xs.drop k) (its := its.drop k) (t' := tk) (vals_drop k rv) (by rw [List.length_drop]; omega)
  exact h.run pins _ σ _ (xs.take k ++ [.ref h'.objs.size]) _ Q I2 ((vals_take k rv).append (show Vals [V.ref h'.objs.size] [Value.ref h'.objs.size] from .cons rfl .nil)) (hw _ I1.fresh)
end
end L2

set_option linter.all false
set_option maxRecDepth 100000
/-! cells in a tail; star targets over the cells -/
namespace G
open PySem PySem.Spec PyProof.Rows L2
section
variable {H0 H H' : Hp} {ft : List Addr} {l l' m T : List Cell} {t : Nat} {a p : Addr} {o u : HO} {K : PySem.W.Frag} {σ : L2.St} {Q : VK} {v x y z : V} {i j : Int}
theorem Sep.perm (S : Sep H0 ft H l) (p : l'.Perm l) : Sep H0 ft H l' :=
  ⟨(p.map _).nodup_iff.mpr S.nd, fun c hc => S.rd c (p.mem_iff.mp hc), S.fr, fun c hc => S.wr c (p.mem_iff.mp hc), fun c hc => S.nw c (p.mem_iff.mp hc), S.ex⟩
/-- the new ones go behind the first n -/
theorem Sep.tail (S : Sep H0 ft H (m ++ l)) (n : Nat) : Sep H0 ft H (l.take n ++ (m ++ l.drop n)) := by
  refine S.perm ?_
  have h := List.perm_append_comm_assoc (l.take n) m (l.drop n)
  rw [List.take_append_drop] at h
  exact h
theorem Sep.callM (S : Sep H0 ft H l) (us : List (Nat × Cell)) (hi : AllP (fun u : Nat × Cell => ∃ o, l[u.1]? = some (u.2.1, u.2.2.1, o) ∧ (u.2.1 = 1 ∨ u.2.1 = 2)) us) (hn : (us.map (·.1)).Nodup) (S' : Sep H (us.map (·.2.2.1)) H' (m ++ us.map (fun u => (1, u.2.2)))) (hm : ∀ c ∈ m, c.1 = 2) :
    Sep H0 ft H' (m ++ us.foldl (fun l u => l.set u.1 u.2) l) := by
  have hi1 : ∀ u ∈ us, ∃ o, l[u.1]? = some (u.2.1, u.2.2.1, o) := fun u hu => let ⟨o, h, _⟩ := hi.all u hu; ⟨o, h⟩
  have S1 := S.chgs us hi1 (fun u hu => let ⟨_, _, h⟩ := hi.all u hu; h) hn S'.fr (fun u hu => S'.rd (1, u.2.2) (List.mem_append_right _ (List.mem_map.mpr ⟨u, hu, rfl⟩)))
  exact S.join S1 (fold_addr hi1 hn) S' hm
theorem Sep.cellT (S : Sep H0 ft H l) (n : Nat) {c : Cell} (h : c ∈ l.drop n) : H c.2.1 = some c.2.2 := S.rd c (List.mem_of_mem_drop h)
theorem cl_listK2 : True := trivial
/-- a cell of the tail -/
theorem Sep.cell (S : Sep H0 ft H l) {c : Cell} (h : c ∈ l) : H c.2.1 = some c.2.2 := S.rd c h
theorem x_star {n : Nat} {xs : List V} {tg : TGs} {Qg : L2.St → Hp → Prop} (S : Sep H0 ft H l) (h : SqT K H p xs) (hl : n ≤ xs.length) (q : ∀ r H', Sep H0 ft H' ((2, r, .lst (xs.drop n)) :: l) → tg (xs.take n ++ [.ref r]) σ H' Qg) : gStar K n tg (.ref p) σ H Qg :=
  ⟨p, xs, rfl, h, hl, fun r hr => q r _ (S.new hr _)⟩
theorem x_ixTf {xs : List V} (h : H p = some (.tup xs)) (ha : atI xs i = some v) (q : Q v H) : rIxT K (.ref p) (.int i) H Q := ⟨p, xs, i, v, rfl, rfl, .of h, ha, q⟩
theorem x_catT {q1 : Addr} {t' : Nat} {xs ys : List V} (S : Sep H0 ft H l) (n m : Nat) (h : l[n]? = some (t, p, .tup xs)) (h' : l[m]? = some (t', q1, .tup ys)) (h0 : xs ≠ []) (h1 : ys ≠ []) (hl : xs.length + ys.length ≤ 100000) (q : ∀ r H', Sep H0 ft H' ((2, r, .tup (xs ++ ys)) :: l) → Q (.ref r) H') : rCatT K (.ref p) (.ref q1) H Q :=
  ⟨p, q1, xs, ys, rfl, rfl, S.st n h, S.st m h', h0, Nat.le_trans hl (by decide), fun e => absurd e h1, fun _ => x_new S _ q⟩
theorem op_catTK {X : Cx} (K : PySem.W.Frag) (h : X.K = K := by rfl) : OpR X (binaryOp .Add) (rCatT K) := by subst h; exact op_catT
theorem x_dgetF {od : Obj} {kvs : List (Key × V)} {k : Key} (S : Sep H0 ft H l) (n : Nat) (h : l[n]? = some (t, p, .frz od (.dK kvs))) (hv : valV kvs k = some v) (q : Q v H) : rDGet (.ref p) (kV k) H Q := ⟨p, v, rfl, .inl ⟨kvs, k, .inr ⟨od, S.get n h⟩, rfl, hv.symm⟩, q⟩
end
end G

set_option linter.all false
set_option maxRecDepth 100000
/-! exceptions: raised, let out of a method, caught -/
namespace G
open PySem PySem.Spec PyProof.Rows L2
/-- a class of the program's own, below ValueError, without an __init__ -/
structure ExcC (K : PySem.W.Frag) (mg : Str → Option Value) (x : Str) (C : Addr) : Prop where
  g : mg x = some (.ref C)
  q : PySem.W.excIn K C [.type "ValueError", .type "Exception", .type "BaseException", .type "object"] "ValueError.__new__" = true
  k : PySem.W.keepIn K (.ref C) = true
  s : PySem.W.subIn K (.ref C) (.type "BaseException") = some true
  t : PySem.W.typeIn K (.ref C) = some (.type "type")
theorem ps_raiseC {X : Cx} {W : WX} {x m : Str} {C : Addr} {j : Nat} {p p2 pos pos2 : Pos} (c : ExcC X.K X.mg x C) (hc : X.calm = true) (tk : Takes X W) (hg : Gl X x) (hdb : (x == ("__debug__" : Str)) = false := by decide) :
    PS X (.Raise (some (.Call (.Name x p) [.Constant (.str m) j p2] [] pos)) none pos2) (fun _ σ H => W (.ref C) none σ H) :=
  ps_raise hc tk (pmk_own F.excBase_ValueError c.q c.g c.k (raises_own c.s c.t) hg hdb)
theorem exm_sub {K : PySem.W.Frag} {S T : Addr} (h1 : PySem.W.subIn K (.ref T) (.type "BaseException") = some true) (h2 : PySem.W.isClsIn K T = true) (h3 : PySem.W.typeIn K (.ref T) = some (.type "type")) {b : Bool} (h4 : PySem.W.subIn K (.ref S) (.ref T) = some b) :
    PySem.W.exmOne K (.ref S) (.ref T) = some b := by
  have e1 : (PySem.W.subIn K (.ref T) (.type "BaseException") == some true) = true := by rw [h1] <;> rfl
  have e2 : ((PySem.W.clsIn K T).isSome && PySem.W.typeIn K (.ref T) == some (.type "type")) = true := by
    have h2' : (PySem.W.clsIn K T).isSome = true := h2
    rw [h2', h3] <;> rfl
  show (if (PySem.W.subIn K (.ref T) (.type "BaseException") == some true) = true then (if ((PySem.W.clsIn K T).isSome && PySem.W.typeIn K (.ref T) == some (.type "type")) = true then PySem.W.subIn K (.ref S) (.ref T) else none) else none) = some b
  rw [if_pos e1, if_pos e2]
  exact h4
/-- a method that may let an exception out, under a try -/
def tMethS1 (C : Addr) (m : Str) (sp : Sp) (E : L2.St → XK) (ta : TE) (t : TA) : TE := fun σ H Q => ta σ H fun x H1 => rMe C m x H1 (t σ H1 fun vs H2 => sp (x :: vs) H2 Q (E σ))
section
variable {X : Cx} {CX : CXT} {k j : Nat} {C : Addr} {x m : Str} {sp : Sp} {E : L2.St → XK} {p pos apos : Pos} {e o : Expr} {es : List Expr} {ta : TE} {t : TA}
theorem pe_mtS {pl : Sem Bool} (c : Met X.prog X.w X.K X.mg X.base CX k C m sp) (hr : Room k X.A) (hx : ∀ σ, PassesAt CX X σ (E σ)) (he : PE X o ta) (ha : PA X (e :: es) t)
    (hst : starEach (e :: es) X.env = (false, eval e X.env) :: starEach es X.env := by rfl) (hpl : (backTo pos (starEach es X.env)).any (·.1) = false := by rfl)
    (ht : eval (.Call (.Attribute o m apos) (e :: es) [] pos) X.env = (do
      let ov ← eval o X.env
      standAt apos.atName
      let (f, first) ← holding [ov] (getMethod ov m pl)
      callWith pos f first (backTo pos (starEach (e :: es) X.env)) (backToKw pos (keywordEach [] X.env))) := by rfl) :
    PE X (.Call (.Attribute o m apos) (e :: es) [] pos) (tMethS1 C m sp E ta t) := by
  obtain ⟨f, fd, ps, c1, hm, F, b⟩ := c.ex
  refine ⟨fun pins s σ H Q I h => ?_⟩
  refine PySem.W.methodCall_KW (pl := pl) (thn (he.run pins s σ H _ I h) fun u s1 ⟨x, H1, I1, rx, a, dx, fs, ex, ea, l, q⟩ => ?_) ht
  subst ex
  obtain rfl : u = Value.ref a := rx
  refine getmeth_ok I1 ea c1 hm l ?_
  refine PySem.W.callWith_K (first := [.ref a]) (h₀ := X.base) I.ok.mod.kin hm.kp (thn (ha.run pos pins s1 σ H1 _ I1 q) fun us s2 ⟨vs, H2, I2, r, q2⟩ => ⟨I2.kIn, ?_⟩) hst hpl
  exact run_fnS (us := .ref a :: us) (vs := .ref a :: vs) F hr b (hx σ) I2 (.cons rfl r) q2
theorem pe_mtS0 {pl : Sem Bool} (c : Met X.prog X.w X.K X.mg X.base CX k C m sp) (hr : Room k X.A) (hx : ∀ σ, PassesAt CX X σ (E σ)) (he : PE X o ta)
    (ht : eval (.Call (.Attribute o m apos) [] [] pos) X.env = (do
      let ov ← eval o X.env
      standAt apos.atName
      let (f, first) ← holding [ov] (getMethod ov m pl)
      callWith pos f first (backTo pos (starEach [] X.env)) (backToKw pos (keywordEach [] X.env))) := by rfl) :
    PE X (.Call (.Attribute o m apos) [] [] pos) (tMethS1 C m sp E ta tNil) := by
  obtain ⟨f, fd, ps, c1, hm, F, b⟩ := c.ex
  refine ⟨fun pins s σ H Q I h => ?_⟩
  refine PySem.W.methodCall_KW (pl := pl) (thn (he.run pins s σ H _ I h) fun u s1 ⟨x, H1, I1, rx, a, dx, fs, ex, ea, l, q⟩ => ?_) ht
  subst ex
  obtain rfl : u = Value.ref a := rx
  refine getmeth_ok I1 ea c1 hm l ?_
  exact PySem.W.callWith_K0 (first := [.ref a]) I1.kIn hm.kp (run_fnS (us := [.ref a]) (vs := [.ref a]) F hr b (hx σ) I1 (.cons rfl .nil) q)
end
end G

set_option linter.all false
set_option maxRecDepth 100000
set_option maxHeartbeats 4000000
/-! an exception that is kept in a variable behind its clause, and asked by isinstance; a method that is called by names and may raise -/
namespace G
open PySem PySem.Spec PyProof.Rows L2
/-- an exception object of the class cls stands at a -/
def ExS (cls : Value) (d : Option Addr) (a : Addr) : HO := .ext fun h => ∃ (oe : Obj) (vs : Array Value), h.get? a = some oe ∧ Zc cls d oe ∧ oe.data = .fields vs
theorem exS_ok {P : Program} {w : World} {H : Hp} {h : Heap} {a : Addr} {cls : Value} {d : Option Addr} {oe : Obj} {vs : Array Value} (e : h.get? a = some oe) (z : Zc cls d oe) (f : oe.data = .fields vs) : ObjOk P w H h a (ExS cls d a) :=
  ⟨⟨oe, vs, e, z, f⟩, ⟨oe, e⟩, fun _ _ ⟨o, v, q, r⟩ k => ⟨o, v, k o q, r⟩⟩
/-- a thing of the heap that no one looks after is looked after from now on -/
theorem Inv.track {X : Cx} {pins : List (Addr × Obj)} {σ : L2.St} {H : Hp} {s : Shared} {a : Addr} {o : HO} (I : Inv X pins σ H s) (h0 : X.s_0.heap.get? a = none) (hn : H a = none) (hp : ∀ p ∈ X.pn ++ pins, p.1 ≠ a) (hl : a ≠ X.env.locals)
    (hc : ∀ x c, X.env.cells.lookup x = some c → c ≠ a) (new : ObjOk X.prog X.w (upd H a o) s.heap a o) : Inv X pins σ (upd H a o) s := by
  have was : ∀ {b u}, H b = some u → b ≠ a := fun {b u} e z => by rw [z, hn] at e; cases e
  have old : ∀ {b u}, X.s_0.heap.get? b = some u → b ≠ a := fun {b u} e z => by rw [z, h0] at e; cases e
  exact ⟨I.ok, I.os, I.bare, ⟨I.base.keep, I.base.slot, fun b u e n x => by rw [upd_ne (old e)]; exact I.base.free b u e n x, I.base.there,
      fun b xs e => by have q := I.base.tups b xs e; rw [upd_ne (was q)]; exact q, fun b u v e => by have q := I.base.frzs b u v e; rw [upd_ne (was q)]; exact q,
      fun b ps e => by obtain ⟨m, q⟩ := I.base.tbls b ps e; exact ⟨m, by rw [upd_ne (was q)]; exact q⟩⟩,
    I.loc, I.cell, by rw [upd_ne (Ne.symm hl)]; exact I.free, fun x c e => by rw [upd_ne (hc x c e)]; exact I.freeC x c e,
    fun p m => by obtain ⟨e, n, r⟩ := I.pin p m; exact ⟨e, by rw [upd_ne (hp p m)]; exact n, r⟩, fun b u e => by
      by_cases hb : b = a
      · subst hb; rw [upd_same] at e; cases e; exact new
      · rw [upd_ne hb] at e
        exact (I.hok b u e).stay (fun c v _ q => q) (fun c q => by rw [upd_ne (was q)]; exact q) fun c xs q => by rw [upd_ne (was q)]; exact q, I.len⟩
/-- what 'except x as n' wishes, where the exception is kept: slot i is n's -/
def wKeep (K : PySem.W.Frag) (c : Value) (i : Nat) (ts : Addr → Value → Option Addr → TS) (Wout : WX) (D : Ends) : WX := fun cls d σ H =>
  ∃ b, PySem.W.exmOne K cls c = some b ∧
    (b = true → ∀ a, H a = none → ts a cls d ⟨fun σ' H' => H' a = none → D.nx (σ'.set i none) (upd H' a (ExS cls d a)), fun _ _ => False, fun _ _ => False, fun _ _ => False⟩ (σ.set i (some (.ref a))) H) ∧ (b = false → Wout cls d σ H)
section
variable {X : Cx} {x n : Str} {c : Value} {i : Nat} {body suite : List Stmt} {b₀ : Stmt} {np pos pos' : Pos} {tb : WX → TS} {ts : Addr → Value → Option Addr → TS} {Wout : WX}
theorem ps_try_keep (hs : X.stack = X.env :: X.outer) (hf : X.env.frame = some X.env.locals) (hN : X.N.Nodup) (hi : X.N[i]? = some n) (hln : X.env.kindOf n = some .local) (hc : Names X x c) (tk : Takes X Wout) (hex : X.ex = [])
    (hb : ∀ (W : WX) (pn : List (Addr × Obj)) (xe : Value → Shared → Prop), Takes (X.tr pn xe) W → PassesOwn (model X.prog X.w) X.A X.env xe → PSs (X.tr pn xe) body (tb W))
    (hsu : ∀ (a : Addr) (oe : Obj) (cls : Value) (d : Option Addr) (pn : List (Addr × Obj)), Zc cls d oe → (∃ vs, oe.data = .fields vs) → PSs (X.suite a ((a, oe) :: pn)) (b₀ :: suite) (ts a cls d)) :
    PS X (.Try body [.ExceptHandler (some (.Name x np)) (some n) (b₀ :: suite) pos'] [] [] pos) (fun D σ H => tb (wKeep X.K c i ts Wout D) D σ H) := by
  refine ⟨fun pins s σ H D I h => ?_⟩
  have ok := I.ok
  have hfr : X.A.frames = some (X.env :: X.outer) := by rw [ok.frames, hs]
  refine wpAny_Try_except ?_
  refine wpAny_mono ((hb (wKeep X.K c i ts Wout D) (X.pn ++ pins) (fun e s₁ => wpAny (model X.prog X.w) X.A (noteFrame e X.env) (fun _ s₂ => wpAny (model X.prog X.w) X.A (setFlight e none) (fun _ s₃ =>
    wpAny (model X.prog X.w) X.A (handleBy e X.env [.ExceptHandler (some (.Name x np)) (some n) (b₀ :: suite) pos']) (SP X pins D) X.xe s₃) X.xe s₂) X.xe s₁) (fun u s' xx => ?_) PassesOwn.looking).run [] s σ H D (I.toTry _) h) (fun f s1 hsp => ?_) (fun e s1 he => he)
  · obtain ⟨a, B, sI, pins', σ', H', cls, d, rfl, J', nb, up, sky, na, os, ag, b, hb1, hyes, hno⟩ := xx
    have J : Inv X pins σ' H' sI := J'.ofTry ok
    have sky' : Sky B (X.env :: X.outer) a (Zc cls d) X.env.locals s'.heap := by rw [← hs]; exact sky
    show wpAny _ _ (noteFrame (.ref a) X.env) _ _ _
    refine Sky.land Zc.steady hfr hf sky' fun h3 fl3 up3 => ?_
    have land : ∀ {h4 : Heap}, B.StaysIn h4 → s'.heap.UpToSlots h4 → Inv X pins σ' H' { s' with heap := h4 } := fun st u4 => J.landed nb st (up.trans u4) os ag
    -- the exception is none of the frames, and new
    have apart : a ∉ frs (X.env :: X.outer) := fun hm => by
      obtain ⟨oe, vs, he, _, hd⟩ := fl3.there
      obtain ⟨_, o', e', hnf⟩ := fl3.2.2.1.mem hm
      rw [he] at e'; cases e'
      exact hnf _ hd
    have nL : a ≠ X.env.locals := fun z => apart (List.mem_filterMap.mpr ⟨X.env, List.mem_cons_self, by rw [hf, z]⟩)
    have nF : a ∉ X.fs := fun hm => by
      obtain ⟨e, he, q⟩ := List.mem_filterMap.mp hm
      exact apart (List.mem_filterMap.mpr ⟨e, List.mem_cons_of_mem _ he, q⟩)
    have nI : sI.heap.get? a = none := by
      cases e : sI.heap.get? a with
      | none => rfl
      | some o =>
        have z := nb a o e (by rw [hs]; exact apart)
        rw [fl3.2.1] at z
        cases z
    have n0 : X.s_0.heap.get? a = none := by
      cases e : X.s_0.heap.get? a with
      | none => rfl
      | some o =>
        obtain ⟨o', z⟩ := J.base.there a o e (by rw [hex]; exact fun z => nomatch z)
        rw [nI] at z
        cases z
    have nP : ∀ p ∈ X.pn ++ pins, p.1 ≠ a := fun p hp z => by
      have q := (J.pin p hp).1
      rw [z, nI] at q
      cases q
    obtain ⟨oe3, vs3, he3, hz3, hd3⟩ := fl3.there
    have S3 := (land fl3.1 up3).suite he3 hd3 na nL nF
    refine wpAny_handleBy_cons (codeAny_handlers_test ?_) (by intro q; cases q)
    have LM := PySem.W.exm_one (M := model X.prog X.w) (cls := cls) ((land fl3.1 up3).kIn) (fun A Q E s k q => wpAny_typeOf_ref (k _ _ he3) (by rw [hz3.1]; exact q)) hb1
    have test : ∀ {Q : Value → Shared → Prop} {E : Value → Shared → Prop}, Q c { s' with heap := h3 } → wpAny (model X.prog X.w) (X.A.mark (some (.ref a))) (eval (.Name x np) X.env) Q E { s' with heap := h3 } := fun {Q E} q => by
      obtain ⟨hg, hdbg, hm | ⟨hm, hv, hnn⟩⟩ := hc
      · exact ld_glob (X := X.suite a ((a, oe3) :: (X.pn ++ pins))) S3 hg hm q hdbg
      · exact ld_blt (X := X.suite a ((a, oe3) :: (X.pn ++ pins))) S3 hg hm hv q hnn hdbg
    refine test (LM.here ?_)
    cases b with
    | true =>
      refine codeAny_handlers_suite_as ?_
      refine HandSPX.lands_againZ fl3 fun h4 fl4 up4 => ?_
      obtain ⟨oe4, vs4, he4, hz4, hd4⟩ := fl4.there
      have S4 := (land fl4.1 (up3.trans up4)).suite he4 hd4 na nL nF
      refine store_ok (X := X.suite a ((a, oe4) :: (X.pn ++ pins))) (v := .ref a) S4 hN hi (.inl hln) rfl (fun s5 S5 => ?_) (.inr hln)
      refine wpAny_mono ((hsu a oe4 cls d (X.pn ++ pins) hz4 ⟨_, hd4⟩).run [] s5 _ H' _ S5 (hyes rfl a na)) (fun f s6 hsp => ?_) (fun _ _ z => False.elim z)
      cases f with
      | next =>
        obtain ⟨σ6, H6, S6, q6⟩ := hsp
        obtain ⟨p1, p2, _⟩ := S6.pin (a, oe4) (List.mem_append_left _ List.mem_cons_self)
        have p1 : s6.heap.get? a = some oe4 := p1
        have p2 : H6 a = none := p2
        have U6 := S6.unsuite ok
        have J6 := Inv.track U6 n0 p2 nP nL (fun y cc e z => by
          obtain ⟨v, o, e1, e2⟩ := U6.cell y cc e
          rw [z, p1] at e1
          cases e1
          rw [hd4] at e2
          cases e2) (exS_ok p1 hz4 hd4)
        exact gone_ok J6 hN hi hln fun s7 J7 => ⟨_, _, J7, q6 p2⟩
      | brk => obtain ⟨_, _, _, z⟩ := hsp; exact z.elim
      | cont => obtain ⟨_, _, _, z⟩ := hsp; exact z.elim
      | ret u => obtain ⟨_, _, _, _, _, z⟩ := hsp; exact z.elim
    | false =>
      show wpAny _ X.A (handleBy (.ref a) X.env []) _ _ _
      refine wpAny_handleBy_nil ?_
      obtain ⟨k1, k2, k3, oe, vs, T, oT, ts', he, hz, hd, h1, hr⟩ := id fl3
      unfold PySem.passOn
      refine wpAny_bind (wpAny_field he hd h1 ?_)
      rw [if_neg (show ¬ ((Value.ref T == Value.none) = true) from by simp)]
      have fin : wpAny (model X.prog X.w) X.A (setFlight (.ref a) X.env.frame) (fun _ s4 => wpAny (model X.prog X.w) X.A (throw (.ref a) : Sem Flow) (SP X pins D) X.xe s4) X.xe { s' with heap := h3 } := by
        rw [hf]
        refine HandSPX.setFlight_upZ fl3 fun h4 hh4 up4 => wpAny_throw (tk _ _ ?_)
        exact ⟨a, B, sI, pins, σ', H', cls, d, rfl, J, nb, (up.trans up3).trans up4, .inr (.inr (by rw [hs]; exact hh4)), na, os, ag, hno rfl⟩
      first
        | exact wpAny_bind (wpAny_pure (wpAny_bind fin))
        | exact wpAny_bind fin
  · cases f with
    | next =>
      obtain ⟨σ', H', J', q⟩ := hsp
      exact wpAny_execs_nil ⟨σ', H', J'.ofTry ok, q⟩
    | brk =>
      obtain ⟨σ', H', J', q⟩ := hsp
      exact ⟨σ', H', J'.ofTry ok, q⟩
    | cont =>
      obtain ⟨σ', H', J', q⟩ := hsp
      exact ⟨σ', H', J'.ofTry ok, q⟩
    | ret u =>
      obtain ⟨v, σ', H', J', r, q⟩ := hsp
      exact ⟨v, σ', H', J'.ofTry ok, r, q⟩
end
/-- isinstance(e, c), e an exception that was kept -/
def rIsX (K : PySem.W.Frag) : List V → Hp → VK → Prop := fun xs H Q => ∃ (a C : Addr) (c : V) (cv : Value) (b : Bool), xs = [.ref a, c] ∧ H a = some (ExS (.ref C) none a) ∧ _root_.L2.ExcC K C ∧ ClsV c cv ∧ PySem.W.kitOne K (.ref C) cv = some b ∧ Q (.bl b) H
theorem call_isX {X : Cx} : CallR X (.builtin "isinstance") (rIsX X.K) := by
  intro pins s σ H xs us Q I r ⟨a, D, c, cv, b, e0, ha, C, k, e, q⟩
  subst e0
  obtain ⟨u1, u2, rfl, r1, r2⟩ := vals2 r
  have ec := k.eq r2
  subst ec
  cases (show u1 = Value.ref a from r1)
  obtain ⟨⟨oe, vs, h1, hz, hv⟩, _, _⟩ := (show ObjOk X.prog X.w H s.heap a (ExS (.ref D) none a) from I.hok a _ ha)
  have J : PySem.W.InstAt s.heap a oe D none := by
    obtain ⟨oc, od, oda, osl⟩ := oe
    obtain ⟨h2, h3⟩ := hz
    dsimp only at h2 h3 hv
    subst h2 h3 hv
    exact ⟨h1, rfl, rfl, trivial⟩
  exact PySem.W.kia_one (PySem.W.handS_kitx_exc C.hg C.hk C.hs C.hd C.ha C.hn C.ht C.hm) I.kIn J e (fun z => nomatch z) fun tk => ⟨.bl b, H, I.tok tk, rfl, q⟩
theorem cl_isX {X : Cx} (K : PySem.W.Frag) (h : X.K = K := by rfl) : CallR X (.builtin "isinstance") (rIsX K) := by subst h; exact call_isX
/-- a def that keeps two promises keeps either -/
theorem FnOk.or {P : Program} {w : World} {K : PySem.W.Frag} {mg : Str → Option Value} {base : Heap} {CX : CXT} {k : Nat} {f : Addr} {fd : FuncData} {ps : List Str} {sp sp' : Sp} (F : FnOk P w K mg base CX k f fd ps sp) (F' : FnOk P w K mg base CX k f fd ps sp') :
    FnOk P w K mg base CX k f fd ps (fun vs H Q E => sp vs H Q E ∨ sp' vs H Q E) where
  len := fun vs H Q E h => h.elim (F.len _ _ _ _) (F'.len _ _ _ _)
  run := fun A outer s H as us vs Q E h1 h2 h3 h4 h => h.elim (F.run A outer s H as us vs Q E h1 h2 h3 h4) (F'.run A outer s H as us vs Q E h1 h2 h3 h4)
section
variable {X : Cx} {CX : CXT} {k j n : Nat} {C f : Addr} {fd : FuncData} {ps : List Str} {g : List Value → List Value → List Value} {gV : List V → List V → List V} {x m : Str} {sp : Sp} {E : L2.St → XK} {p pos apos : Pos} {e o : Expr} {kws : List Keyword} {ks : List Str} {is : List Nat} {ta : TE} {t tk : TA}
theorem run_fnNS {pins : List (Addr × Obj)} {σ : L2.St} {H : Hp} {s : Shared} {Q : VK} {us ws : List Value} {vs zs : List V} (F : FnOk X.prog X.w X.K X.mg X.base CX k f fd ps sp) (hr : Room k X.A) (hb : KBn X.K fd ps n ks g gV) (hx : PassesAt CX X σ (E σ))
    (I : Inv X pins σ H s) (r : Vals vs us) (rz : Vals zs ws) (l1 : vs.length = n) (l2 : zs.length = ks.length) (h : sp (gV vs zs) H Q (E σ)) : wpAny (model X.prog X.w) X.A (call (.ref f) us (ks.zip ws)) (EP X pins σ Q) X.xe s :=
  wpAny_call (codeAny_mono (F.run X.A X.stack s H ⟨us, ks.zip ws⟩ (g us ws) (gV vs zs) Q (E σ) hr I.env0 (hb.to s us ws I.kIn (r.length.symm.trans l1) (rz.length.symm.trans l2)) (hb.rel r rz) h) fun r s' hq => match r, hq with
    | .error e, hq => hx pins H s e s' I hq
    | .ok (.ret u), hq => I.after hq)
def tMethKS1 (C : Addr) (m : Str) (n : Nat) (is : List Nat) (sp : Sp) (E : L2.St → XK) (ta : TE) (tk : TA) : TE := fun σ H Q => ta σ H fun x H1 => rMe C m x H1 (tk σ H1 fun zs H2 => zs.length = n ∧ sp ([x] ++ kwp is zs) H2 Q (E σ))
theorem pe_mtKS {pl : Sem Bool} (c : MetK X.prog X.w X.K X.mg X.base CX k C m ks is sp) (hr : Room j X.A) (hk : k ≤ j) (hx : ∀ σ, PassesAt CX X σ (E σ)) (he : PE X o ta) (hkw : PK X kws tk)
    (hall : (backToKw pos (keywordEach kws X.env)).all (·.1.isSome) = true := by rfl) (hks : (backToKw pos (keywordEach kws X.env)).filterMap (·.1) = ks := by rfl)
    (hpl : ((backTo pos (starEach [] X.env)).any (·.1) || (backToKw pos (keywordEach kws X.env)).any (·.1.isNone)) = false := by rfl)
    (ht : eval (.Call (.Attribute o m apos) [] kws pos) X.env = (do
      let ov ← eval o X.env
      standAt apos.atName
      let (f, first) ← holding [ov] (getMethod ov m pl)
      callWith pos f first (backTo pos (starEach [] X.env)) (backToKw pos (keywordEach kws X.env))) := by rfl) :
    PE X (.Call (.Attribute o m apos) [] kws pos) (tMethKS1 C m ks.length is sp E ta tk) := by
  obtain ⟨f, fd, ps, c1, hm, F, b⟩ := c.ex
  refine ⟨fun pins s σ H Q I h => ?_⟩
  refine PySem.W.methodCall_KW (pl := pl) (thn (he.run pins s σ H _ I h) fun u s1 ⟨x, H1, I1, rx, a, dx, fs, ex, ea, l, q⟩ => ?_) ht
  subst ex
  obtain rfl : u = Value.ref a := rx
  refine getmeth_ok I1 ea c1 hm l ?_
  refine PySem.W.callWith_KW0 (first := [.ref a]) (h₀ := X.base) I.ok.mod.kin hm.kp hall (thn (hkw.run pos pins s1 σ H1 _ I1 q) fun ws s2 ⟨zs, H2, I2, rz, l2, q2⟩ => ⟨I2.kIn, ?_⟩) hpl
  rw [hks]
  exact run_fnNS (us := [.ref a]) (vs := [.ref a]) F (hr.mono hk) b (hx σ) I2 (.cons rfl .nil) rz rfl l2 q2
end
end G

set_option linter.all false
set_option maxRecDepth 100000
set_option maxHeartbeats 4000000
/-! lists of pairs of ints and lists of bools compared, a list repeated, isinstance of a kept exception, a callee's new cells ahead -/
namespace G
open PySem PySem.Spec PyProof.Rows L2
section
variable {H0 H H' : Hp} {ft : List Addr} {l m : List Cell} {t t' : Nat} {p q : Addr} {K : PySem.W.Frag} {Q : VK}
theorem Sep.callN (S : Sep H0 ft H l) (S' : Sep H [] H' m) (hm : ∀ c ∈ m, c.1 = 2) : Sep H0 ft H' (m ++ l) :=
  S.callM [] trivial List.nodup_nil (by simpa using S') hm
abbrev pairD (p : Int × Int) : PyData := .tuple [.int p.1, .int p.2]
theorem lay_prs : ∀ ps : List (Int × Int), PyData.canLayAll0 (ps.map pairD) = true
  | [] => rfl
  | p :: r => by rw [List.map_cons, PyData.canLayAll0, lay_prs r]; rfl
theorem dep_prs : ∀ ps : List (Int × Int), PyData.depthAll (ps.map pairD) ≤ 1
  | [] => Nat.zero_le _
  | p :: r => by
    rw [List.map_cons, PyData.depthAll]
    have := dep_prs r
    have h1 : PyData.depth (pairD p) = 1 := rfl
    omega
theorem sh_prs (ps : List (Int × Int)) : SeqAt.shaped (.list (ps.map pairD)) = true := by
  unfold SeqAt.shaped
  rw [show PyData.canLay0 (.list (ps.map pairD)) = true from lay_prs ps, PyData.depth, Bool.true_and]
  exact decide_eq_true (by have := dep_prs ps; omega)
theorem eqv_prs (ps qs : List (Int × Int)) : PyData.eqv (.list (ps.map pairD)) (.list (qs.map pairD)) = decide (ps = qs) := PySem.W.Datum.eqv (α := List (Int × Int)) ps qs
/-- the things of xs are tuples of these pairs -/
def PrsAt (H : Hp) : List V → List (Int × Int) → Prop := Paired fun v p => ∃ a : Addr, v = .ref a ∧ H a = some (.tup [.int p.1, .int p.2])
theorem dp_prs : ∀ {xs : List V} {ps : List (Int × Int)}, PrsAt H xs ps → DpAll K H xs (ps.map pairD)
  | _, _, .nil => .nil
  | _, _, .cons ⟨a, e, h⟩ r => by
    subst e
    exact .cons (.tup (.of h) (dp_ints (ns := [_, _]))) (dp_prs r)
theorem x_neWW {xs ys : List V} {ps qs : List (Int × Int)} (S : Sep H0 ft H l) (n m : Nat) (h : l[n]? = some (t, p, .lst xs)) (h' : l[m]? = some (t', q, .lst ys)) (hx : PrsAt H xs ps) (hy : PrsAt H ys qs) (k : Q (.bl (!decide (ps = qs))) H) : rNeD K (.ref p) (.ref q) H Q :=
  ⟨_, _, .lst (S.sl n h) (dp_prs hx), .lst (S.sl m h') (dp_prs hy), sh_prs ps, sh_prs qs, by rw [eqv_prs]; exact k⟩
theorem lay_bls : ∀ ps : List Bool, PyData.canLayAll0 (ps.map PyData.bool) = true
  | [] => rfl
  | p :: r => by rw [List.map_cons, PyData.canLayAll0, lay_bls r]; rfl
theorem dep_bls : ∀ ps : List Bool, PyData.depthAll (ps.map PyData.bool) = 0
  | [] => rfl
  | p :: r => by rw [List.map_cons, PyData.depthAll, dep_bls r]; rfl
theorem sh_bls (ps : List Bool) : SeqAt.shaped (.list (ps.map PyData.bool)) = true := by
  unfold SeqAt.shaped
  rw [show PyData.canLay0 (.list (ps.map PyData.bool)) = true from lay_bls ps, PyData.depth, dep_bls]
  rfl
theorem eqv_bls (ps qs : List Bool) : PyData.eqv (.list (ps.map PyData.bool)) (.list (qs.map PyData.bool)) = decide (ps = qs) := PySem.W.Datum.eqv (α := List Bool) ps qs
theorem dp_bls : ∀ {ps : List Bool}, DpAll K H (ps.map V.bl) (ps.map PyData.bool)
  | [] => .nil
  | b :: r => .cons (.bl b) dp_bls
theorem x_eqB {ps qs : List Bool} {b : Bool} (S : Sep H0 ft H l) (n m : Nat) (h : l[n]? = some (t, p, .lst (ps.map V.bl))) (h' : l[m]? = some (t', q, .lst (qs.map V.bl))) (e : decide (ps = qs) = b) (k : Q (.bl b) H) : rEqD K (.ref p) (.ref q) H Q :=
  ⟨_, _, .lst (S.sl n h) dp_bls, .lst (S.sl m h') dp_bls, sh_bls ps, sh_bls qs, by rw [eqv_bls, e]; exact k⟩
theorem x_rep {xs : List V} {i : Int} (S : Sep H0 ft H l) (n : Nat) (h : l[n]? = some (t, p, .lst xs)) (h0 : 0 ≤ i) (h1 : i < 1000) (hl : xs.length * i.toNat ≤ 100000) (q : ∀ r H', Sep H0 ft H' ((2, r, .lst (List.replicate i.toNat xs).flatten) :: l) → Q (.ref r) H') : rRep (.ref p) (.int i) H Q :=
  ⟨p, i, xs, rfl, rfl, S.get n h, by omega, by omega, Nat.le_trans hl (by decide), x_new S _ q⟩
theorem x_isX {a D : Addr} {c : V} {cv : Value} {b : Bool} (S : Sep H0 ft H l) (n : Nat) (h : l[n]? = some (t, a, ExS (.ref D) none a)) (C : _root_.L2.ExcC K D) (k : ClsV c cv) (e : PySem.W.kitOne K (.ref D) cv = some b) (z : Q (.bl b) H) : rIsX K [.ref a, c] H Q :=
  ⟨a, D, c, cv, b, rfl, S.get n h, C, k, e, z⟩
end
end G

set_option linter.all false
set_option maxRecDepth 100000
set_option maxHeartbeats 4000000
/-! dicts whose keys are pairs of a text and an int: sorted, d.pop(k) -/
namespace G
open PySem PySem.Spec PyProof.Rows L2
abbrev shN : Nat → Bool := fun i => i == 0
abbrev kSN (s : Str) (n : Int) : List Key := [.inr s, .inl n]
/-- an entry's key: text, int, the address of its tuple -/
abbrev Ent := Str × Int × Addr
theorem perm_map {α β : Type} {f : α → β} : ∀ {l r : List β}, l.Perm r → ∀ m : List α, r = m.map f → ∃ m' : List α, m'.Perm m ∧ l = m'.map f := by
  intro l r h
  induction h with
  | nil =>
    intro m e
    match m, e with
    | [], _ => exact ⟨[], List.Perm.refl _, rfl⟩
  | cons x _ ih =>
    intro m e
    cases m with
    | nil => cases e
    | cons y m =>
      obtain ⟨e1, e2⟩ := List.cons.inj e
      obtain ⟨m', p, q⟩ := ih m e2
      exact ⟨y :: m', p.cons y, by rw [List.map_cons, ← e1, q]⟩
  | swap x y l =>
    intro m e
    match m, e with
    | a :: b :: m, e =>
      obtain ⟨e1, e2⟩ := List.cons.inj e
      obtain ⟨e3, e4⟩ := List.cons.inj e2
      exact ⟨b :: a :: m, .swap a b m, by rw [List.map_cons, List.map_cons, ← e1, ← e3, ← e4]⟩
  | trans _ _ i1 i2 =>
    intro m e
    obtain ⟨m2, p2, q2⟩ := i2 m e
    obtain ⟨m1, p1, q1⟩ := i1 m2 q2
    exact ⟨m1, p1.trans p2, q1⟩
theorem ents_of {H : Hp} : ∀ {kvs : List (List Key × V)} {bs : List Addr} {ks : List (Str × Int)}, IsKeys H kvs bs → kvs.map (·.1) = ks.map (fun k => kSN k.1 k.2) →
    ∃ es : List Ent, es.map (fun z => (z.1, z.2.1)) = ks ∧ es.map (·.2.2) = bs ∧ ∀ z ∈ es, H z.2.2 = some (.tup [.str z.1, .int z.2.1])
  | [], _, [], .nil, _ => ⟨[], rfl, rfl, fun _ h => nomatch h⟩
  | p :: kvs, _, (s, n) :: ks, .cons (b := b) h r, e => by
    obtain ⟨e1, e2⟩ := List.cons.inj e
    obtain ⟨es, h1, h2, h3⟩ := ents_of r e2
    refine ⟨(s, n, b) :: es, by rw [List.map_cons, h1], by rw [List.map_cons, h2], fun z hz => ?_⟩
    rcases List.mem_cons.mp hz with rfl | hz
    · rw [h, show p.1 = kSN s n from e1]; rfl
    · exact h3 z hz
/-- the tuple stands in the heap -/
def InHeap (h : Heap) (z : Ent) : Prop := ∃ (o : Obj) (n : Nat) (t u : Tok), h.get? z.2.2 = some o ∧ o.cls = .type "tuple" ∧ o.data = .seq #[.str z.1 t, .int z.2.1 u] n
theorem in_heap {P : Program} {w : World} {H : Hp} {h h' : Heap} {z : Ent} (ok : HOk P w H h) (e : H z.2.2 = some (.tup [.str z.1, .int z.2.1])) (k : ∀ b o, h.get? b = some o → h'.get? b = some o) : InHeap h' z := by
  obtain ⟨_, its, rv, o, ho, hc, n, hd⟩ := (show ObjOk P w H h z.2.2 (.tup [.str z.1, .int z.2.1]) from ok _ _ e)
  obtain ⟨u1, u2, rfl, r1, r2⟩ := vals2 rv
  obtain ⟨t, rfl⟩ := r1
  obtain ⟨u, rfl⟩ := r2
  exact ⟨o, n, t, u, k _ _ ho, hc, hd⟩
abbrev keyE (z : Ent) : List (Int ⊕ List Nat) := [.inr z.1.cps.toList, .inl z.2.1]
theorem InHeap.key {h : Heap} {z : Ent} (x : InHeap h z) : PyProof.Rows.G.tupKeyC h shN (.ref z.2.2) = some (keyE z) := by
  obtain ⟨o, n, t, u, ho, hc, hd⟩ := x
  unfold PyProof.Rows.G.tupKeyC
  have e1 : PyProof.Rows.G.isTupObj h (.ref z.2.2) = true := by simp [PyProof.Rows.G.isTupObj, ho, hc]
  rw [if_pos e1]
  simp only [tupKey, ho, hd]
  rfl
theorem tups_of {h : Heap} : ∀ {es : List Ent}, (∀ z ∈ es, InHeap h z) → ∃ fs, TupsOf h shN (es.map fun z => Value.ref z.2.2) fs
  | [], _ => ⟨[], .nil⟩
  | z :: es, hx => by
    obtain ⟨fs, r⟩ := tups_of fun y hy => hx y (List.mem_cons_of_mem _ hy)
    obtain ⟨o, n, t, u, ho, hc, hd⟩ := hx z List.mem_cons_self
    exact ⟨_, .cons ⟨_, o, _, n, rfl, ho, hc, hd, rfl, (fun e => by cases e), fun _ => ⟨_, _, rfl⟩⟩ r⟩
theorem sorted_ents {h : Heap} {es : List Ent} {xs : Array Keyed} (hx : ∀ z ∈ es, InHeap h z) (hp : xs.Perm (pairsOf (es.map fun z => Value.ref z.2.2))) (hs : SortedToK (PyProof.Rows.G.tupKindC h shN) xs (pairsOf (es.map fun z => Value.ref z.2.2)).size) :
    ∃ zs : List Ent, zs.Perm es ∧ (xs.map (·.2)).toList = zs.map (fun z => Value.ref z.2.2) ∧ zs.Pairwise (fun x y => x.1 = y.1 → x.2.1 ≤ y.2.1) := by
  have hl : xs.toList.Perm (es.map fun z => ((Value.ref z.2.2, Value.ref z.2.2) : Keyed)) := by
    have := Array.perm_iff_toList_perm.mp hp
    rw [pairsOf_toList] at this
    have e : (es.map fun z => Value.ref z.2.2).zip (es.map fun z => Value.ref z.2.2) = es.map fun z => ((Value.ref z.2.2, Value.ref z.2.2) : Keyed) := by
      rw [List.zip_map']
    rw [← e]
    exact this
  obtain ⟨zs, pz, ez⟩ := perm_map hl es rfl
  refine ⟨zs, pz, by rw [Array.toList_map, ez, List.map_map]; rfl, ?_⟩
  rw [List.pairwise_iff_getElem]
  intro i j hi hj hij hn
  have hsz : xs.size = zs.length := by rw [← Array.length_toList, ez, List.length_map]
  have at' : ∀ i (hi : i < zs.length), KK (PyProof.Rows.G.tupKindC h shN) xs i = keyE zs[i] := fun i hi => by
    have e : xs[i]? = some (Value.ref zs[i].2.2, Value.ref zs[i].2.2) := by rw [← Array.getElem?_toList, ez, List.getElem?_map, List.getElem?_eq_getElem hi]; rfl
    unfold KK
    rw [e]
    show (PyProof.Rows.G.tupKeyC h shN (.ref zs[i].2.2)).getD [] = _
    rw [(hx _ (pz.mem_iff.mp (List.getElem_mem hi))).key]
    rfl
  have h1 := hs i j (Nat.le_of_lt hij) (by rw [← hp.size_eq, hsz]; exact hj)
  rw [at' i hi, at' j hj] at h1
  have h2 : lexLt itemOrd (keyE zs[j]) (keyE zs[i]) = false := h1
  unfold keyE at h2
  rw [hn, lex_self, lex_cons] at h2
  have h3 := (Bool.or_eq_false_iff.mp h2).1
  have h4 : decide (zs[j].2.1 < zs[i].2.1) = false := h3
  have := of_decide_eq_false h4
  omega
def rSortT2 : List V → Hp → VK → Prop := fun xs H Q => ∃ (a : Addr) (kvs : List (List Key × V)) (ks : List (Str × Int)), xs = [.ref a] ∧ H a = some (.dT kvs) ∧ kvs.map (·.1) = ks.map (fun k => kSN k.1 k.2) ∧
  ∀ (p : Addr) (zs : List Ent), (zs.map fun z => (z.1, z.2.1)).Perm ks → (∀ z ∈ zs, H z.2.2 = some (.tup [.str z.1, .int z.2.1])) → zs.Pairwise (fun x y => x.1 = y.1 → x.2.1 ≤ y.2.1) → H p = none → Q (.ref p) (upd H p (.lst (zs.map fun z => V.ref z.2.2)))
theorem call_sortedT2 {X : Cx} (hcalm : X.calm = true) : CallR X (.builtin "sorted") rSortT2 := by
  intro pins s σ H xs us Q I r ⟨a, kvs, ks, ex, ha, hks, q⟩
  subst ex
  obtain rfl := Vals.ref1 r
  obtain ⟨z, hd, xs', rel, o, es, ep, ho, hx, hdat, hes, his, hn⟩ := dt_of I.hok ha
  have l1 : es.size = xs'.length := size_of_entries hes
  have l2 : kvs.length = xs'.length := Paired.length rel
  obtain ⟨ens, en1, en2, en3⟩ := ents_of (isKeys_of rel) hks
  refine Calls.call_function_entry kind_sorted plain_sorted entry_sorted (args_sorted1 _) ?_
  unfold Builtin.«sorted»
  refine wpAny_bind (m := checkCount "sorted" 1 1 _) (wpAny_pure ?_)
  refine wpAny_bind (PySem.W.kdu_collect (A := X.A.in1) (kdl_raw hd hx hdat) (I.ok.hd hcalm) ho (by omega) fun h' tk acc hk it => ?_)
  have ea : acc.toList = ens.map fun z => Value.ref z.2.2 := by
    have hl : acc.toList.length = xs'.length := by rw [Array.length_toList, it.1]; exact l1
    have e0 : acc.toList = (xs'.map fun x => x.2.1).map Value.ref := by
      apply List.ext_getElem?
      intro j
      rw [List.getElem?_map, List.getElem?_map]
      cases hj : acc.toList[j]? with
      | none =>
        have h1 := List.getElem?_eq_none_iff.mp hj
        rw [List.getElem?_eq_none (by omega)]
        rfl
      | some v =>
        obtain ⟨en, hen, hv⟩ := it.2 j v (by rw [← Array.getElem?_toList]; exact hj)
        have qe := entry_at hes j
        rw [hen] at qe
        cases hb : xs'[j]? with
        | none => rw [hb] at qe; exact nomatch (show some en = none from qe)
        | some b =>
          rw [hb] at qe
          have e2 : en = entryOfKey (tupleKind (mixKind X.prog X.w)) b := Option.some.inj qe
          rw [hv, e2]
          rfl
    rw [e0, ← en2, List.map_map]
    rfl
  have hal : acc.toList.length = ens.length := by rw [ea, List.length_map]
  have hel : ens.length ≤ sizeLine := by
    have : ens.length = ks.length := by rw [← en1, List.length_map]
    have e3 := congrArg List.length hks
    rw [List.length_map, List.length_map] at e3
    omega
  generalize acc.toList = vs at ea hal ⊢
  subst ea
  refine wpAny_bind (wpAny_newList ?_ (by rw [hal]; exact hel))
  have hoL : (h'.push (seqObj "list" (ens.map fun z => Value.ref z.2.2).toArray 0)).get? h'.objs.size = some (seqObj "list" (ens.map fun z => Value.ref z.2.2).toArray 0) := Heap.get?_push_size _ rfl
  have kb : ∀ b o, s.heap.get? b = some o → (h'.push (seqObj "list" (ens.map fun z => Value.ref z.2.2).toArray 0)).get? b = some o := fun b o e => Heap.get?_push_of_some _ (hk b o e)
  have hin : ∀ z ∈ ens, InHeap (h'.push (seqObj "list" (ens.map fun z => Value.ref z.2.2).toArray 0)) z := fun z hz => in_heap I.hok (en3 z hz) kb
  obtain ⟨fs, hfs⟩ := tups_of hin
  show wpAny _ _ _ _ _ { s with heap := h'.push (seqObj "list" (ens.map fun z => Value.ref z.2.2).toArray 0), toks := tk }
  refine wpAny_bind (wpAny_holding (wpAny_call_entry slot_list_sort ⟨_, hoL, rfl⟩ entry_list_sort
    (PyProof.Rows.G.list_sort_tups (shape := shN) (fs := fs) (s := { s with heap := h'.push (seqObj "list" (ens.map fun z => Value.ref z.2.2).toArray 0), toks := tk }) hoL hfs (fun v hv => by
      obtain ⟨z, hz, rfl⟩ := List.mem_map.mp hv
      exact ⟨_, (hin z hz).key⟩) (by rw [hal]; exact hel) fun st' hp hs _ => ⟨_, rfl, ?_⟩) (args_list_sort _)))
  obtain ⟨zs, g1, g2, g3⟩ := sorted_ents hin hp hs
  obtain ⟨e', he'⟩ := sortedHeap_at (vs := ens.map fun z => Value.ref z.2.2) (out := (arrOf st').map (·.2)) hoL
  have I1 : Inv X pins σ H { s with heap := h', toks := tk } := I.kept hk
  have rv : Vals (zs.map fun z => V.ref z.2.2) ((arrOf st').map (·.2)).toList := by
    rw [g2]
    have := vals_refs (zs.map fun z => z.2.2)
    rw [List.map_map, List.map_map] at this
    exact this
  refine wpAny_pure ⟨_, rfl, .ref h'.objs.size, upd H h'.objs.size (.lst (zs.map fun z => V.ref z.2.2)), I1.laid (t' := tk) (fun b u e => ?_) (Nat.le_refl _)
    (show ObjOk X.prog X.w _ _ _ (.lst (zs.map fun z => V.ref z.2.2)) from ⟨by rw [List.length_map, g1.length_eq]; exact hel, ((arrOf st').map (·.2)).toList, e', rv, by rw [Array.toArray_toList]; exact he'⟩), rfl,
    q _ zs (by rw [← en1]; exact g1.map _) (fun z hz => en3 z (g1.mem_iff.mp hz)) g3 (I1.hok.fresh (Nat.le_refl _))⟩
  have hb : b < h'.objs.size := Heap.lt_size e
  rw [sortedHeap_old (Nat.ne_of_lt hb) (by rw [size_push']; exact Nat.lt_succ_of_lt hb)]
  exact Heap.get?_push_of_some _ e
theorem cl_sortT2 {X : Cx} (hc : X.calm = true) : CallR X (.builtin "sorted") rSortT2 := call_sortedT2 hc

/-! ### d.pop(k), the key a tuple, and there -/
section
open PySem.W PySem.Calls
variable {prog : Program} {w : World} {K : Type} [DecidableEq K] {knd : HeapKind prog w K}
theorem meetsPop1 {d b : Addr} {k : K} :
    MeetsIn prog w (Builtin.«dict.pop» ⟨[.ref d, .ref b], []⟩) (fun A R s => ∃ xs p, knd.room A.in1 ∧ knd.is s.heap k b ∧ s.heap.DictOfH knd d xs ∧ xs.length ≤ sizeLine ∧ atKey xs k = some p ∧
      ∀ h' tk, h'.DictOfH knd d (DT.dropH xs k) → Heap.SameBut d s.heap h' → R (.ok (.ret p.2)) { s with heap := h', toks := tk }) :=
  .of_wp fun A R s ⟨xs, p, hu, hkey, hm, hsz, hat, hsome⟩ => by
    obtain ⟨o, es, ep, ho, hc, hdat, he, his, hn⟩ := id hm
    have hes : es.size = xs.length := size_of_entries he
    have hpart : (keyPart (Value.ref b)).isSome = false := rfl
    unfold Builtin.«dict.pop»
    refine wpAny_bind ?_
    unfold Builtin.Dict.keyAndDefault
    refine wpAny_bind (wpAny_notOrdered_dict hm.typeIs ?_)
    show wpAny _ _ (pure (d, Value.ref b, none)) _ _ s
    refine wpAny_pure ?_
    simp only [hpart, Bool.false_eq_true, if_false]
    refine wpAny_bind (wpAny_dictEntries ho hdat (wpAny_bind (wpAny_pure ?_)))
    have hem : es.isEmpty = false := by
      cases h0 : es.isEmpty with
      | false => rfl
      | true =>
        have z : es.size = 0 := by simpa using h0
        have : xs = [] := List.length_eq_zero_iff.mp (by omega)
        rw [this] at hat
        cases hat
    rw [hem]
    simp only [Bool.false_eq_true, if_false]
    refine wpAny_bind (DT.takeH hu hkey hm hsz (fun hno => ?_) fun p' e hp hev h' hm' hs' => ?_)
    · rw [hno] at hat
      cases hat
    · rw [hat] at hp
      cases hp
      simp only [Option.isNone_some, Bool.false_eq_true, if_false]
      exact wpAny_bind (wpAny_letGo (wpAny_pure ⟨e.val, rfl, by rw [hev]; exact hsome h' _ hm' hs'⟩))
end
def rPopT1 : V → List V → Hp → VK → Prop := fun x xs H Q => ∃ (a : Addr) (kvs : List (List Key × V)) (k : List Key) (b : Addr) (v : V), x = .ref a ∧ xs = [.ref b] ∧ H a = some (.dT kvs) ∧ H b = some (.tup (k.map kV)) ∧ valV kvs k = some v ∧ Q v (upd H a (.dT (dropK kvs k)))
theorem mt_popT1 {X : Cx} (hu : X.A.units + 1 < cLine) : MtR X "dict.pop" rPopT1 := by
  intro pins s σ H x xs v us Q I rx rxs ⟨a, kvs, k, b, d, e1, e2, ha, hb, hv, q⟩
  subst e1 e2
  cases rx
  obtain ⟨u1, rfl, r1⟩ := vals1 rxs
  cases r1
  obtain ⟨z, hd, xs', rel, dd⟩ := dt_of I.hok ha
  have hz : xs'.length ≤ sizeLine := by rw [← Paired.length rel]; exact z
  have r := rel.val k
  rw [hv] at r
  cases hat : atKey xs' k with
  | none =>
    rw [hat] at r
    exact (show False from r).elim
  | some p =>
    rw [hat] at r
    have rv : RelV d p.2 := r
    refine call_meetsIn PySem.F.slot_dict_pop dd.typeIs PySem.F.entry_dict_pop (PySem.F.args_dict_pop_2 _ _) (meetsPop1 (knd := tupleKind (mixKind X.prog X.w)) (k := k))
      ⟨xs', p, tupleKind_room_in1 hu, key_of I.hok hb, dd, hz, hat, fun h' tk dd' hs => ?_⟩
    obtain ⟨o, es, ep, hq, h2, h3, h4, _, h5⟩ := dd'
    have I2 : Inv X pins σ (upd H a (.dT (dropK kvs k))) { s with heap := h', toks := tk } :=
      d_write I (by rw [ha]; exact True.intro) hs ⟨o, hq⟩ ⟨Nat.le_trans (dropK_le kvs k) z, hd, _, (L2.DX.KT_drop k rel).keeps (fun c ys ec => (by rw [upd_ne (ne_of ec ha (fun z => nomatch z))]; exact ec)), o, es, ep, hq, h2, h3, h4, h5⟩
    show EP X pins σ Q p.2 _
    exact ⟨d, _, I2, rv, q⟩
section
variable {H0 H : Hp} {ft : List Addr} {l : List Cell} {t t' : Nat} {p b : Addr} {K : PySem.W.Frag} {Q : VK} {v : V}
theorem x_tyT {kvs : List (List Key × V)} (S : Sep H0 ft H l) (n : Nat) (h : l[n]? = some (t, p, .dT kvs)) : tyV K "dict" (.ref p) H := .inr (.inr (.inl ⟨rfl, .inr ⟨_, S.get n h⟩⟩))
theorem x_popT1 {kvs : List (List Key × V)} {xs : List V} (k : List Key) (S : Sep H0 ft H l) (n m : Nat) (h : l[n]? = some (t, p, .dT kvs)) (h' : l[m]? = some (t', b, .tup xs)) (hv : valV kvs k = some v) (q : ∀ H', Sep H0 ft H' (l.set n (t, p, .dT (dropK kvs k))) → Q v H') (e : xs = k.map kV := by rfl)
    (ht : t = 1 ∨ t = 2 := by first | exact .inl rfl | exact .inr rfl) : rPopT1 (.ref p) [.ref b] H Q := ⟨p, kvs, k, b, v, rfl, rfl, S.get n h, by rw [← e]; exact S.get m h', hv, q _ (S.put n _ h ht)⟩
/-- the key's tuple stands in the tail, or is no cell -/
theorem x_popF {kvs : List (List Key × V)} {xs : List V} (k : List Key) (S : Sep H0 ft H l) (n : Nat) (h : l[n]? = some (t, p, .dT kvs)) (h' : H b = some (.tup xs)) (hv : valV kvs k = some v) (q : ∀ H', Sep H0 ft H' (l.set n (t, p, .dT (dropK kvs k))) → Q v H') (e : xs = k.map kV := by rfl)
    (ht : t = 1 ∨ t = 2 := by first | exact .inl rfl | exact .inr rfl) : rPopT1 (.ref p) [.ref b] H Q := ⟨p, kvs, k, b, v, rfl, rfl, S.get n h, by rw [← e]; exact h', hv, q _ (S.put n _ h ht)⟩
theorem x_sortT2 {kvs : List (List Key × V)} {ks : List (Str × Int)} (S : Sep H0 ft H l) (n : Nat) (h : l[n]? = some (t, p, .dT kvs)) (hk : kvs.map (·.1) = ks.map (fun k => kSN k.1 k.2))
    (q : ∀ (r : Addr) (zs : List Ent) (H' : Hp), (zs.map fun z => (z.1, z.2.1)).Perm ks → (∀ z ∈ zs, H' z.2.2 = some (.tup [.str z.1, .int z.2.1])) → zs.Pairwise (fun x y => x.1 = y.1 → x.2.1 ≤ y.2.1) → Sep H0 ft H' ((2, r, .lst (zs.map fun z => V.ref z.2.2)) :: l) → Q (.ref r) H') : rSortT2 [.ref p] H Q :=
  ⟨p, kvs, ks, rfl, S.get n h, hk, fun r zs h1 h2 h3 hr => q r zs _ h1 (fun z hz => by rw [upd_ne (ne_of_none (h2 z hz) hr)]; exact h2 z hz) h3 (S.new hr _)⟩
end
end G

set_option linter.all false
set_option maxRecDepth 100000
set_option maxHeartbeats 4000000
/-! tables: what is met, what is there, what leaves; data of texts, ints, tuples and lists told by cells -/
namespace G
open PySem PySem.Spec PyProof.Rows L2
section
variable {κ : Type} [DecidableEq κ]
theorem valV_dropD (k j : κ) : ∀ kvs : List (κ × V), valV (dropK kvs k) j = if j = k then none else valV kvs j
  | [] => by
    have : valV (dropK ([] : List (κ × V)) k) j = none := rfl
    rw [this]
    split <;> rfl
  | p :: r => by
    have ih := valV_dropD k j r
    by_cases e : p.1 = k
    · rw [dropK_pos e, ih]
      by_cases q : j = k
      · rw [if_pos q, if_pos q]
      · rw [if_neg q, if_neg q, valV_neg fun z => q (z.symm.trans e)]
    · rw [dropK_neg e]
      by_cases q : p.1 = j
      · rw [valV_pos q, valV_pos q, if_neg fun z => e (q.trans z)]
      · rw [valV_neg q, valV_neg q, ih]
theorem keys_put (k : κ) (v : V) (kvs : List (κ × V)) : (putK kvs k v).map (·.1) = if (kvs.any fun kv => decide (kv.1 = k)) = true then kvs.map (·.1) else kvs.map (·.1) ++ [k] := by
  unfold putK
  by_cases a : (kvs.any fun kv => decide (kv.1 = k)) = true
  · rw [if_pos a, if_pos a, List.map_map]
    refine List.map_congr_left fun p _ => ?_
    show (if p.1 = k then (p.1, v) else p).1 = p.1
    split <;> rfl
  · rw [if_neg a, if_neg a, List.map_append]
    rfl
theorem nd_put (k : κ) (v : V) {kvs : List (κ × V)} (h : (kvs.map (·.1)).Nodup) : ((putK kvs k v).map (·.1)).Nodup := by
  by_cases a : (kvs.any fun kv => decide (kv.1 = k)) = true
  · rw [keys_put, if_pos a]; exact h
  · refine nd_putK v h ?_
    rw [valV_any] at a
    cases e : valV kvs k with
    | none => rfl
    | some x => rw [e] at a; exact absurd rfl a
theorem mem_of_valV {k : κ} {v : V} {kvs : List (κ × V)} (h : valV kvs k = some v) : (k, v) ∈ kvs := by
  induction kvs with
  | nil => cases h
  | cons p r ih =>
    by_cases e : p.1 = k
    · rw [valV_pos e] at h
      cases h
      rw [← e]
      exact List.mem_cons_self
    · rw [valV_neg e] at h
      exact List.mem_cons_of_mem _ (ih h)
theorem valV_some_of {k : κ} {kvs : List (κ × V)} (h : k ∈ kvs.map (·.1)) : ∃ v, valV kvs k = some v := by
  obtain ⟨p, hp, e⟩ := List.mem_map.mp h
  have a : (kvs.any fun kv => decide (kv.1 = k)) = true := List.any_eq_true.mpr ⟨p, hp, decide_eq_true e⟩
  rw [valV_any] at a
  exact Option.isSome_iff_exists.mp a
end
/-- keys that are a text and an int, each once -/
structure TK (tk : List (List Key × V)) (ks : List (Str × Int)) : Prop where
  ks : tk.map (·.1) = ks.map fun k => kSN k.1 k.2
  nd : (tk.map (·.1)).Nodup
theorem TK.nil : TK [] [] := ⟨rfl, List.nodup_nil⟩
theorem kSN_inj {s t : Str} {n m : Int} (h : kSN s n = kSN t m) : s = t ∧ n = m := by
  injection h with h1 h2
  injection h2 with h3 _
  exact ⟨Sum.inr.inj h1, Sum.inl.inj h3⟩
theorem TK.ndk {tk : List (List Key × V)} {ks : List (Str × Int)} (h : TK tk ks) : ks.Nodup := by
  have := h.nd
  rw [h.ks] at this
  rw [List.nodup_iff_pairwise_ne, List.pairwise_map] at this
  rw [List.nodup_iff_pairwise_ne]
  exact this.imp fun n e => n (by rw [e])
theorem TK.len {tk : List (List Key × V)} {ks : List (Str × Int)} (h : TK tk ks) : ks.length = tk.length := by
  have := congrArg List.length h.ks
  rw [List.length_map, List.length_map] at this
  exact this.symm
theorem TK.put {tk : List (List Key × V)} {ks : List (Str × Int)} (h : TK tk ks) (s : Str) (n : Int) (v : V) : ∃ ks', TK (putK tk (kSN s n) v) ks' := by
  by_cases a : (tk.any fun kv => decide (kv.1 = kSN s n)) = true
  · exact ⟨ks, by rw [keys_put, if_pos a]; exact h.ks, nd_put _ _ h.nd⟩
  · exact ⟨ks ++ [(s, n)], by rw [keys_put, if_neg a, h.ks, List.map_append]; rfl, nd_put _ _ h.nd⟩
theorem TK.filter {tk : List (List Key × V)} {ks : List (Str × Int)} (h : TK tk ks) (p : List Key → Bool) : TK (tk.filter fun kv => p kv.1) (ks.filter fun k => p (kSN k.1 k.2)) := by
  refine ⟨?_, h.nd.sublist (List.filter_sublist.map _)⟩
  have e1 : (tk.filter fun kv => p kv.1).map (·.1) = (tk.map (·.1)).filter p := by rw [List.filter_map]; rfl
  rw [e1, h.ks, List.filter_map]
  rfl
theorem TK.mem {tk : List (List Key × V)} {ks : List (Str × Int)} (h : TK tk ks) {s : Str} {n : Int} : (s, n) ∈ ks ↔ kSN s n ∈ tk.map (·.1) := by
  rw [h.ks]
  constructor
  · exact fun m => List.mem_map.mpr ⟨_, m, rfl⟩
  · intro m
    obtain ⟨k, hk, e⟩ := List.mem_map.mp m
    obtain ⟨e1, e2⟩ := kSN_inj e
    have : k = (s, n) := Prod.ext e1 e2
    rw [← this]
    exact hk
def numsOf (s : Str) (ks : List (Str × Int)) : List Int := (ks.filter fun k => decide (k.1 = s)).map (·.2)
theorem numsOf_snoc {s : Str} {ks : List (Str × Int)} {k : Str × Int} : numsOf s (ks ++ [k]) = if k.1 = s then numsOf s ks ++ [k.2] else numsOf s ks := by
  unfold numsOf
  rw [List.filter_append, List.map_append]
  by_cases e : k.1 = s
  · rw [if_pos e, List.filter_cons_of_pos (p := fun k : Str × Int => decide (k.1 = s)) (decide_eq_true e)]; rfl
  · rw [if_neg e, List.filter_cons_of_neg (p := fun k : Str × Int => decide (k.1 = s)) (by simpa using e)]
    exact List.append_nil _
theorem mem_numsOf {s : Str} {ks : List (Str × Int)} {n : Int} : n ∈ numsOf s ks ↔ (s, n) ∈ ks := by
  unfold numsOf
  constructor
  · intro m
    obtain ⟨k, hk, e⟩ := List.mem_map.mp m
    obtain ⟨h1, h2⟩ := List.mem_filter.mp hk
    have : k = (s, n) := Prod.ext (of_decide_eq_true h2) e
    rw [← this]
    exact h1
  · exact fun m => List.mem_map.mpr ⟨_, List.mem_filter.mpr ⟨m, decide_eq_true rfl⟩, rfl⟩
theorem nd_numsOf {s : Str} {ks : List (Str × Int)} (h : ks.Nodup) : (numsOf s ks).Nodup := by
  unfold numsOf
  have h1 := h.sublist (List.filter_sublist (p := fun k : Str × Int => decide (k.1 = s)))
  rw [List.nodup_iff_pairwise_ne] at h1 ⊢
  rw [List.pairwise_map]
  refine h1.imp_of_mem fun {a b} ha hb n e => n (Prod.ext ?_ e)
  rw [of_decide_eq_true (List.mem_filter.mp ha).2, of_decide_eq_true (List.mem_filter.mp hb).2]
theorem len_numsOf {s : Str} {ks : List (Str × Int)} : (numsOf s ks).length ≤ ks.length := by
  unfold numsOf
  rw [List.length_map]
  exact List.length_filter_le _ _
/-- does the key leave: of s; all, or those below fl -/
def lvs (al : Bool) (fl n : Int) : Bool := al || decide (n < fl)
def goes (s : Str) (al : Bool) (fl : Int) : List Key → Bool
  | [.inr x, .inl n] => decide (x = s) && lvs al fl n
  | _ => false
def tkOut (s : Str) (al : Bool) (fl : Int) (tk : List (List Key × V)) : List (List Key × V) := tk.filter fun kv => !goes s al fl kv.1
theorem TK.out {tk : List (List Key × V)} {ks : List (Str × Int)} (h : TK tk ks) (s : Str) (al : Bool) (fl : Int) : TK (tkOut s al fl tk) (ks.filter fun k => !goes s al fl (kSN k.1 k.2)) := h.filter fun k => !goes s al fl k
theorem len_tkOut {s : Str} {al : Bool} {fl : Int} {tk : List (List Key × V)} : (tkOut s al fl tk).length ≤ tk.length := List.length_filter_le _ _
def goneN (s : Str) (al : Bool) (fl : Int) (ks : List (Str × Int)) : List Int := (numsOf s ks).filter fun n => lvs al fl n
def dropAll (s : Str) (tk : List (List Key × V)) (l : List Int) : List (List Key × V) := l.foldl (fun t n => dropK t (kSN s n)) tk
theorem dropAll_snoc {s : Str} {tk : List (List Key × V)} {l : List Int} {n : Int} : dropAll s tk (l ++ [n]) = dropK (dropAll s tk l) (kSN s n) := by
  unfold dropAll
  rw [List.foldl_append]
  rfl
theorem valV_dropAll {s : Str} {n : Int} : ∀ {l : List Int} {tk : List (List Key × V)}, n ∉ l → valV (dropAll s tk l) (kSN s n) = valV tk (kSN s n)
  | [], _, _ => rfl
  | m :: l, tk, h => by
    show valV (dropAll s (dropK tk (kSN s m)) l) (kSN s n) = _
    rw [valV_dropAll (fun z => h (List.mem_cons_of_mem _ z)), valV_dropD, if_neg]
    intro e
    exact h (by rw [(kSN_inj e).2]; exact List.mem_cons_self)
theorem dropAll_eq {s : Str} : ∀ {l : List Int} {tk : List (List Key × V)}, dropAll s tk l = tk.filter fun kv => !(l.any fun n => decide (kv.1 = kSN s n))
  | [], tk => by
    rw [List.filter_eq_self.mpr]
    · rfl
    · intro kv _; rfl
  | m :: l, tk => by
    show dropAll s (dropK tk (kSN s m)) l = _
    rw [dropAll_eq]
    unfold dropK
    rw [List.filter_filter]
    refine List.filter_congr fun kv _ => ?_
    rw [List.any_cons]
    by_cases h1 : kv.1 = kSN s m
    · rw [decide_eq_true h1, decide_eq_false (p := kv.1 ≠ kSN s m) (fun z => z h1)]
      simp
    · rw [decide_eq_false h1, decide_eq_true (p := kv.1 ≠ kSN s m) h1]
      simp
theorem dropAll_out {s : Str} {al : Bool} {fl : Int} {tk : List (List Key × V)} {ks : List (Str × Int)} {g : List Int} (h : TK tk ks) (hg : g.Perm (goneN s al fl ks)) : dropAll s tk g = tkOut s al fl tk := by
  rw [dropAll_eq]
  refine List.filter_congr fun kv hkv => ?_
  congr 1
  have hk : kv.1 ∈ ks.map fun k => kSN k.1 k.2 := by rw [← h.ks]; exact List.mem_map.mpr ⟨kv, hkv, rfl⟩
  obtain ⟨k, hk, e⟩ := List.mem_map.mp hk
  rw [← e]
  show (g.any fun n => decide (kSN k.1 k.2 = kSN s n)) = (decide (k.1 = s) && lvs al fl k.2)
  have key : (g.any fun n => decide (kSN k.1 k.2 = kSN s n)) = true ↔ (k.1 = s ∧ lvs al fl k.2 = true) := by
    constructor
    · intro m
      obtain ⟨n, hn, e⟩ := List.any_eq_true.mp m
      obtain ⟨e1, e2⟩ := kSN_inj (of_decide_eq_true e)
      have := hg.mem_iff.mp hn
      exact ⟨e1, by rw [e2]; exact (List.mem_filter.mp this).2⟩
    · rintro ⟨e1, e2⟩
      refine List.any_eq_true.mpr ⟨k.2, hg.mem_iff.mpr (List.mem_filter.mpr ⟨mem_numsOf.mpr ?_, e2⟩), decide_eq_true (by rw [e1])⟩
      rw [← e1]
      exact hk
  refine Bool.eq_iff_iff.mpr (key.trans ?_)
  rw [Bool.and_eq_true, decide_eq_true_eq]
/-- what leaves is there -/
theorem gone_there {s : Str} {al : Bool} {fl : Int} {tk : List (List Key × V)} {ks : List (Str × Int)} {g : List Int} {n : Int} (h : TK tk ks) (hg : g.Perm (goneN s al fl ks)) (hn : n ∈ g) : ∃ v, valV tk (kSN s n) = some v :=
  valV_some_of (h.mem.mp (mem_numsOf.mp (List.mem_filter.mp (hg.mem_iff.mp hn)).1))
theorem gone_nd {s : Str} {al : Bool} {fl : Int} {tk : List (List Key × V)} {ks : List (Str × Int)} {g : List Int} (h : TK tk ks) (hg : g.Perm (goneN s al fl ks)) : g.Nodup := hg.nodup_iff.mpr ((nd_numsOf h.ndk).sublist List.filter_sublist)
theorem gone_le {s : Str} {al : Bool} {fl : Int} {tk : List (List Key × V)} {ks : List (Str × Int)} {g : List Int} (h : TK tk ks) (hg : g.Perm (goneN s al fl ks)) : g.length ≤ tk.length := by
  rw [hg.length_eq, ← h.len]
  exact Nat.le_trans (List.length_filter_le _ _) len_numsOf
theorem gone_uniq {s : Str} {al : Bool} {fl : Int} {ks : List (Str × Int)} {g g' : List Int} (h : g.Perm (goneN s al fl ks)) (h' : g'.Perm (goneN s al fl ks)) (p : g.Pairwise (· ≤ ·)) (p' : g'.Pairwise (· ≤ ·)) : g = g' := PySem.W.os_sorted_one (h.trans h'.symm) p p'
/-- the pairs (number, thing) that leave -/
def GoneIn (L : List Cell) (s : Str) (tk : List (List Key × V)) (g : List Int) (ws : List V) : Prop := Paired (fun w n => ∃ (a : Addr) (v : V), w = V.ref a ∧ valV tk (kSN s n) = some v ∧ (2, a, HO.tup [.int n, v]) ∈ L) ws g
theorem GoneIn.mono {L L' : List Cell} {s : Str} {tk : List (List Key × V)} : ∀ {g : List Int} {ws : List V}, GoneIn L s tk g ws → (∀ c ∈ L, c ∈ L') → GoneIn L' s tk g ws
  | _, _, .nil, _ => .nil
  | _, _, .cons ⟨a, v, h1, h2, h3⟩ r, hL => .cons ⟨a, v, h1, h2, hL _ h3⟩ (GoneIn.mono r hL)
theorem GoneIn.snoc {L : List Cell} {s : Str} {tk : List (List Key × V)} {n : Int} {a : Addr} {v : V} (hv : valV tk (kSN s n) = some v) : ∀ {g : List Int} {ws : List V}, GoneIn L s tk g ws → GoneIn ((2, a, HO.tup [.int n, v]) :: L) s tk (g ++ [n]) (ws ++ [V.ref a])
  | _, _, .nil => .cons ⟨a, v, rfl, hv, List.mem_cons_self⟩ .nil
  | _, _, .cons ⟨b, u, h1, h2, h3⟩ r => .cons ⟨b, u, h1, h2, List.mem_cons_of_mem _ h3⟩ (GoneIn.snoc hv r)
/-- who was met: boot and floor -/
abbrev MS := Str → Option (Int × Int)
def MetAt (H : Hp) (mk : List (Key × V)) (ms : MS) : Prop := ∀ s : Str, (ms s = none ∧ valV mk (.inr s : Key) = none) ∨ ∃ (t : Addr) (b f : Int), ms s = some (b, f) ∧ valV mk (.inr s : Key) = some (.ref t) ∧ H t = some (.tup [.int b, .int f])
def MetIn (L : List Cell) (mk : List (Key × V)) (ms : MS) : Prop := ∀ s : Str, (ms s = none ∧ valV mk (.inr s : Key) = none) ∨ ∃ (t : Addr) (b f : Int), ms s = some (b, f) ∧ valV mk (.inr s : Key) = some (.ref t) ∧ (2, t, HO.tup [.int b, .int f]) ∈ L
def kn (ms : MS) (s : Str) : Int × Int := (ms s).getD (0, 1)
def msPut (ms : MS) (s : Str) (b f : Int) : MS := fun x => if x = s then some (b, f) else ms x
theorem kn_none {ms : MS} {s : Str} (h : ms s = none) : kn ms s = (0, 1) := by unfold kn; rw [h]; rfl
theorem kn_some {ms : MS} {s : Str} {p : Int × Int} (h : ms s = some p) : kn ms s = p := by unfold kn; rw [h]; rfl
theorem MetIn.nil : MetIn [] [] (fun _ => none) := fun _ => .inl ⟨rfl, rfl⟩
theorem MetIn.mono {L L' : List Cell} {mk : List (Key × V)} {ms : MS} (h : MetIn L mk ms) (hL : ∀ c ∈ L, c ∈ L') : MetIn L' mk ms := fun s => (h s).imp id fun ⟨t, b, f, h1, h2, h3⟩ => ⟨t, b, f, h1, h2, hL _ h3⟩
theorem MetIn.at {H0 H : Hp} {ft : List Addr} {l L : List Cell} {mk : List (Key × V)} {ms : MS} (h : MetIn L mk ms) (S : Sep H0 ft H l) (hL : ∀ c ∈ L, c ∈ l) : MetAt H mk ms := fun s => (h s).imp id fun ⟨t, b, f, h1, h2, h3⟩ => ⟨t, b, f, h1, h2, S.rd _ (hL _ h3)⟩
theorem MetIn.put {L : List Cell} {mk : List (Key × V)} {ms : MS} (h : MetIn L mk ms) {s : Str} {b f : Int} {t : Addr} (hc : (2, t, HO.tup [.int b, .int f]) ∈ L) : MetIn L (putK mk (.inr s) (.ref t)) (msPut ms s b f) := fun x => by
  unfold msPut
  by_cases e : x = s
  · exact .inr ⟨t, b, f, by rw [if_pos e], by rw [valV_put, if_pos (by rw [e])], hc⟩
  · rw [if_neg e, valV_put, if_neg (fun z => e (Sum.inr.inj z))]
    exact h x
/-- is the call new -/
def nw (ms : MS) (tk : List (List Key × V)) (hf : Bool) (s : Str) (bo n : Int) : Bool := decide (bo = (kn ms s).1) && !(valV tk (kSN s n)).isSome && (decide (n ≥ (kn ms s).2) || !hf)
/-- what is found -/
def fndT (ms : MS) (tk : List (List Key × V)) (s : Str) (bo n : Int) : V := if bo = (kn ms s).1 then (valV tk (kSN s n)).getD .non else .non
/-! data told by cells -/
mutual
inductive DpL (L : List Cell) : V → PyData → Prop
  | non : DpL L .non .none
  | int (i : Int) : DpL L (.int i) (.int i)
  | str (x : Str) : DpL L (.str x) (.str x)
  | tup {a : Addr} {xs : List V} {ds : List PyData} : (2, a, HO.tup xs) ∈ L → DpLs L xs ds → DpL L (.ref a) (.tuple ds)
inductive DpLs (L : List Cell) : List V → List PyData → Prop
  | nil : DpLs L [] []
  | cons {v : V} {vs : List V} {d : PyData} {ds : List PyData} : DpL L v d → DpLs L vs ds → DpLs L (v :: vs) (d :: ds)
end
mutual
theorem DpL.dp {K : PySem.W.Frag} {H : Hp} {L : List Cell} (hL : ∀ c ∈ L, H c.2.1 = some c.2.2) : ∀ {v : V} {d : PyData}, DpL L v d → Dp K H v d
  | _, _, .non => .non
  | _, _, .int i => .int i
  | _, _, .str x => .str x
  | _, _, .tup h r => .tup (.of (hL _ h)) (DpLs.dp hL r)
theorem DpLs.dp {K : PySem.W.Frag} {H : Hp} {L : List Cell} (hL : ∀ c ∈ L, H c.2.1 = some c.2.2) : ∀ {vs : List V} {ds : List PyData}, DpLs L vs ds → DpAll K H vs ds
  | _, _, .nil => .nil
  | _, _, .cons h r => .cons (DpL.dp hL h) (DpLs.dp hL r)
end
mutual
theorem DpL.mono {L L' : List Cell} (hL : ∀ c ∈ L, c ∈ L') : ∀ {v : V} {d : PyData}, DpL L v d → DpL L' v d
  | _, _, .non => .non
  | _, _, .int i => .int i
  | _, _, .str x => .str x
  | _, _, .tup h r => .tup (hL _ h) (DpLs.mono hL r)
theorem DpLs.mono {L L' : List Cell} (hL : ∀ c ∈ L, c ∈ L') : ∀ {vs : List V} {ds : List PyData}, DpLs L vs ds → DpLs L' vs ds
  | _, _, .nil => .nil
  | _, _, .cons h r => .cons (DpL.mono hL h) (DpLs.mono hL r)
end
/-- no truth, no dict; lists and tuples at most n deep -/
def PlainD : Nat → PyData → Prop
  | _, .none => True
  | _, .int _ => True
  | _, .str _ => True
  | n + 1, .list ds => ds.length < 10000 ∧ ∀ d ∈ ds, PlainD n d
  | n + 1, .tuple ds => ds.length < 10000 ∧ ∀ d ∈ ds, PlainD n d
  | _, _ => False

/-- C(k = v, ..), some keywords left out -/
structure MakG (P : Program) (w : World) (K : PySem.W.Frag) (mg : Str → Option Value) (base : Heap) (CX : CXT) (k : Nat) (x : Str) (C : Addr) (ks : List Str) (gV : List V → List V → List V) (sp : Sp) : Prop where
  ex : ∃ (f : Addr) (fd : FuncData) (ps : List Str) (g : List Value → List Value → List Value), Mk K C f ∧ FnOk P w K mg base CX k f fd ps sp ∧ mg x = some (.ref C) ∧ KBn K fd ps 1 ks g gV
theorem pe_mkG {X : Cx} {CX : CXT} {k j : Nat} {C : Addr} {x : Str} {sp : Sp} {E : XK} {p pos : Pos} {kws : List Keyword} {ks : List Str} {gV : List V → List V → List V} {tk : TA} (c : MakG X.prog X.w X.K X.mg X.base CX k x C ks gV sp) (hr : Room j X.A) (hk : k + 1 ≤ j) (hg : Gl X x) (hx : Passes CX X E) (hkw : PK X kws tk)
    (hall : (backToKw pos (keywordEach kws X.env)).all (·.1.isSome) = true := by rfl) (hks : (backToKw pos (keywordEach kws X.env)).filterMap (·.1) = ks := by rfl) (hdb : (x == ("__debug__" : Str)) = false := by decide)
    (hpl : ((backTo pos (starEach [] X.env)).any (·.1) || (backToKw pos (keywordEach kws X.env)).any (·.1.isNone)) = false := by rfl) :
    PE X (.Call (.Name x p) [] kws pos) (tMakeK1 C 0 ks.length sp gV E tNil tk) := by
  obtain ⟨f, fd, ps, g, M, F, hm, b⟩ := c.ex
  exact pe_makeK0 M F (hr.mono hk) hg hm b hx hkw hall hks hdb hpl
theorem TK.at {tk : List (List Key × V)} {ks : List (Str × Int)} (h : TK tk ks) {i : Nat} {k : List Key} {v : V} (e : tk[i]? = some (k, v)) : ∃ kk : Str × Int, ks[i]? = some kk ∧ k = kSN kk.1 kk.2 := by
  have h1 : (tk.map (·.1))[i]? = some k := by rw [List.getElem?_map, e]; rfl
  rw [h.ks, List.getElem?_map] at h1
  cases q : ks[i]? with
  | none => rw [q] at h1; cases h1
  | some kk =>
    rw [q] at h1
    exact ⟨kk, rfl, (Option.some.inj h1).symm⟩
theorem not_mem_take {α : Type} {g : List α} {i : Nat} {n : α} (h : g.Nodup) (e : g[i]? = some n) : n ∉ g.take i := by
  intro m
  obtain ⟨j, hj, ej⟩ := List.getElem_of_mem m
  rw [List.length_take] at hj
  rw [List.getElem_take] at ej
  obtain ⟨hi, ei⟩ := List.getElem?_eq_some_iff.mp e
  rw [List.nodup_iff_pairwise_ne, List.pairwise_iff_getElem] at h
  exact h j i (by omega) hi (by omega) (ej.trans ei.symm)
theorem Sep.ends2 {H0 H : Hp} {ft : List Addr} {a b c d : Cell} {L : List Cell} (S : Sep H0 ft H (a :: b :: c :: d :: L)) : Sep H0 ft H (a :: b :: (L ++ [c, d])) :=
  S.perm ((List.perm_append_comm (l₁ := L) (l₂ := [c, d])).cons b |>.cons a)
theorem keep2 {H0 H : Hp} {m th : Addr} {o1 o2 : HO} {l : List Cell} (S : Sep H0 [m, th] H l) (h1 : H0 m = some o1) (h2 : H0 th = some o2) (h3 : H m = some o1) (h4 : H th = some o2) : ∀ b o, H0 b = some o → H b = some o := fun b o e => by
  by_cases c1 : b = m
  · rw [c1] at e ⊢; rw [h1] at e; cases e; exact h3
  · by_cases c2 : b = th
    · rw [c2] at e ⊢; rw [h2] at e; cases e; exact h4
    · exact S.fr b o e (by simp [c1, c2])
theorem goneN_all {s : Str} {fl : Int} {ks : List (Str × Int)} : goneN s true fl ks = numsOf s ks := List.filter_eq_self.mpr fun _ _ => rfl
theorem goneN_few {s : Str} {fl : Int} {ks : List (Str × Int)} : goneN s false fl ks = (numsOf s ks).filter fun n => decide (n < fl) := List.filter_congr fun _ _ => rfl
def mAl (ms : MS) (s : Str) (bo : Int) : Bool := decide (bo ≠ (kn ms s).1)
def mFl (ms : MS) (s : Str) (bo fl : Int) : Int := if bo = (kn ms s).1 then max fl (kn ms s).2 else fl

theorem pe_bmK {X : Cx} {T : String} {name : Str} {id : String} {r : V → List V → Hp → VK → Prop} {o e : Expr} {es : List Expr} {apos cpos : Pos} {to : TE} {t : TA} (K : PySem.W.Frag) (pa : PlainAttrs T) (slot : Slot T name id) (hty : typeOf (.builtin id) = pure (.type "method_descriptor")) (hm : MtR X id r) (ho : PE X o to) (ha : PA X (e :: es) t)
    (hbase : attributeBase o name X.env (eval o X.env) = eval o X.env := by rfl)
    (hfew : ((backTo cpos (starEach (e :: es) X.env)).all (fun x => !x.1) && (backToKw cpos (keywordEach [] X.env)).all (fun x => x.1.isSome)
      && decide ((e :: es).length + ([] : List Keyword).length + (if ([] : List Keyword).isEmpty then 0 else 1) < 30)) = true := by rfl)
    (hline : (apos.endLine == cpos.line) = true := by rfl) (hs : starEach (e :: es) X.env = (false, eval e X.env) :: starEach es X.env := by rfl) (hplain : (backTo cpos (starEach es X.env)).any (·.1) = false := by rfl) (hK : X.K = K := by rfl) :
    PE X (.Call (.Attribute o name apos) (e :: es) [] cpos) (tBM K T r to t) := by
  subst hK
  exact pe_bm pa slot hty hm ho ha hbase hfew hline hs hplain
end G

set_option linter.all false
set_option maxRecDepth 100000
set_option maxHeartbeats 4000000
/-! data looked at from outside: isinstance by two classes, zip, all -/
namespace G
open PySem PySem.Spec PyProof.Rows L2
section
variable {H0 H : Hp} {ft : List Addr} {l : List Cell} {t : Nat} {p : Addr} {K : PySem.W.Frag} {Q : VK} {x y : V}
theorem x_neK {b : Bool} (e : (!decide (x = y)) = b) (q : Q (.bl b) H) (s : scal x y = true := by rfl) : rNe x y H Q := ⟨s, by rw [e]; exact q⟩
theorem x_eqK {b : Bool} (e : decide (x = y) = b) (q : Q (.bl b) H) (s : scal x y = true := by rfl) : rEq x y H Q := ⟨s, by rw [e]; exact q⟩
theorem kit_any2 {A B C : String} {b c : Bool} (h1 : kitB A B = some b) (h2 : kitB A C = some c) : PySem.W.kitAny K (.type A) [.type B, .type C] = some (b || c) := by
  unfold PySem.W.kitAny
  rw [kit_ty h1]
  cases b with
  | true => rfl
  | false =>
    unfold PySem.W.kitAny
    rw [kit_ty h2]
    cases c <;> rfl
theorem cl_isiTK {X : Cx} (K : PySem.W.Frag) (h : X.K = K := by rfl) : CallR X (.builtin "isinstance") (rIsiT K) := by subst h; exact call_isiT
theorem x_isiT {A B C : String} {b c : Bool} {q : Addr} (S : Sep H0 ft H l) (n : Nat) (h : l[n]? = some (t, q, .tup [.ty B, .ty C])) (ty : TyX K H x (.type A)) (h1 : kitB A B = some b) (h2 : kitB A C = some c) (k : Q (.bl (b || c)) H) : rIsiT K [x, .ref q] H Q :=
  ⟨x, q, _, _, _, _, rfl, S.get n h, .cons (.ty B) (.cons (.ty C) .nil), ty, kit_any2 h1 h2, k⟩
theorem walk_zipT {a b : Addr} {xs ys : List V} {n : Nat} (hn : n = min xs.length ys.length) : Walk (RZ.ItzT K a b) n (fun H => SqT K H a xs ∧ SqT K H b ys) (YPair (fun i => xs[i]?) (fun i => ys[i]?)) := by
  subst hn
  refine ⟨fun i _ hi q => ?_, fun _ q => ⟨xs, ys, q.1, q.2, by omega⟩, fun i H v H' _ q y => ?_⟩
  · have h1 : i < xs.length := by omega
    have h2 : i < ys.length := by omega
    exact ⟨xs, ys, xs[i], ys[i], q.1, q.2, by simp [h1], by simp [h2]⟩
  · obtain ⟨T, x, z, h1, h2, h3, h4, h5⟩ := y
    exact ⟨T, x, z, h1, h2, h3, h4 xs q.1, h5 ys q.2⟩
theorem cr_allK {X : Cx} (K : PySem.W.Frag) (hc : X.calm = true) (h : X.K = K := by rfl) : CallR X (.builtin "all") (rAll K) := by subst h; exact cr_all hc
theorem x_all {bs : List Bool} (S : Sep H0 ft H l) (n : Nat) (h : l[n]? = some (t, p, .lst (bs.map V.bl))) (k : Q (.bl (bs.all id)) H) : rAll K [.ref p] H Q := ⟨p, bs, rfl, S.sl n h, k⟩
end
def iZip1 (K : PySem.W.Frag) (ta : TA) : TI := iZip K ta
theorem pi_zipAK {X : Cx} {e e2 : Expr} {ta : TA} {p pos tpos : Pos} {elts : List Expr} {kk : Nat} (K : PySem.W.Frag) (hg : Gl X "zip") (hm : X.mg "zip" = none) (ha : PA X [e, e2] ta)
    (hs : starEach [e, e2] X.env = (false, eval e X.env) :: starEach [e2] X.env := by rfl) (hpl : (backTo pos (starEach [e2] X.env)).any (·.1) = false := by rfl) (h : X.K = K := by rfl) :
    PI X (.Tuple elts kk tpos) (.Call (.Name "zip" p) [e, e2] [] pos) (RZ.iZipA K ta) := by
  subst h
  exact RZ.pi_zipA hg hm ha hs hpl
/-! data over the heap -/
mutual
inductive DpH (H : Hp) : V → PyData → Prop
  | non : DpH H .non .none
  | int (i : Int) : DpH H (.int i) (.int i)
  | str (x : Str) : DpH H (.str x) (.str x)
  | tup {a : Addr} {xs : List V} {ds : List PyData} : H a = some (.tup xs) → DpHs H xs ds → DpH H (.ref a) (.tuple ds)
  | lst {a : Addr} {xs : List V} {ds : List PyData} : H a = some (.lst xs) → DpHs H xs ds → DpH H (.ref a) (.list ds)
inductive DpHs (H : Hp) : List V → List PyData → Prop
  | nil : DpHs H [] []
  | cons {v : V} {vs : List V} {d : PyData} {ds : List PyData} : DpH H v d → DpHs H vs ds → DpHs H (v :: vs) (d :: ds)
end
mutual
theorem DpL.dph {H : Hp} {L : List Cell} (hL : ∀ c ∈ L, H c.2.1 = some c.2.2) : ∀ {v : V} {d : PyData}, DpL L v d → DpH H v d
  | _, _, .non => .non
  | _, _, .int i => .int i
  | _, _, .str x => .str x
  | _, _, .tup h r => .tup (hL _ h) (DpLs.dph hL r)
theorem DpLs.dph {H : Hp} {L : List Cell} (hL : ∀ c ∈ L, H c.2.1 = some c.2.2) : ∀ {vs : List V} {ds : List PyData}, DpLs L vs ds → DpHs H vs ds
  | _, _, .nil => .nil
  | _, _, .cons h r => .cons (DpL.dph hL h) (DpLs.dph hL r)
end
mutual
theorem DpH.stay {H H' : Hp} (F : ∀ b o, H b = some o → H' b = some o) : ∀ {v : V} {d : PyData}, DpH H v d → DpH H' v d
  | _, _, .non => .non
  | _, _, .int i => .int i
  | _, _, .str x => .str x
  | _, _, .tup h r => .tup (F _ _ h) (DpHs.stay F r)
  | _, _, .lst h r => .lst (F _ _ h) (DpHs.stay F r)
theorem DpHs.stay {H H' : Hp} (F : ∀ b o, H b = some o → H' b = some o) : ∀ {vs : List V} {ds : List PyData}, DpHs H vs ds → DpHs H' vs ds
  | _, _, .nil => .nil
  | _, _, .cons h r => .cons (DpH.stay F h) (DpHs.stay F r)
end
theorem DpHs.len {H : Hp} : ∀ {vs : List V} {ds : List PyData}, DpHs H vs ds → vs.length = ds.length
  | _, _, .nil => rfl
  | _, _, .cons _ r => by rw [List.length_cons, List.length_cons, DpHs.len r]
theorem DpHs.at {H : Hp} : ∀ {vs : List V} {ds : List PyData} {i : Nat} {v : V}, DpHs H vs ds → vs[i]? = some v → ∃ d, ds[i]? = some d ∧ DpH H v d
  | _, _, i, v, .nil, h => by simp at h
  | _, _, 0, v, .cons (d := d) h _, e => by
    have e : some _ = some v := e
    cases e
    exact ⟨d, rfl, h⟩
  | _, _, i + 1, v, .cons _ r, e => DpHs.at (i := i) r e
theorem DpHs.ints {H : Hp} : ∀ {ns : List Int}, DpHs H (ns.map V.int) (ns.map PyData.int)
  | [] => .nil
  | n :: r => .cons (.int n) DpHs.ints
theorem DpHs.strs {H : Hp} : ∀ {ns : List Str}, DpHs H (ns.map V.str) (ns.map PyData.str)
  | [] => .nil
  | n :: r => .cons (.str n) DpHs.strs
end G

set_option linter.all false
set_option maxRecDepth 100000
set_option maxHeartbeats 4000000
/-! a table kept in a dict of dicts: who was met, the sorted keys as cells -/
namespace G
open PySem PySem.Spec PyProof.Rows L2
section
variable {H0 H : Hp} {ft : List Addr} {l m : List Cell} {t t2 : Nat} {p u : Addr} {Q : VK}
theorem MetAt.fr {mk : List (Key × V)} {ms : MS} (h : MetAt H0 mk ms) (S : Sep H0 ft H l) (hf : ∀ t xs, H0 t = some (.tup xs) → t ∉ ft) : MetAt H mk ms := fun s => (h s).imp id fun ⟨t, b, f, h1, h2, h3⟩ => ⟨t, b, f, h1, h2, S.fr _ _ h3 (hf _ _ h3)⟩
theorem tup_not0 (t : Addr) (xs : List V) (_ : H0 t = some (.tup xs)) : t ∉ ([] : List Addr) := fun h => nomatch h
theorem tup_not2 {a b : Addr} {k1 : List (Key × V)} {k2 : List (List Key × V)} (h1 : H0 a = some (.dK k1)) (h2 : H0 b = some (.dT k2)) (t : Addr) (xs : List V) (h : H0 t = some (.tup xs)) : t ∉ [a, b] := fun hm => by
  simp only [List.mem_cons, List.not_mem_nil, or_false] at hm
  rcases hm with rfl | rfl
  · rw [h1] at h; cases h
  · rw [h2] at h; cases h
/-- met.get(s, (0, 1)) -/
theorem x_dgM {mk : List (Key × V)} {ms : MS} {s : Str} (S : Sep H0 ft H l) (n j : Nat) (h : l[n]? = some (t, p, .dK mk)) (hj : l[j]? = some (t2, u, .tup [.int 0, .int 1])) (hM : MetAt H mk ms) (q : ∀ a, H a = some (.tup [.int (kn ms s).1, .int (kn ms s).2]) → Q (.ref a) H) : rDG (.str s) (.ref u) p H Q := by
  refine x_dg (k := Sum.inr s) S n h (fun h0 => ?_) (fun v hv => ?_)
  · rcases hM s with ⟨h1, h2⟩ | ⟨a, b, f, h1, h2, h3⟩
    · exact q u (by rw [kn_none h1]; exact S.get j hj)
    · rw [h0] at h2; cases h2
  · rcases hM s with ⟨h1, h2⟩ | ⟨a, b, f, h1, h2, h3⟩
    · rw [hv] at h2; cases h2
    · rw [hv] at h2
      cases h2
      exact q a (by rw [kn_some h1]; exact h3)
def isSN : HO → Bool
  | .tup [.str _, .int _] => true
  | _ => false
/-- the cell of a key's own tuple -/
abbrev kCell (z : Ent) : Cell := (0, z.2.2, HO.tup [.str z.1, .int z.2.1])
theorem Sep.addKeys (S : Sep H0 ft H l) (zs : List Ent) (hz : ∀ z ∈ zs, H z.2.2 = some (.tup [.str z.1, .int z.2.1])) (hn : (zs.map fun z => (z.1, z.2.1)).Nodup) (hl : (l.all fun c => !isSN c.2.2) = true) : Sep H0 ft H (l ++ zs.map kCell) := by
  refine ⟨?_, fun c hc => ?_, S.fr, fun c hc e => ?_, fun c hc e => ?_, S.ex⟩
  · rw [List.map_append, List.map_map]
    refine List.nodup_append.mpr ⟨S.nd, ?_, ?_⟩
    · rw [List.nodup_iff_pairwise_ne, List.pairwise_map] at hn ⊢
      refine hn.imp_of_mem fun {a b} ha hb n e => n ?_
      have h1 := hz a ha
      have h2 := hz b hb
      have e : a.2.2 = b.2.2 := e
      rw [e, h2] at h1
      simp only [Option.some.injEq, HO.tup.injEq, List.cons.injEq, V.str.injEq, V.int.injEq] at h1
      exact Prod.ext h1.1.symm h1.2.1.symm
    · intro a ha b hb e
      obtain ⟨c, hc, rfl⟩ := List.mem_map.mp ha
      obtain ⟨z, hz9, rfl⟩ := List.mem_map.mp hb
      have h1 := S.rd c hc
      have h2 := hz z hz9
      have e : c.2.1 = z.2.2 := e
      rw [e, h2] at h1
      have h3 := List.all_eq_true.mp hl c hc
      rw [← Option.some.inj h1] at h3
      cases h3
  · rcases List.mem_append.mp hc with h | h
    · exact S.rd c h
    · obtain ⟨z, hz9, rfl⟩ := List.mem_map.mp h
      exact hz z hz9
  · rcases List.mem_append.mp hc with h | h
    · exact S.wr c h e
    · obtain ⟨z, hz9, rfl⟩ := List.mem_map.mp h
      cases e
  · rcases List.mem_append.mp hc with h | h
    · exact S.nw c h e
    · obtain ⟨z, hz9, rfl⟩ := List.mem_map.mp h
      cases e
theorem Sep.init (S : Sep H0 ft H (l ++ m)) : Sep H0 ft H l :=
  ⟨by have := S.nd; rw [List.map_append] at this; exact (List.nodup_append.mp this).1, fun c hc => S.rd c (List.mem_append_left _ hc), S.fr, fun c hc => S.wr c (List.mem_append_left _ hc), fun c hc => S.nw c (List.mem_append_left _ hc), S.ex⟩
end
/-- does the key leave -/
def pz (s : Str) (al : Bool) (fl : Int) (z : Ent) : Bool := decide (z.1 = s) && lvs al fl z.2.1
theorem pz_eq {s : Str} {al : Bool} {fl : Int} : ∀ zs : List Ent, (zs.filter (pz s al fl)).map (·.2.1) = goneN s al fl (zs.map fun z => (z.1, z.2.1))
  | [] => rfl
  | z :: zs => by
    have ih := pz_eq (s := s) (al := al) (fl := fl) zs
    unfold goneN numsOf at ih ⊢
    rw [List.map_cons]
    by_cases c : z.1 = s
    · rw [List.filter_cons_of_pos (p := fun k : Str × Int => decide (k.1 = s)) (decide_eq_true c), List.map_cons]
      by_cases q : lvs al fl z.2.1 = true
      · rw [List.filter_cons_of_pos (p := fun n => lvs al fl n) q, List.filter_cons_of_pos (p := pz s al fl) (by unfold pz; rw [decide_eq_true c, q]; rfl), List.map_cons, ih]
      · rw [List.filter_cons_of_neg (p := fun n => lvs al fl n) q, List.filter_cons_of_neg (p := pz s al fl) (by unfold pz; rw [decide_eq_true c, Bool.true_and]; exact q), ih]
    · rw [List.filter_cons_of_neg (p := fun k : Str × Int => decide (k.1 = s)) (by simpa using c), List.filter_cons_of_neg (p := pz s al fl) (by unfold pz; rw [decide_eq_false c]; simp), ih]
theorem numsOf_perm {s : Str} {ks ks' : List (Str × Int)} (h : ks.Perm ks') : (numsOf s ks).Perm (numsOf s ks') := (h.filter _).map _
theorem gone_zs {s : Str} {al : Bool} {fl : Int} {zs : List Ent} {ks : List (Str × Int)} (h : (zs.map fun z => (z.1, z.2.1)).Perm ks) : ((zs.filter (pz s al fl)).map (·.2.1)).Perm (goneN s al fl ks) := by
  rw [pz_eq]
  exact (numsOf_perm h).filter _
theorem gone_srt {s : Str} {al : Bool} {fl : Int} {zs : List Ent} (h : zs.Pairwise fun x y => x.1 = y.1 → x.2.1 ≤ y.2.1) : ((zs.filter (pz s al fl)).map (·.2.1)).Pairwise (· ≤ ·) := by
  rw [List.pairwise_map]
  refine (h.sublist List.filter_sublist).imp_of_mem fun {a b} ha hb k => k ?_
  have h1 := (List.mem_filter.mp ha).2
  have h2 := (List.mem_filter.mp hb).2
  unfold pz at h1 h2
  rw [of_decide_eq_true (Bool.and_eq_true_iff.mp h1).1, of_decide_eq_true (Bool.and_eq_true_iff.mp h2).1]
theorem pz_name {s : Str} {al : Bool} {fl : Int} {z : Ent} (h : pz s al fl z = true) : z.1 = s := of_decide_eq_true (Bool.and_eq_true_iff.mp h).1
theorem pz_yes {s : Str} {al : Bool} {fl : Int} {z : Ent} (h : z.1 = s) (k : al = true ∨ z.2.1 < fl) : pz s al fl z = true := by
  unfold pz lvs
  rw [decide_eq_true h, Bool.true_and]
  rcases k with k | k
  · rw [k]; rfl
  · rw [decide_eq_true k, Bool.or_true]
theorem pz_no1 {s : Str} {al : Bool} {fl : Int} {z : Ent} (h : ¬ z.1 = s) : ¬ pz s al fl z = true := fun e => h (pz_name e)
theorem pz_no2 {s : Str} {fl : Int} {z : Ent} (h : ¬ z.2.1 < fl) : ¬ pz s false fl z = true := fun e => by
  unfold pz lvs at e
  rw [decide_eq_false h] at e
  simp at e
end G

set_option linter.all false
set_option maxRecDepth 100000
set_option maxHeartbeats 4000000
/-! sets of texts: made by a comprehension, sorted -/
namespace G
open PySem PySem.Spec PyProof.Rows L2
/-- the text of an entry -/
def keyT (e : Int × Value) : Str := match e.2 with | .str k _ => k | _ => Str.empty
def GoodT (w : World) (e : Int × Value) : Prop := ∃ k u, e.2 = Value.str k u ∧ e.1 = hashStr w k
/-- the set of texts at a: S its members, n their number -/
def SetT (w : World) (h : Heap) (a : Addr) (S : Str → Bool) (n : Nat) : Prop :=
  ∃ o es ep t, h.get? a = some o ∧ o.ExactSet ∧ o.data = .set es ep t ∧ (∀ e ∈ es.toList, GoodT w e) ∧ (es.toList.map keyT).Nodup ∧ (∀ k, S k = true ↔ k ∈ es.toList.map keyT) ∧
    es.size < scanBound ∧ t.fits es.size = true ∧ es.size = n ∧ Ris t.place.toList ∧ (w.params.followText "set-order" = true ∨ t.led = true)
section
variable {P : Program} {w : World} {h h' : Heap} {a : Addr} {S : Str → Bool} {n : Nat}
theorem SetT.at (R : SetT w h a S n) (k : ∀ o, h.get? a = some o → h'.get? a = some o) : SetT w h' a S n :=
  let ⟨o, es, ep, t, ho, r⟩ := R
  ⟨o, es, ep, t, k o ho, r⟩
theorem isT (k : Str) (u : Tok) : (PySem.strKind P w).is k (.str k u) = true := PySem.Froz.is_str k u
theorem goodT_elems {l : List (Int × Value)} (g : ∀ e ∈ l, GoodT w e) : ElemsOf (PySem.strKind P w) l := fun e he =>
  let ⟨k, u, h1, h2⟩ := g e he
  ⟨⟨k, by rw [h1]; exact isT k u, h2⟩, by rw [h1]; rfl⟩
theorem goodT_is {e : Int × Value} (g : GoodT w e) (k : Str) : (PySem.strKind P w).is k e.2 = true ↔ keyT e = k := by
  obtain ⟨j, u, h1, _⟩ := g
  have e0 : keyT e = j := by unfold keyT; rw [h1]
  rw [h1, e0]
  constructor
  · intro z
    exact (PySem.strKind P w).inj _ _ _ (isT j u) z
  · rintro rfl; exact isT _ _
theorem goodT_mem {l : List (Int × Value)} (g : ∀ e ∈ l, GoodT w e) (k : Str) : k ∈ l.map keyT ↔ ∃ e ∈ l, (PySem.strKind P w).is k e.2 = true := by
  rw [List.mem_map]
  exact ⟨fun ⟨e, he, q⟩ => ⟨e, he, (goodT_is (g e he) k).2 q⟩, fun ⟨e, he, q⟩ => ⟨e, he, (goodT_is (g e he) k).1 q⟩⟩
theorem SetT.setOf (R : SetT w h a S n) : h.SetOf (PySem.strKind P w) a S n :=
  let ⟨o, es, ep, t, ho, hx, hd, g, _, hm, hb, hf, hn, _⟩ := R
  ⟨o, es, ep, t, ho, hx, hd, goodT_elems g, fun k => (hm k).trans (goodT_mem g k), hb, hf, hn⟩
end
section
variable {P : Program} {w : World} {A : Around} {E : Value → Shared → Prop} {s : Shared} {a : Addr} {S : Str → Bool} {n : Nat}
/-- the end of an add: the table stored, and made anew where it is too full -/
theorem setT_tail {g : Bool → Sem Unit} (hg : ∀ (b : Bool) (s₁ : Shared) (Q' : Unit → Shared → Prop), Q' () s₁ → wpAny (model P w) A (g b) Q' E s₁)
    {o : Obj} {es : Array (Int × Value)} {ep : Nat} {t : SetTable} (ho : s.heap.get? a = some o) (hex : o.ExactSet) (hd : o.data = .set es ep t)
    {es1 : Array (Int × Value)} {t2 : SetTable} {S' : Str → Bool} (g1 : ∀ e ∈ es1.toList, GoodT w e) (nd1 : (es1.toList.map keyT).Nodup) (m1 : ∀ k, S' k = true ↔ k ∈ es1.toList.map keyT)
    (hb1 : es1.size < scanBound) (hf2 : t2.fits es1.size = true) (hr : Ris t2.place.toList) (hl : w.params.followText "set-order" = true ∨ t2.led = true) {wd : Bool} {R : Option Bool → Shared → Prop}
    (hR : ∀ h', Heap.SameBut a s.heap h' → SetT w h' a S' es1.size → R (some true) { s with heap := h' }) :
    wpAny (model P w) A (do
        storeSet a es1 t2
        if (!wd && t2.tooFull) = true then do
            g (relayAll t2 es1 (SetTable.grown es1.size)).2.2
            storeSet a (relayAll t2 es1 (SetTable.grown es1.size)).1 (relayAll t2 es1 (SetTable.grown es1.size)).2.1
            pure (some true)
          else pure (some true)) R E s := by
  have o1 := PpSet.storeB_at (es' := es1) (t' := t2) ho hd
  have sb := Heap.SameBut.update s.heap a (Obj.putSet es1 t2)
  refine wpAny_bind (wpAny_storeSet_of ho hd ?_ (fits_of_scanBound hb1))
  split
  · have pm := relayAll_perm t2 es1 (SetTable.grown es1.size)
    have hf3 := relayAll_fits t2 es1 (SetTable.grown es1.size)
    have hr3 := relayAll_ris t2 es1 (SetTable.grown es1.size)
    have hl3 := relayAll_led t2 es1 (SetTable.grown es1.size)
    revert pm hf3 hr3 hl3
    generalize relayAll t2 es1 (SetTable.grown es1.size) = Z
    obtain ⟨es2, t3, gv⟩ := Z
    intro pm hf3 hr3 hl3
    have hsz : es2.size = es1.size := by rw [← Array.length_toList, pm.length_eq, Array.length_toList]
    have hb2 : es2.size < scanBound := hsz ▸ hb1
    refine wpAny_bind (hg _ _ _ (wpAny_bind (wpAny_storeSet_of o1 rfl (wpAny_pure (hR _ (sb.trans (Heap.SameBut.update _ a _)) ?_)) (fits_of_scanBound hb2))))
    exact ⟨_, es2, _, t3, PpSet.storeB_at (es' := es2) (t' := t3) o1 rfl, hex, rfl, fun e he => g1 e (pm.mem_iff.mp he), (pm.map keyT).nodup_iff.mpr nd1, fun k => (m1 k).trans (pm.map keyT).mem_iff.symm, hb2, hf3, hsz, hr3, hl.imp id fun z => hl3.trans z⟩
  · exact wpAny_pure (hR _ sb ⟨_, es1, _, t2, o1, hex, rfl, g1, nd1, m1, hb1, hf2, rfl, hr, hl⟩)
theorem setT_hashed {k : Str} {u : Tok} {Q : Bool → Shared → Prop} (R : SetT w s.heap a S n) (room : n + 1 < scanBound)
    (hQ : ∀ h', Heap.SameBut a s.heap h' → SetT w h' a (fun j => S j || decide (j = k)) (if S k = true then n else n + 1) → Q (!S k) { s with heap := h' }) :
    wpAny (model P w) A (setAddHashed a (.str k u) ((PySem.strKind P w).hash k)) Q E s := by
  obtain ⟨o, es, ep, t, ho, hex, hd, g, nd, hm, hb, hf, hn, hr, hl⟩ := R
  have hkey : (PySem.strKind P w).is k (.str k u) = true := isT k u
  have hsc : (Value.str k u).scannable = true := rfl
  have hel : ElemsOf (PySem.strKind P w) es.toList := goodT_elems g
  unfold setAddHashed setAddHashedIn
  refine wpAny_holding (wpAny_bind (wpAny_setState_of ho hd hf ?_))
  dsimp only
  rw [byScan_of hsc hb hel]
  simp only [↓reduceIte]
  unfold setAddByScan
  refine wpAny_bind (wpAny_bind (wpAny_rule (wpAny_bind (wpAny_setScan_of hkey ho hd hf hel ?_))))
  cases hfi : List.findIdx? (fun e => (PySem.strKind P w).is k e.2) es.toList with
  | some j =>
    dsimp only
    obtain ⟨hj, pj, _⟩ := List.findIdx?_eq_some_iff_getElem.mp hfi
    have hSk : S k = true := (hm k).2 ((goodT_mem (P := P) (w := w) g k).2 ⟨es.toList[j], List.getElem_mem hj, pj⟩)
    refine wpAny_pure (wpAny_pure ?_)
    have q := hQ s.heap (Heap.SameBut.refl a s.heap) ⟨o, es, ep, t, ho, hex, hd, g, nd, fun i => by
      rw [Bool.or_eq_true, decide_eq_true_eq, ← hm i]
      exact ⟨fun z => z.elim id (fun e => e ▸ hSk), .inl⟩, hb, hf, by rw [if_pos hSk]; exact hn, hr, hl⟩
    rw [hSk] at q
    exact q
  | none =>
    dsimp only
    have hnk : k ∉ es.toList.map keyT := fun z => by
      obtain ⟨e, he, q⟩ := (goodT_mem (P := P) (w := w) g k).1 z
      have c := List.findIdx?_eq_none_iff.mp hfi e he
      rw [q] at c
      cases c
    have hSk : S k = false := Bool.eq_false_iff.mpr fun q => hnk ((hm k).1 q)
    have hgw : ∀ (b : Bool) {s₁ : Shared} {Q' : Unit → Shared → Prop}, Q' () s₁ → wpAny (model P w) A (match b with | true => rule "set.scan.the-table-gave-way" | false => pure ()) Q' E s₁ :=
      fun b s₁ Q' q => by cases b <;> first | exact wpAny_pure q | exact wpAny_rule q
    have pm := layNew_perm t es ((PySem.strKind P w).hash k) (.str k u)
    have hf1 := layNew_fits t es ((PySem.strKind P w).hash k) (.str k u)
    have hr1 := layNew_ris t es ((PySem.strKind P w).hash k) (.str k u) hr
    have hl1 := layNew_led t es ((PySem.strKind P w).hash k) (.str k u)
    revert pm hf1 hr1 hl1
    generalize layNew t es ((PySem.strKind P w).hash k) (.str k u) = Z
    obtain ⟨es1, t1, wd, gv⟩ := Z
    intro pm hf1 hr1 hl1
    dsimp only at pm hf1 hr1 hl1 ⊢
    rw [Array.toList_push] at pm
    have pc : es1.toList.Perm (((PySem.strKind P w).hash k, Value.str k u) :: es.toList) := pm.trans (List.perm_append_singleton _ _)
    have pk : (es1.toList.map keyT).Perm (k :: es.toList.map keyT) := pc.map keyT
    have g1 : ∀ e ∈ es1.toList, GoodT w e := fun e he => (List.mem_cons.mp (pc.mem_iff.mp he)).elim (fun z => by rw [z]; exact ⟨k, u, rfl, rfl⟩) (g e)
    have nd1 : (es1.toList.map keyT).Nodup := pk.nodup_iff.mpr (List.nodup_cons.mpr ⟨hnk, nd⟩)
    have m1 : ∀ i, (S i || decide (i = k)) = true ↔ i ∈ es1.toList.map keyT := fun i => by
      rw [Bool.or_eq_true, decide_eq_true_eq, hm i, pk.mem_iff, List.mem_cons]
      exact Or.comm
    have hsz : es1.size = n + 1 := by rw [← Array.length_toList, pc.length_eq, List.length_cons, Array.length_toList, hn]
    have hb1 : es1.size < scanBound := by rw [hsz]; exact room
    have hled : w.params.followText "set-order" = true ∨ t1.led = true := hl.imp id fun z => hl1.trans z
    have fin : ∀ h', Heap.SameBut a s.heap h' → SetT w h' a (fun j => S j || decide (j = k)) es1.size → Q true { s with heap := h' } := fun h' sb r => by
      have q := hQ h' sb
      rw [hSk] at q
      rw [hsz] at r
      exact q r
    refine wpAny_bind (hgw _ ?_)
    split
    · refine wpAny_bind ?_
      rw [hashByValue_scannable 8 hsc]
      refine wpAny_pure (setT_tail ?_ ho hex hd g1 nd1 m1 hb1 ?_ ?_ ?_ ?_)
      · intro b s₁ Q' q; cases b <;> first | exact wpAny_pure q | exact wpAny_rule q
      · first | (split <;> first | exact hf1 | exact SetTable.fits_plain_off hf1) | exact hf1
      · first | (split <;> exact hr1) | exact hr1
      · first | (split <;> exact hled) | exact hled
      · intro h' sb r; dsimp only; exact wpAny_pure (fin h' sb r)
    · refine wpAny_bind (wpAny_pure ?_)
      simp only [↓reduceIte]
      refine setT_tail ?_ ho hex hd g1 nd1 m1 hb1 hf1 hr1 hled ?_
      · intro b s₁ Q' q; cases b <;> first | exact wpAny_pure q | exact wpAny_rule q
      · intro h' sb r; dsimp only; exact wpAny_pure (fin h' sb r)
theorem setT_add {k : Str} {u : Tok} {Q : Value → Shared → Prop} (R : SetT w s.heap a S n) (room : n + 1 < scanBound)
    (hQ : ∀ h', Heap.SameBut a s.heap h' → SetT w h' a (fun j => S j || decide (j = k)) (if S k = true then n else n + 1) → Q .none { s with heap := h', toks := s.toks + 1 }) :
    wpAny (model P w) A (call (.builtin "set.add") [.ref a, .str k u]) Q E s := by
  have hS : s.heap.SetOf (PySem.strKind P w) a S n := R.setOf
  refine wpAny_call_entry F.slot_set_add hS.typeIs F.entry_set_add ?_ (F.args_set_add_2 _ _)
  unfold Builtin.«set.add» Builtin.Frozenset.oneOther
  simp only [List.isEmpty_nil, bind_assoc]
  unfold Builtin.Frozenset.addrOf setAdd
  refine wpAny_bind (wpAny_pure ?_)
  try dsimp only
  refine wpAny_bind (wpAny_pure ?_)
  try dsimp only
  refine wpAny_bind (wpAny_holding (wpAny_bind ((PySem.strKind P w).pyHash (isT k u) ?_)))
  refine setT_hashed (s := { s with toks := s.toks + 1 }) R room fun h' sb r => ?_
  show wpAny _ _ (ret Value.none) _ _ _
  exact wpAny_pure ⟨_, rfl, hQ h' sb r⟩
theorem setT_fresh {h : Heap} (w : World) : SetT w (h.push { cls := .type "set", dict := none, data := .set #[] 0 (.fresh 0 0 (!w.params.followText "set-order")) }) h.objs.size (fun _ => false) 0 :=
  ⟨_, #[], 0, _, Heap.get?_push_size _ rfl, ⟨rfl, rfl, rfl⟩, rfl, (fun e he => by simp at he), (by simp), (fun k => by simp), (by decide), (by rfl), rfl, List.Pairwise.nil, by
    show _ ∨ (!w.params.followText "set-order") = true
    cases w.params.followText "set-order"
    · exact .inr rfl
    · exact .inl rfl⟩
end
/-- the set of texts as a thing of the heap -/
def SetTO (w : World) (a : Addr) (S : Str → Bool) (n : Nat) : HO := .ext fun h => SetT w h a S n
theorem setTO_new {w : World} {P : Program} {H : Hp} {h : Heap} {a : Addr} {S : Str → Bool} {n : Nat} (R : SetT w h a S n) : ObjOk P w H h a (SetTO w a S n) :=
  ⟨R, let ⟨o, _, _, _, ho, _⟩ := R; ⟨o, ho⟩, fun h1 h2 p k => SetT.at p k⟩
section
variable {X : Cx}
theorem setTO_get {pins : List (Addr × Obj)} {σ : L2.St} {H : Hp} {s : Shared} {a : Addr} {S : Str → Bool} {n : Nat} (I : Inv X pins σ H s) (ha : H a = some (SetTO X.w a S n)) : SetT X.w s.heap a S n := (I.hok a _ ha).1
theorem addT_ok {pins : List (Addr × Obj)} {σ : L2.St} {H : Hp} {s : Shared} {E : Value → Shared → Prop} {D : Addr} {S : Str → Bool} {n : Nat} {y : Str} {u : Tok} {Q : Value → Shared → Prop} (I : Inv X pins σ H s) (hD : H D = some (SetTO X.w D S n)) (room : n + 1 < scanBound)
    (h : ∀ s', Inv X pins σ (upd H D (SetTO X.w D (fun j => S j || decide (j = y)) (if S y = true then n else n + 1))) s' → Q .none s') : wpAny (model X.prog X.w) X.A (call (.builtin "set.add") [.ref D, .str y u]) Q E s :=
  setT_add (setTO_get I hD) room fun h' sb new =>
    have he : ∃ o, h'.get? D = some o := let ⟨o, _, _, _, ho, _⟩ := new; ⟨o, ho⟩
    h _ (I.write (e := D) (t' := s.toks + 1) (by rw [hD]; trivial) (.inl rfl) (fun b u hb hu => (sb.2 b hb).trans hu) he (setTO_new new))
end
end G

set_option linter.all false
set_option maxRecDepth 100000
set_option maxHeartbeats 4000000
/-! {text for target in ..}, sorted(a set of texts) -/
namespace G
open PySem PySem.Spec PyProof.Rows L2
/-- the loop of a set comprehension of texts; D: the new set -/
def ScJ (w : World) (J : It) (g : TG) (tt : TT) (te : TE) (vs : List Nat) (σ : L2.St) (H1 : Hp) (Q : VK) : Prop := ∀ D, H1 D = none → ∃ W : Nat → Nat → Hp → Prop, (∃ m, W 0 m (upd H1 D (SetTO w D (fun _ => false) 0))) ∧ ∀ i m H, W i m H →
  (J.stop i H ∧ Q (.ref D) H) ∨ (J.go i H ∧ ∃ Nx : Hp → Prop, (∀ H', Nx H' → ∃ m', m' < m ∧ W (i + 1) m' H') ∧ ∀ x H', J.yld i H x H' → g x (wipe σ vs) H' fun σ2 H2 => wipe σ2 vs = wipe σ vs ∧ tt σ2 H2 fun b H3 =>
    if b = true then te σ2 H3 fun y H4 => ∃ (c : Str) (S : Str → Bool) (n : Nat), y = .str c ∧ H4 D = some (SetTO w D S n) ∧ n + 1 < scanBound ∧ Nx (upd H4 D (SetTO w D (fun j => S j || decide (j = c)) (if S c = true then n else n + 1))) else Nx H3)
def tScT (w : World) (wi : TI) (g : TG) (tt : TT) (te : TE) (vs : List Nat) : TE := fun σ H Q => wi σ H fun J H1 => ScJ w J g tt te vs σ H1 Q
section
variable {X : Cx}
theorem pe_scT {elt tg iter : Expr} {ifs : List Expr} {scope : Scope} {own : List (PySem.Str × Nat)} {pos : Pos} {wi : TI} {g : TG} {tt : TT} {te : TE} (w : World) (hc : X.calm = true) (hN : X.N.Nodup) (hi : PI X tg iter wi) (ok : BlkOk X.N X.env.scope scope own)
    (hg : ∀ (s : Shared) (H : Hp) (C : Addr) (cl : List (PySem.Str × Addr)) (fp : List Addr), PG (X.blk s H scope (compEnvC scope cl C X.env) fp) tg g) (ht : ∀ (s : Shared) (H : Hp) (C : Addr) (cl : List (PySem.Str × Addr)) (fp : List Addr), PTs (X.blk s H scope (compEnvC scope cl C X.env) fp) ifs tt)
    (he : ∀ (s : Shared) (H : Hp) (C : Addr) (cl : List (PySem.Str × Addr)) (fp : List Addr), PE (X.blk s H scope (compEnvC scope cl C X.env) fp) elt te) (hw : X.w = w := by rfl) (hs : ∀ x, foldedSetIterable iter X.env x = pure x := by intro _; rfl) :
    PE X (.SetComp elt [⟨tg, iter, ifs, 0⟩] scope pos) (tScT w wi g tt te (own.map (·.2))) := by
  subst hw
  refine ⟨fun pins s σ H Q I h => ?_⟩
  rw [PpSet.eval_SetComp]
  have hfree : ∀ y ∈ scope.names, y.2 = .free → ∃ c, X.env.cells.lookup y.1 = some c := fun y hy e =>
    (ok.free y hy e).elim (fun k => I.ok.has _ (.inl k)) (fun k => I.ok.has _ (.inr k))
  refine wpAny_comprehension_free (use := none) rfl hs (closure_ok hfree) ok.kind (fun y hy e => by rw [ok.uniq y hy, e])
    (thn (hi.run pins s σ H _ I h) fun xv s1 hx => thn hx fun itv s2 h2 => ?_)
  obtain ⟨it, fp, tn, J, H2, rfl, I2, T, st2, f2, q⟩ := h2
  refine PpSet.newSet_ok (newEnv_comp ?_)
  obtain ⟨D, hD⟩ : ∃ D, s2.heap.objs.size = D := ⟨_, rfl⟩
  have hDn : H2 D = none := I2.hok.fresh (Nat.le_of_eq hD)
  obtain ⟨W, ⟨m0, w0⟩, turn⟩ := q D hDn
  obtain ⟨H3, hH3⟩ : ∃ H3, upd H2 D (SetTO X.w D (fun _ => false) 0) = H3 := ⟨_, rfl⟩
  rw [hH3] at w0
  rw [hD]
  generalize hs3 : ({ s2 with heap := s2.heap.push { cls := .type "set", dict := none, data := .set #[] 0 (.fresh 0 0 (!X.w.params.followText "set-order")) } } : Shared) = s3
  have h3 : s3.heap = s2.heap.push { cls := .type "set", dict := none, data := .set #[] 0 (.fresh 0 0 (!X.w.params.followText "set-order")) } := by rw [← hs3]
  have I3 : Inv X pins σ H3 s3 := by
    rw [← hH3, ← hs3]
    refine I2.laid (t' := s2.toks) (fun b o e => Heap.get?_push_of_some _ e) (Nat.le_of_eq hD) ?_
    rw [← hD]
    exact setTO_new (setT_fresh X.w)
  -- the iterator's own cells stay apart
  have f3 : ∀ b ∈ fp, FpOk X pins H3 b ∧ b < s3.heap.objs.size := fun b hb => by
    obtain ⟨o, e, _⟩ := T.obj _ _ st2 b hb
    have hlt := Heap.lt_size e
    refine ⟨⟨?_, (f2 b hb).2⟩, by rw [h3, Heap.size_push]; exact Nat.lt_succ_of_lt hlt⟩
    rw [← hH3, upd_ne (by rw [← hD]; exact Nat.ne_of_lt hlt)]
    exact (f2 b hb).1
  have st3 : tn 0 s3.heap := T.keep _ _ _ st2 fun b _ o e => by rw [h3]; exact Heap.get?_push_of_some _ e
  have I4 := block_start I3 ok hN f3
  have pg := hg s3 H3 s3.heap.objs.size (cellsFrom (s3.heap.objs.size + 1) scope.names (cloFrom X.env.cells scope.names [])) fp
  have pt := ht s3 H3 s3.heap.objs.size (cellsFrom (s3.heap.objs.size + 1) scope.names (cloFrom X.env.cells scope.names [])) fp
  have pe := he s3 H3 s3.heap.objs.size (cellsFrom (s3.heap.objs.size + 1) scope.names (cloFrom X.env.cells scope.names [])) fp
  show codeAny _ _ (.compStart (.SetComp elt [⟨tg, iter, ifs, 0⟩] scope pos) 0 (.ref it) (.ref D) (compEnvC scope (cellsFrom (s3.heap.objs.size + 1) scope.names (cloFrom X.env.cells scope.names [])) s3.heap.objs.size X.env)) (compPost (model X.prog X.w) X.A X.xe none _ (.ref D) s3.heap.objs.size) { s3 with heap := pushCells (s3.heap.push { cls := .type "dict", data := .dict #[] }) scope.names }
  have nfp : ∀ b ∈ fp, H3 b = none := fun b hb => (f3 b hb).1.1
  generalize hce : compEnvC scope (cellsFrom (s3.heap.objs.size + 1) scope.names (cloFrom X.env.cells scope.names [])) s3.heap.objs.size X.env = ce at I4 pg pt pe ⊢
  have cL : ce.locals = s3.heap.objs.size := by subst hce; rfl
  generalize hs4 : ({ s3 with heap := pushCells (s3.heap.push { cls := .type "dict", data := .dict #[] }) scope.names } : Shared) = s4 at I4 ⊢
  have st4 : tn 0 s4.heap := T.keep _ _ _ st3 fun b _ o e => by rw [← hs4]; exact pushCells_keeps _ _ _ _ (Heap.get?_push_of_some _ e)
  have stat : ∀ {σ' : L2.St} {H' : Hp} {s' : Shared}, Inv (X.blk s3 H3 scope ce fp) [] σ' H' s' → (∀ b ∈ fp, H' b = none) → ∀ b ∈ fp, FpOk (X.blk s3 H3 scope ce fp) [] H' b := fun {σ' H' s'} I' hn b hb =>
    ⟨hn b hb, (I'.ok.exf b hb).1, I'.ok.exfs b hb, .inl hb, fun x c e => (I'.ok.exf b hb).2 x c e, fun p hp => absurd (show p ∈ ([] : List (Addr × Obj)) ++ [] from hp) (by simp)⟩
  suffices loop : codeAny (model X.prog X.w) X.A (.compLoop (.SetComp elt [⟨tg, iter, ifs, 0⟩] scope pos) 0 (.ref it) (.ref D) ce) (compPost (model X.prog X.w) X.A X.xe none _ (.ref D) s3.heap.objs.size) s4 from PpSet.codeAny_compStart_set loop (T.self X.A 0 _ _ _ st4 loop)
  refine PpSet.compLoopS_any (fun n s' => ∃ i H', Inv (X.blk s3 H3 scope ce fp) [] (wipe σ (own.map (·.2))) H' s' ∧ tn i s'.heap ∧ (∀ b ∈ fp, H' b = none) ∧ W i n H') ?_ m0 ⟨0, H3, I4, st4, nfp, w0⟩
  rintro n s5 ⟨i, H5, I5, st5, n5, w5⟩
  rcases turn i n H5 w5 with ⟨stop, qq⟩ | ⟨go, Nx, hNx, step⟩
  · refine thnF (T.done (X.blk s3 H3 scope ce fp) rfl rfl rfl hc i [] s5 _ H5 (fun _ _ => False) I5 (stat I5 n5) st5 stop) fun r s6 ⟨hr, I6⟩ => ?_
    subst hr
    have I7 : Inv X pins σ H5 s6 := I3.call' (ch := fp) I6.os I6.base I6.hok I6.bare fun b hb => ⟨(f3 b hb).1.2.2.2.1, (f3 b hb).1.2.1, (f3 b hb).1.2.2.2.2.1, (f3 b hb).1.2.2.2.2.2⟩
    have nC : H5 s3.heap.objs.size = none := cL ▸ (I6.free : H5 ce.locals = none)
    obtain ⟨m, hn, _⟩ := I6.loc
    have hn : s6.heap.Ns s3.heap.objs.size m := cL ▸ (hn : s6.heap.Ns ce.locals m)
    obtain ⟨f0, f1, f2', f3', f4, f5⟩ := I3.fpOk (Nat.le_refl _) nC
    exact ⟨m, hn, fun h'' sb => ⟨.ref D, H5, I7.turned (t' := s6.toks) (fun b o hb e => (sb.2 b hb).trans e) f0 f1 f3' f4 f5, rfl, qq⟩⟩
  · refine thnF (T.item (X.blk s3 H3 scope ce fp) rfl rfl rfl hc i [] s5 _ H5 (fun _ _ => False) I5 (stat I5 n5) st5 go) fun r s6 ⟨u, hr, h6⟩ => ?_
    subst hr
    refine thnF h6 fun _ s7 ⟨x, H7, I7, r7, y7, st7, n7⟩ => ?_
    have I7' := I7.pinned (stat I7 n7) (T.obj _ _ st7)
    refine thnF (pg.run _ s7 _ H7 x u _ I7' r7 (step x H7 y7)) fun _ s8 ⟨σ8, H8, I8, hw8, q8⟩ => ?_
    refine thnF (pt.run _ s8 σ8 H8 _ I8 q8) fun b s9 ⟨H9, I9, q9⟩ => ?_
    have fin : ∀ {s' : Shared} {H' : Hp}, Inv (X.blk s3 H3 scope ce fp) ([] ++ pinsAt fp s7.heap) σ8 H' s' → Nx H' → ∃ m, m < n ∧ ∃ i H', Inv (X.blk s3 H3 scope ce fp) [] (wipe σ (own.map (·.2))) H' s' ∧ tn i s'.heap ∧ (∀ b ∈ fp, H' b = none) ∧ W i m H' := fun {s' H'} I' nx => by
      obtain ⟨m', hm, w'⟩ := hNx H' nx
      have pin' : ∀ b ∈ fp, ∀ o, s7.heap.get? b = some o → s'.heap.get? b = some o ∧ H' b = none := fun b hb o e =>
        let z := I'.pin (b, o) (List.mem_append_right _ (List.mem_append_right _ (mem_pinsAt hb e)))
        ⟨z.1, z.2.1⟩
      refine ⟨m', hm, i + 1, H', (I'.unpinned (pins := [])).weak (by rw [← hw8, wipe_length]) (fun j v e => (wipe_some (hw8 ▸ e)).1), T.keep _ _ _ st7 fun b hb o e => (pin' b hb o e).1, fun b hb => ?_, w'⟩
      obtain ⟨o, e, _⟩ := T.obj _ _ st7 b hb
      exact (pin' b hb o e).2
    cases b with
    | false =>
      simp only [Bool.false_eq_true, if_false] at q9 ⊢
      exact fin I9 q9
    | true =>
      simp only [if_true] at q9 ⊢
      refine thnF (pe.run _ s9 σ8 H9 _ I9 q9) fun z s10 ⟨yv, H10, I10, r10, cb, S0, n0, ey, hD10, hz10, nx⟩ => ?_
      subst ey
      obtain ⟨tk, ez⟩ : ∃ tk, z = Value.str cb tk := r10
      subst ez
      exact addT_ok (X := X.blk s3 H3 scope ce fp) I10 hD10 hz10 fun s11 I11 => fin I11 nx
end

/-- what a turn hands on is put into the new set -/
def rScA (w : World) (D : Addr) (y : V) (H : Hp) (R : Hp → Prop) : Prop := ∃ (c : Str) (S : Str → Bool) (n : Nat), y = .str c ∧ H D = some (SetTO w D S n) ∧ n + 1 < scanBound ∧ R (upd H D (SetTO w D (fun j => S j || decide (j = c)) (if S c = true then n else n + 1)))
section
variable {H0 H : Hp} {ft : List Addr} {l : List Cell} {t : Nat} {a p : Addr} {σ : L2.St} {Q : VK} {w : World}
theorem x_sc {wi : TI} {g : TG} {tt : TT} {te : TE} {vs : List Nat} (h : wi σ H fun J H1 => ScJ w J g tt te vs σ H1 Q) : tScT w wi g tt te vs σ H Q := h
theorem scW {J : It} {n : Nat} {G : Hp → Prop} {Y : Nat → Hp → V → Hp → Prop} (wk : Walk J n G Y) {g : TG} {tt : TT} {te : TE} {vs : List Nat} (S : Sep H0 ft H l)
    (h : ∀ D H1, Sep H0 ft H1 ((2, D, SetTO w D (fun _ => false) 0) :: l) → ∃ Pv : Nat → Hp → Prop, Pv 0 H1 ∧ (∀ i H, i ≤ n → Pv i H → G H) ∧
      (∀ i x H H', i < n → Pv i H → Y i H x H' → g x (wipe σ vs) H' fun σ2 H2 => wipe σ2 vs = wipe σ vs ∧ tt σ2 H2 fun b H3 => if b = true then te σ2 H3 fun y H4 => rScA w D y H4 (Pv (i + 1)) else Pv (i + 1) H3) ∧
      ∀ H, Pv n H → Q (.ref D) H) : ScJ w J g tt te vs σ H Q := fun D hD => by
  obtain ⟨Pv, h0, hG, hs, hd⟩ := h D _ (S.new hD (SetTO w D (fun _ => false) 0))
  refine ⟨fun i m H => m = n - i ∧ i ≤ n ∧ Pv i H, ⟨n, (Nat.sub_zero n).symm, Nat.zero_le _, h0⟩, ?_⟩
  rintro i m H ⟨rfl, hi, p⟩
  have q := hG i H hi p
  rcases Nat.lt_or_ge i n with hlt | hge
  · exact .inr ⟨wk.goes i H hlt q, Pv (i + 1), fun H' p' => ⟨n - (i + 1), by omega, rfl, hlt, p'⟩, fun x H' y => hs i x H H' hlt p (wk.yields i H x H' hlt q y)⟩
  · obtain rfl := Nat.le_antisymm hi hge
    exact .inl ⟨wk.stops H q, hd H p⟩
theorem x_scadd {c : Str} {S' : Str → Bool} {m : Nat} {R : Hp → Prop} (S : Sep H0 ft H l) (n : Nat) (h : l[n]? = some (t, p, SetTO w p S' m)) (hl : m < 1000) (q : ∀ H', Sep H0 ft H' (l.set n (t, p, SetTO w p (fun j => S' j || decide (j = c)) (if S' c = true then m else m + 1))) → R H') (ht : t = 1 ∨ t = 2 := by first | exact .inl rfl | exact .inr rfl) :
    rScA w p (.str c) H R := ⟨c, S', m, rfl, S.get n h, Nat.lt_of_lt_of_le (Nat.succ_lt_succ hl) (by decide), q _ (S.put n _ h ht)⟩
end
/-- a set's members, as a list without repeats -/
def MemOf (S : Str → Bool) (l : List Str) : Prop := l.Nodup ∧ ∀ k, S k = true ↔ k ∈ l
theorem MemOf.nil : MemOf (fun _ => false) [] := ⟨List.nodup_nil, fun k => ⟨fun z => absurd z Bool.false_ne_true, fun z => nomatch z⟩⟩
theorem MemOf.add {S : Str → Bool} {l : List Str} (h : MemOf S l) (c : Str) : ∃ l', MemOf (fun j => S j || decide (j = c)) l' ∧ l'.length = (if S c = true then l.length else l.length + 1) ∧ ∀ k, k ∈ l' ↔ (k ∈ l ∨ k = c) := by
  by_cases q : S c = true
  · refine ⟨l, ⟨h.1, fun k => ?_⟩, by rw [if_pos q], fun k => ⟨.inl, fun z => z.elim id fun e => e ▸ (h.2 c).mp q⟩⟩
    rw [Bool.or_eq_true, decide_eq_true_eq, h.2 k]
    exact ⟨fun z => z.elim id fun e => e ▸ (h.2 c).mp q, .inl⟩
  · refine ⟨c :: l, ⟨List.nodup_cons.mpr ⟨fun z => q ((h.2 c).mpr z), h.1⟩, fun k => ?_⟩, by rw [if_neg q]; rfl, fun k => by rw [List.mem_cons]; exact Or.comm⟩
    rw [Bool.or_eq_true, decide_eq_true_eq, h.2 k, List.mem_cons]
    exact Or.comm
/-! sorted(a set of texts) -/
theorem texts_of {w : World} : ∀ (es : List (Int × Value)), (∀ e ∈ es, GoodT w e) → StrsAre (es.map (·.2)) (es.map keyT)
  | [], _ => .nil
  | e :: es, h => by
    obtain ⟨k, u, h1, _⟩ := h e List.mem_cons_self
    have e0 : keyT e = k := by unfold keyT; rw [h1]
    rw [List.map_cons, List.map_cons, h1, e0]
    exact .cons k u (texts_of es fun x hx => h x (List.mem_cons_of_mem _ hx))
theorem strs_perm0 {vs us : List Value} (hp : vs.Perm us) : ∀ {ss : List Str}, StrsAre vs ss → ∃ rs, StrsAre us rs ∧ rs.Perm ss := by
  induction hp with
  | nil => intro ss h; exact ⟨ss, h, List.Perm.refl _⟩
  | cons x _ ih =>
    intro ss h
    cases h with
    | cons n t hr => obtain ⟨rs, a, b⟩ := ih hr; exact ⟨n :: rs, .cons n t a, b.cons n⟩
  | swap x y l =>
    intro ss h
    cases h with
    | cons n t hr => cases hr with
      | cons n2 t2 hr2 => exact ⟨n2 :: n :: _, .cons n2 t2 (.cons n t hr2), List.Perm.swap _ _ _⟩
  | trans _ _ ih1 ih2 =>
    intro ss h
    obtain ⟨rs, a, b⟩ := ih1 h
    obtain ⟨qs, c, d⟩ := ih2 a
    exact ⟨qs, c, d.trans b⟩
theorem strs_perm {vs us : List Value} {ss : List Str} (hS : StrsAre vs ss) (hp : us.Perm vs) : ∃ rs, StrsAre us rs ∧ rs.Perm ss := strs_perm0 hp.symm hS
theorem inv_laidG {X : Cx} {pins : List (Addr × Obj)} {σ : L2.St} {H : Hp} {s s' : Shared} {p : Addr} {v : HO} (I : Inv X pins σ H s) (k : ∀ b u, s.heap.get? b = some u → s'.heap.get? b = some u) (hz : s.heap.objs.size ≤ p) (g : s'.gens = s.gens) (o : s'.os = s.os) (new : ObjOk X.prog X.w (upd H p v) s'.heap p v) : Inv X pins σ (upd H p v) s' := by
  have hn : H p = none := I.hok.fresh hz
  have J : Inv X pins σ (upd H p v) { s with heap := s'.heap, gens := s'.gens, drawn := s'.drawn, toks := s'.toks } :=
    I.call (ch := []) (Un.laid k hz hn) (I.hok.laid k hz new) (by rw [g]; exact I.bare) (fun _ z => nomatch z)
  have e : s' = { s with heap := s'.heap, gens := s'.gens, drawn := s'.drawn, toks := s'.toks } := by
    cases s'
    cases s
    cases o
    rfl
  rw [e]; exact J
def rSortT (w : World) : List V → Hp → VK → Prop := fun xs H Q => ∃ (a : Addr) (S : Str → Bool) (n : Nat), xs = [.ref a] ∧ H a = some (SetTO w a S n) ∧ n < 64 ∧
    ∀ ys p, ys.Nodup → (∀ k, k ∈ ys ↔ S k = true) → sortedS ys = true → ys.length = n → H p = none → Q (.ref p) (upd H p (.lst (ys.map V.str)))
theorem cl_sortSet {X : Cx} (w : World) (hcalm : X.calm = true) (hw : X.w = w) : CallR X (.builtin "sorted") (rSortT w) := by
  subst hw
  intro pins s σ H xs us Q I r q
  obtain ⟨a, S, n, ex, hd0, h64, q⟩ := q
  subst ex
  obtain ⟨u, eu, rx⟩ := vals1 r
  subst eu
  cases rx
  obtain ⟨o, es, ep, t, ho, hex, hd, g, nd, hm, hb, hf, hn, hr, hl⟩ := setTO_get I hd0
  refine Calls.call_function_entry PyProof.Rows.kind_sorted PyProof.Rows.plain_sorted PyProof.Rows.entry_sorted (PyProof.Rows.args_sorted1 _) ?_
  unfold Builtin.«sorted»
  refine wpAny_bind (m := checkCount "sorted" 1 1 _) (wpAny_pure ?_)
  refine wpAny_bind (collect_set (A := X.A.in1) (I.ok.hd hcalm) ⟨o, ho, hex.1, hd⟩ hf hb hr hl fun s1 vs k1 hz g1 o1 pm => ?_)
  obtain ⟨ks, hS, hkp⟩ := strs_perm (texts_of es.toList g) pm
  have hal : vs.length = n := by rw [pm.length_eq, List.length_map, Array.length_toList]; exact hn
  refine wpAny_bind (wpAny_newList ?_ (by rw [hal, sizeLine_eq]; omega))
  have hoL : (s1.heap.push (seqObj "list" vs.toArray 0)).get? s1.heap.objs.size = some (seqObj "list" vs.toArray 0) := Heap.get?_push_size _ rfl
  refine wpAny_bind (wpAny_holding (wpAny_call_entry PyProof.Rows.slot_list_sort ⟨_, hoL, rfl⟩ PyProof.Rows.entry_list_sort
    (list_sort_treeK strKind_oneLt hoL hS.keysOf (fun v₁ v₂ rest e => keyKind_strs (by rw [← e]; exact hS)) (by rw [hal]; exact h64) fun st' hp hs => ⟨_, rfl, ?_⟩)
    (PyProof.Rows.args_list_sort _)))
  obtain ⟨ys, z1, z2, z3⟩ := sorted_out_str hS hp hs
  obtain ⟨e', he'⟩ := PyProof.Rows.sortedHeap_at (vs := vs) (out := (arrOf st').map (·.2)) hoL
  have z4 : ys.Perm (es.toList.map keyT) := z2.trans hkp
  have hyl : ys.length = n := by rw [z4.length_eq, List.length_map, Array.length_toList]; exact hn
  have hold : ∀ b u, s.heap.get? b = some u → (sortedHeap (s1.heap.push (seqObj "list" vs.toArray 0)) s1.heap.objs.size vs ((arrOf st').map (·.2))).get? b = some u := fun b u e => by
    have q9 := k1 b u e
    have hlt := Heap.lt_size q9
    rw [PyProof.Rows.sortedHeap_old (Nat.ne_of_lt hlt) (by rw [size_push']; exact Nat.lt_succ_of_lt hlt)]
    exact Heap.get?_push_of_some _ q9
  refine wpAny_pure ⟨_, rfl, .ref s1.heap.objs.size, upd H s1.heap.objs.size (.lst (ys.map V.str)), ?_, rfl, q ys _ (z4.nodup_iff.mpr nd) (fun k => by rw [z4.mem_iff]; exact (hm k).symm) z3 hyl (I.hok.fresh hz)⟩
  exact (inv_laidG (p := s1.heap.objs.size) I hold hz g1 o1 (show ObjOk X.prog X.w _ _ _ (.lst (ys.map V.str)) from ⟨by rw [List.length_map, hyl, sizeLine_eq]; omega, ((arrOf st').map (·.2)).toList, e', vals_of_strs z1, by rw [Array.toArray_toList]; exact he'⟩))

/-- two risings of the same texts are one -/
theorem cps_eq {a b : Str} (h : a.cps.toList = b.cps.toList) : a = b := by cases a; cases b; congr; exact Array.toList_inj.mp h
theorem ris_pair : ∀ (l : List Str) (p : Str), risingS p l = true → (p :: l).Pairwise (fun a b => ¬ b.cps.toList < a.cps.toList)
  | [], p, _ => List.pairwise_singleton _ _
  | x :: r, p, h => by
    unfold risingS at h
    rw [Bool.and_eq_true, Bool.not_eq_true', ltCps_eq, decide_eq_false_iff_not] at h
    have ih := ris_pair r x h.2
    refine List.pairwise_cons.mpr ⟨fun y hy => ?_, ih⟩
    rcases List.mem_cons.mp hy with rfl | hy
    · exact h.1
    · have h2 := (List.pairwise_cons.mp ih).1 y hy
      exact fun z => absurd (Std.lt_of_lt_of_le z (List.not_lt.mp h.1)) h2
theorem sorted_pair {l : List Str} (h : sortedS l = true) : l.Pairwise (fun a b => ¬ b.cps.toList < a.cps.toList) := by
  cases l with
  | nil => exact List.Pairwise.nil
  | cons x r => exact ris_pair r x h
theorem sorted_one {a b : List Str} (p : a.Perm b) (ha : sortedS a = true) (hb : sortedS b = true) : a = b :=
  List.Perm.eq_of_pairwise (fun x y _ _ h1 h2 => cps_eq (List.le_antisymm (List.not_lt.mp h1) (List.not_lt.mp h2))) (sorted_pair ha) (sorted_pair hb) p
theorem sorted_oneI {a b : List Int} (p : a.Perm b) (ha : a.Pairwise (· ≤ ·)) (hb : b.Pairwise (· ≤ ·)) : a = b := List.Perm.eq_of_pairwise (fun x y _ _ h1 h2 => by omega) ha hb p
theorem perm_of_mem {a b : List Str} (ha : a.Nodup) (hb : b.Nodup) (h : ∀ k, k ∈ a ↔ k ∈ b) : a.Perm b := (List.perm_ext_iff_of_nodup ha hb).mpr h
end G

set_option linter.all false
set_option maxRecDepth 100000
set_option maxHeartbeats 4000000
/-! len(o) by an own __len__, dict(pairs), sorted(dict), what leaves a table as data -/
namespace G
open PySem PySem.Spec PyProof.Rows L2
/-- len(o) of an instance whose class has __len__ -/
def rLenOwn (C : Addr) (sp : Sp) (E : XK) : List V → Hp → VK → Prop := fun xs H Q => ∃ a dx fs, xs = [.ref a] ∧ H a = some (.ins C dx fs) ∧ sp [.ref a] H (fun z H' => ∃ n : Nat, z = .int n ∧ n < 1000000 ∧ Q z H') E
theorem cl_lenOwn {X : Cx} {CX : CXT} {k j : Nat} {C : Addr} {sp : Sp} {E : XK} (c : Met X.prog X.w X.K X.mg X.base CX k C "__len__" sp) (hr : Room j X.A) (hk : k + 1 ≤ j) (hx : Passes CX X E) : CallR X (.builtin "len") (rLenOwn C sp E) := by
  obtain ⟨f, fd, ps, hc, hm, F, b⟩ := c.ex
  intro pins s σ H xs us Q I r h
  obtain ⟨a, dx, fs, rfl, ha, q⟩ := h
  obtain ⟨u, rfl, ru⟩ := vals1 r
  cases (show u = Value.ref a from ru)
  obtain ⟨mA, J, _⟩ := ins_get I.hok ha
  obtain ⟨od, J, _⟩ := J.look
  have hl := F.len _ _ _ _ q
  have hr1 : Room k X.A.in1 := (hr.mono hk).in1
  have r2 : Vals [V.ref a] [Value.ref a] := .cons rfl .nil
  refine Calls.call_function_entry kind_len plain_len entry_len (args_len1 _) ?_
  unfold Builtin.«len»
  refine wpAny_bind (m := oneArg "len" _) (wpAny_pure ?_)
  refine wpAny_bind (m := callSpecial? (.ref a) (PySem.Str.ofString "__len__")) (PySem.W.special_fn I.kIn J hm.at_ (beq_iff_eq.mp hm.fn) (wpAny_call (codeAny_mono (F.run X.A.in1 X.stack s H ⟨[.ref a], []⟩ [.ref a] [.ref a] _ E hr1 I.env0.in1 (by
    have := b s [.ref a] I.kIn (by simpa using hl)
    simpa using this) r2 q) fun r s' hq => ?_)))
  cases r with
  | error e => exact hx pins σ H s e s' I hq
  | ok fl =>
    cases fl with
    | ret u =>
      obtain ⟨v, H', I', rv, n, rfl, hn, q2⟩ := I.after hq
      obtain ⟨t, e⟩ := (show ∃ t, u = Value.int n t from rv)
      cases e
      refine wpAny_bind (wpAny_holding (wpAny_pure ?_))
      refine wpAny_bind (wpAny_letGo ?_)
      show wpAny _ _ (if ((n : Nat) : Int) < 0 then _ else _) _ _ _
      rw [if_neg (by omega)]
      show wpAny _ _ (if ((n : Nat) : Int) ≥ 2 ^ 63 then _ else _) _ _ _
      rw [if_neg (by omega)]
      exact wpAny_bind (wpAny_mkInt (wpAny_pure ⟨_, rfl, .int n, H', I'.tok _, ⟨_, rfl⟩, q2⟩))
    | next => exact False.elim hq
    | brk => exact False.elim hq
    | cont => exact False.elim hq
section
variable {H0 H : Hp} {ft : List Addr} {l : List Cell} {t : Nat} {p : Addr} {Q : VK} {w : World} {K : PySem.W.Frag}
theorem x_lenDT {kvs : List (List Key × V)} (S : Sep H0 ft H l) (n : Nat) (h : l[n]? = some (t, p, .dT kvs)) (q : Q (.int ((kvs.length : Nat) : Int)) H) : rLenT [.ref p] H Q := ⟨p, kvs, rfl, S.get n h, q⟩
theorem x_sortSet {S' : Str → Bool} {m : Nat} (S : Sep H0 ft H l) (n : Nat) (h : l[n]? = some (t, p, SetTO w p S' m)) (hm : m < 64) (q : ∀ ys r H', ys.Nodup → (∀ k, k ∈ ys ↔ S' k = true) → sortedS ys = true → ys.length = m → Sep H0 ft H' ((2, r, .lst (ys.map V.str)) :: l) → Q (.ref r) H') : rSortT w [.ref p] H Q :=
  ⟨p, S', m, rfl, S.get n h, hm, fun ys r h1 h2 h3 h4 hr => q ys r _ h1 h2 h3 h4 (S.new hr _)⟩
/-! dict(a list of pairs), sorted of it -/
def rDictP (K : PySem.W.Frag) : List V → Hp → VK → Prop := fun xs H Q => ∃ (a : Addr) (ps : List Addr) (kvs : List (Key × V)), xs = [.ref a] ∧ SqL K H a (ps.map V.ref) ∧ Paired (fun p kv => SqT K H p [kV kv.1, kv.2]) ps kvs ∧
    ∀ p, H p = none → Q (.ref p) (upd H p (.dK (mergeK [] kvs)))
theorem cl_dictPK {X : Cx} (K : PySem.W.Frag) (hc : X.calm = true) (h : X.K = K := by rfl) : CallR X (.type "dict") (rDictP K) := by subst h; exact call_dictP hc
def rSortD : List V → Hp → VK → Prop := fun xs H Q => ∃ (a : Addr) (kvs : List (Key × V)) (ks : List Str), xs = [.ref a] ∧ Rd H a (.dK kvs) ∧ kvs.map (·.1) = ks.map Sum.inr ∧ ks.length < 64 ∧
    ∀ ys p, ys.Perm ks → sortedS ys = true → H p = none → Q (.ref p) (upd H p (.lst (ys.map V.str)))
theorem cl_sortD {X : Cx} (hc : X.calm = true) : CallR X (.builtin "sorted") rSortD := call_sortedD hc
theorem x_sortD {kvs : List (Key × V)} {ks : List Str} (S : Sep H0 ft H l) (n : Nat) (h : l[n]? = some (t, p, .dK kvs)) (hk : kvs.map (·.1) = ks.map Sum.inr) (hl : ks.length < 64) (q : ∀ ys r H', ys.Perm ks → sortedS ys = true → Sep H0 ft H' ((2, r, .lst (ys.map V.str)) :: l) → Q (.ref r) H') : rSortD [.ref p] H Q :=
  ⟨p, kvs, ks, rfl, .of (S.get n h), hk, hl, fun ys r h1 h2 hr => q ys r _ h1 h2 (S.new hr _)⟩
theorem x_dictP {us : List (Addr × Str)} {v : V} (S : Sep H0 ft H l) (n : Nat) (h : l[n]? = some (t, p, .lst (us.map fun u => V.ref u.1))) (hu : ∀ u ∈ us, (2, u.1, HO.tup [.str u.2, v]) ∈ l)
    (q : ∀ r H', Sep H0 ft H' ((2, r, .dK (mergeK [] (us.map fun u => ((.inr u.2 : Key), v)))) :: l) → Q (.ref r) H') : rDictP K [.ref p] H Q := by
  refine ⟨p, us.map (·.1), us.map fun u => ((.inr u.2 : Key), v), rfl, ?_, ?_, fun r hr => q r _ (S.new hr _)⟩
  · rw [List.map_map]; exact S.sl n h
  · clear h q
    induction us with
    | nil => exact .nil
    | cons u us ih => exact .cons (.of (S.rd _ (hu u List.mem_cons_self))) (ih fun x hx => hu x (List.mem_cons_of_mem _ hx))
end
theorem mem_keysD {v : V} : ∀ (ns : List Str) (acc : List (Key × V)) (ds : List Str), acc.map (·.1) = ds.map Sum.inr → ds.Nodup →
    ∃ es : List Str, (mergeK acc (ns.map fun s => ((.inr s : Key), v))).map (·.1) = es.map Sum.inr ∧ es.Nodup ∧ (∀ k, k ∈ es ↔ (k ∈ ds ∨ k ∈ ns)) ∧ es.length ≤ ds.length + ns.length
  | [], acc, ds, e, nd => ⟨ds, e, nd, fun k => ⟨.inl, fun z => z.elim id fun z => nomatch z⟩, Nat.le_refl _⟩
  | n :: ns, acc, ds, e, nd => by
    have hk := keys_put (.inr n : Key) v acc
    have key : ∃ ds' : List Str, (putK acc (.inr n : Key) v).map (·.1) = ds'.map Sum.inr ∧ ds'.Nodup ∧ (∀ k, k ∈ ds' ↔ (k ∈ ds ∨ k = n)) ∧ ds'.length ≤ ds.length + 1 := by
      rw [hk]
      by_cases c : (acc.any fun kv => decide (kv.1 = (.inr n : Key))) = true
      · rw [if_pos c]
        obtain ⟨x, hx, hx2⟩ := List.any_eq_true.mp c
        have hn : n ∈ ds := by
          have m : x.1 ∈ acc.map (·.1) := List.mem_map.mpr ⟨x, hx, rfl⟩
          rw [e, of_decide_eq_true hx2] at m
          obtain ⟨y, hy, ey⟩ := List.mem_map.mp m
          cases ey; exact hy
        exact ⟨ds, e, nd, fun k => ⟨.inl, fun z => z.elim id fun z => z ▸ hn⟩, Nat.le_succ _⟩
      · rw [if_neg c]
        have hn : n ∉ ds := fun hm => c (by
          have m : (Sum.inr n : Key) ∈ acc.map (·.1) := by rw [e]; exact List.mem_map.mpr ⟨n, hm, rfl⟩
          obtain ⟨x, hx, ex⟩ := List.mem_map.mp m
          exact List.any_eq_true.mpr ⟨x, hx, decide_eq_true ex⟩)
        refine ⟨ds ++ [n], by rw [e, List.map_append]; rfl, ?_, fun k => by rw [List.mem_append, List.mem_singleton], by rw [List.length_append]; exact Nat.le_refl _⟩
        exact List.nodup_append.mpr ⟨nd, (List.nodup_cons.mpr ⟨List.not_mem_nil, List.nodup_nil⟩), fun a ha b hb z => hn (by rw [← List.mem_singleton.mp hb, ← z]; exact ha)⟩
    obtain ⟨ds', e', nd', m', l'⟩ := key
    obtain ⟨es, h1, h2, h3, h4⟩ := mem_keysD ns (putK acc (.inr n : Key) v) ds' e' nd'
    refine ⟨es, h1, h2, fun k => ?_, by rw [List.length_cons]; omega⟩
    rw [h3 k, m' k, List.mem_cons]
    constructor
    · rintro ((a | a) | a); exact .inl a; exact .inr (.inl a); exact .inr (.inr a)
    · rintro (a | a | a); exact .inl (.inl a); exact .inl (.inr a); exact .inr a
theorem keysD {v : V} (us : List (Addr × Str)) : ∃ es : List Str, (mergeK [] (us.map fun u => ((.inr u.2 : Key), v))).map (·.1) = es.map Sum.inr ∧ es.Nodup ∧ (∀ k, k ∈ es ↔ k ∈ us.map (·.2)) ∧ es.length ≤ us.length := by
  obtain ⟨es, h1, h2, h3, h4⟩ := mem_keysD (v := v) (us.map (·.2)) [] [] rfl List.nodup_nil
  rw [List.map_map] at h1
  refine ⟨es, h1, h2, fun k => ?_, by rw [List.length_map] at h4; simpa using h4⟩
  rw [h3 k]
  exact ⟨fun z => z.elim (fun z => nomatch z) id, .inr⟩
/-! what leaves, as data -/
/-- all there is data told by cells, no deeper than n -/
def ThN (n : Nat) (L : List Cell) (tk : List (List Key × V)) : Prop := ∀ k v, valV tk k = some v → ∃ d, DpL L v d ∧ PlainD n d
theorem ThN.nil {n : Nat} {L : List Cell} : ThN n L [] := fun _ _ h => nomatch h
theorem ThN.mono {n : Nat} {L L' : List Cell} {tk : List (List Key × V)} (h : ThN n L tk) (hL : ∀ c ∈ L, c ∈ L') : ThN n L' tk := fun k v e => let ⟨d, h1, h2⟩ := h k v e; ⟨d, h1.mono hL, h2⟩
theorem ThN.put {n : Nat} {L : List Cell} {tk : List (List Key × V)} (h : ThN n L tk) {k : List Key} {v : V} {d : PyData} (hd : DpL L v d) (hp : PlainD n d) : ThN n L (putK tk k v) := fun j u e => by
  rw [valV_put] at e
  by_cases q : j = k
  · rw [if_pos q] at e; cases e; exact ⟨d, hd, hp⟩
  · rw [if_neg q] at e; exact h j u e
theorem valV_out {s : Str} {al : Bool} {fl : Int} {k : List Key} {v : V} : ∀ (t : List (List Key × V)), valV (tkOut s al fl t) k = some v → valV t k = some v
  | [], e => e
  | p :: r, e => by
    unfold tkOut at e
    by_cases c : (!goes s al fl p.1) = true
    · rw [List.filter_cons_of_pos (p := fun kv : List Key × V => !goes s al fl kv.1) c] at e
      by_cases z : p.1 = k
      · rw [valV_pos z] at e ⊢; exact e
      · rw [valV_neg z] at e ⊢; exact valV_out r e
    · rw [List.filter_cons_of_neg (p := fun kv : List Key × V => !goes s al fl kv.1) c] at e
      by_cases z : p.1 = k
      · have m := (List.mem_filter.mp (mem_of_valV e)).2
        rw [z] at c
        exact absurd m c
      · rw [valV_neg z]; exact valV_out r e
theorem ThN.out {n : Nat} {L : List Cell} {tk : List (List Key × V)} (h : ThN n L tk) (s : Str) (al : Bool) (fl : Int) : ThN n L (tkOut s al fl tk) := fun k v e => h k v (valV_out tk e)
/-- data by keys -/
theorem ThN.fn {n : Nat} {L : List Cell} {tk : List (List Key × V)} (h : ThN n L tk) : ∃ f : List Key → PyData, ∀ k v, valV tk k = some v → DpL L v (f k) ∧ PlainD n (f k) := by
  classical
  refine ⟨fun k => if c : ∃ d, ∃ v, valV tk k = some v ∧ DpL L v d ∧ PlainD n d then c.choose else .none, fun k v e => ?_⟩
  have c : ∃ d, ∃ v, valV tk k = some v ∧ DpL L v d ∧ PlainD n d := let ⟨d, h1, h2⟩ := h k v e; ⟨d, v, e, h1, h2⟩
  dsimp only
  rw [dif_pos c]
  obtain ⟨v', e', h'⟩ := c.choose_spec
  rw [e] at e'
  cases e'
  exact h'
/-- the pairs that leave, as data -/
def goneD (f : List Key → PyData) (s : Str) (g : List Int) : List PyData := g.map fun n => .tuple [.int n, f (kSN s n)]
theorem GoneIn.data {H : Hp} {L : List Cell} {s : Str} {tk : List (List Key × V)} {f : List Key → PyData} (hL : ∀ c ∈ L, H c.2.1 = some c.2.2) (hf : ∀ k v, valV tk k = some v → DpH H v (f k)) : ∀ {g : List Int} {ws : List V}, GoneIn L s tk g ws → DpHs H ws (goneD f s g)
  | _, _, .nil => .nil
  | _, _, .cons ⟨a, v, h1, h2, h3⟩ r => by
    subst h1
    exact .cons (.tup (hL _ h3) (.cons (.int _) (.cons (hf _ _ h2) .nil))) (GoneIn.data hL hf r)
theorem plain_int {n : Nat} {i : Int} : PlainD n (.int i) := by cases n <;> exact trivial
theorem plain_str {n : Nat} {i : Str} : PlainD n (.str i) := by cases n <;> exact trivial
theorem goneD_plain {n : Nat} {L : List Cell} {tk : List (List Key × V)} {f : List Key → PyData} {s : Str} {g : List Int} (hf : ∀ k v, valV tk k = some v → DpL L v (f k) ∧ PlainD n (f k)) (hg : ∀ x ∈ g, ∃ v, valV tk (kSN s x) = some v) (hl : g.length < 10000) : PlainD (n + 2) (.list (goneD f s g)) := by
  refine ⟨by unfold goneD; rw [List.length_map]; exact hl, fun d hd => ?_⟩
  obtain ⟨x, hx, rfl⟩ := List.mem_map.mp hd
  obtain ⟨v, hv⟩ := hg x hx
  refine ⟨Nat.le_of_ble_eq_true (by exact Eq.refl _), fun d hd => ?_⟩
  simp only [List.mem_cons, List.not_mem_nil, or_false] at hd
  rcases hd with rfl | rfl
  · exact plain_int
  · exact (hf _ v hv).2
theorem GoneIn.there {L : List Cell} {s : Str} {tk : List (List Key × V)} : ∀ {g : List Int} {ws : List V}, GoneIn L s tk g ws → ∀ x ∈ g, ∃ v, valV tk (kSN s x) = some v
  | _, _, .cons ⟨a, v, h1, h2, h3⟩ r, x, hx => (List.mem_cons.mp hx).elim (fun e => ⟨v, by rw [e]; exact h2⟩) (GoneIn.there r x)
theorem plain_strs {n : Nat} {ys : List Str} (hl : ys.length < 10000) : PlainD (n + 1) (.list (ys.map PyData.str)) := ⟨by rw [List.length_map]; exact hl, fun d hd => by obtain ⟨x, _, rfl⟩ := List.mem_map.mp hd; exact plain_str⟩
theorem plain_ints {n : Nat} {ys : List Int} (hl : ys.length < 10000) : PlainD (n + 1) (.list (ys.map PyData.int)) := ⟨by rw [List.length_map]; exact hl, fun d hd => by obtain ⟨x, _, rfl⟩ := List.mem_map.mp hd; exact plain_int⟩
theorem plain_pair {n : Nat} {a b : Int} : PlainD (n + 1) (.tuple [.int a, .int b]) := ⟨Nat.le_of_ble_eq_true (by exact Eq.refl _), fun d hd => by
  simp only [List.mem_cons, List.not_mem_nil, or_false] at hd
  rcases hd with rfl | rfl <;> exact plain_int⟩
end G

set_option linter.all false
set_option maxRecDepth 100000
set_option maxHeartbeats 4000000
/-! two tables kept alike: the same keys, other cells, the same data -/
namespace G
open PySem PySem.Spec PyProof.Rows L2
section
variable {H0 H : Hp} {ft : List Addr} {l : List Cell} {t t' : Nat} {p b : Addr} {Q : VK} {v : V}
theorem x_dgetT {kvs : List (List Key × V)} {xs : List V} (k : List Key) (S : Sep H0 ft H l) (n m : Nat) (h : l[n]? = some (t, p, .dT kvs)) (h' : l[m]? = some (t', b, .tup xs)) (hv : valV kvs k = some v) (q : Q v H) (e : xs = k.map kV := by rfl) : rDGet (.ref p) (.ref b) H Q :=
  ⟨p, v, rfl, by rw [← hv]; exact DGet.t (S.get n h) (by rw [← e]; exact S.get m h'), q⟩
/-- met[s], s one that was met -/
theorem x_dgetM {mk : List (Key × V)} {ms : MS} {s : Str} (S : Sep H0 ft H l) (n : Nat) (h : l[n]? = some (t, p, .dK mk)) (hM : MetAt H mk ms) (hs : ms s ≠ none) (q : ∀ a, H a = some (.tup [.int (kn ms s).1, .int (kn ms s).2]) → Q (.ref a) H) : rDGet (.ref p) (.str s) H Q := by
  rcases hM s with ⟨h1, _⟩ | ⟨a, b, f, h1, h2, h3⟩
  · exact absurd h1 hs
  · exact x_dget (k := Sum.inr s) S n h h2 (q a (by rw [kn_some h1]; exact h3))
end
section
variable {κ : Type} [DecidableEq κ]
theorem any_key (k : κ) (kvs : List (κ × V)) : (kvs.any fun kv => decide (kv.1 = k)) = (kvs.map (·.1)).any fun x => decide (x = k) := by rw [List.any_map]; rfl
theorem keys_put_eq {a b : List (κ × V)} (h : b.map (·.1) = a.map (·.1)) (k : κ) (v w : V) : (putK b k w).map (·.1) = (putK a k v).map (·.1) := by
  rw [keys_put, keys_put, any_key, any_key, h]
theorem mem_keys_put {a : List (κ × V)} {k j : κ} {v : V} (h : j ∈ (putK a k v).map (·.1)) : j ∈ a.map (·.1) ∨ j = k := by
  rw [keys_put] at h
  split at h
  · exact .inl h
  · exact (List.mem_append.mp h).imp id List.mem_singleton.mp
theorem valV_keys {a : List (κ × V)} {k : κ} {v : V} (h : valV a k = some v) : k ∈ a.map (·.1) := List.mem_map.mpr ⟨_, mem_of_valV h, rfl⟩
end
theorem keys_out_eq {a b : List (List Key × V)} (h : b.map (·.1) = a.map (·.1)) (s : Str) (al : Bool) (fl : Int) : (tkOut s al fl b).map (·.1) = (tkOut s al fl a).map (·.1) := by
  have e : ∀ l : List (List Key × V), (tkOut s al fl l).map (·.1) = (l.map (·.1)).filter fun k => !goes s al fl k := fun l => by unfold tkOut; rw [List.filter_map]; rfl
  rw [e, e, h]
theorem mem_keys_out {a : List (List Key × V)} {s : Str} {al : Bool} {fl : Int} {k : List Key} (h : k ∈ (tkOut s al fl a).map (·.1)) : k ∈ a.map (·.1) ∧ goes s al fl k = false := by
  obtain ⟨p, hp, rfl⟩ := List.mem_map.mp h
  obtain ⟨h1, h2⟩ := List.mem_filter.mp hp
  exact ⟨List.mem_map.mpr ⟨p, h1, rfl⟩, by simpa using h2⟩
theorem valV_out_eq {s : Str} {al : Bool} {fl : Int} {k : List Key} (hk : goes s al fl k = false) : ∀ (t : List (List Key × V)), valV (tkOut s al fl t) k = valV t k
  | [] => rfl
  | p :: r => by
    have ih := valV_out_eq hk r
    unfold tkOut at ih ⊢
    by_cases c : (!goes s al fl p.1) = true
    · rw [List.filter_cons_of_pos (p := fun kv : List Key × V => !goes s al fl kv.1) c]
      by_cases z : p.1 = k
      · rw [valV_pos z, valV_pos z]
      · rw [valV_neg z, valV_neg z]; exact ih
    · rw [List.filter_cons_of_neg (p := fun kv : List Key × V => !goes s al fl kv.1) c]
      have z : ¬ p.1 = k := fun z => c (by rw [z, hk]; rfl)
      rw [valV_neg z]; exact ih
theorem TK.keys {a b : List (List Key × V)} {ks : List (Str × Int)} (h : TK a ks) (e : b.map (·.1) = a.map (·.1)) : TK b ks := ⟨e.trans h.ks, by rw [e]; exact h.nd⟩
/-- under each key the same data, told by cells of L -/
def ThT (n : Nat) (L : List Cell) (a b : List (List Key × V)) : Prop := b.map (·.1) = a.map (·.1) ∧ ∀ k v, valV a k = some v → ∃ w d, valV b k = some w ∧ DpL L v d ∧ DpL L w d ∧ PlainD n d
theorem ThT.nil {n : Nat} {L : List Cell} : ThT n L [] [] := ⟨rfl, fun _ _ h => nomatch h⟩
theorem ThT.mono {n : Nat} {L L' : List Cell} {a b : List (List Key × V)} (h : ThT n L a b) (hL : ∀ c ∈ L, c ∈ L') : ThT n L' a b := ⟨h.1, fun k v e => let ⟨w, d, h1, h2, h3, h4⟩ := h.2 k v e; ⟨w, d, h1, h2.mono hL, h3.mono hL, h4⟩⟩
theorem ThT.put {n : Nat} {L : List Cell} {a b : List (List Key × V)} (h : ThT n L a b) {k : List Key} {v w : V} {d : PyData} (hv : DpL L v d) (hw : DpL L w d) (hp : PlainD n d) : ThT n L (putK a k v) (putK b k w) := ⟨keys_put_eq h.1 k v w, fun j u e => by
  rw [valV_put] at e ⊢
  by_cases q : j = k
  · rw [if_pos q] at e ⊢; cases e; exact ⟨w, d, rfl, hv, hw, hp⟩
  · rw [if_neg q] at e ⊢; exact h.2 j u e⟩
theorem ThT.out {n : Nat} {L : List Cell} {a b : List (List Key × V)} (h : ThT n L a b) (s : Str) (al : Bool) (fl : Int) : ThT n L (tkOut s al fl a) (tkOut s al fl b) := ⟨keys_out_eq h.1 s al fl, fun k v e => by
  have hk := (mem_keys_out (valV_keys e)).2
  rw [valV_out_eq hk] at e ⊢
  exact h.2 k v e⟩
theorem ThT.fn {n : Nat} {L : List Cell} {a b : List (List Key × V)} (h : ThT n L a b) : ∃ f : List Key → PyData, (∀ k v, valV a k = some v → DpL L v (f k) ∧ PlainD n (f k)) ∧ ∀ k v, valV b k = some v → DpL L v (f k) := by
  classical
  refine ⟨fun k => if c : ∃ d v w, valV a k = some v ∧ valV b k = some w ∧ DpL L v d ∧ DpL L w d ∧ PlainD n d then c.choose else .none, fun k v e => ?_, fun k w e => ?_⟩
  · obtain ⟨w, d, h1, h2, h3, h4⟩ := h.2 k v e
    have c : ∃ d v w, valV a k = some v ∧ valV b k = some w ∧ DpL L v d ∧ DpL L w d ∧ PlainD n d := ⟨d, v, w, e, h1, h2, h3, h4⟩
    dsimp only
    rw [dif_pos c]
    obtain ⟨v', w', e', h'⟩ := c.choose_spec
    rw [e] at e'
    cases e'
    exact ⟨h'.2.1, h'.2.2.2⟩
  · obtain ⟨v, e0⟩ := valV_some_of (k := k) (kvs := a) (by rw [← h.1]; exact valV_keys e)
    obtain ⟨w1, d, h1, h2, h3, h4⟩ := h.2 k v e0
    have c : ∃ d v w, valV a k = some v ∧ valV b k = some w ∧ DpL L v d ∧ DpL L w d ∧ PlainD n d := ⟨d, v, w1, e0, h1, h2, h3, h4⟩
    dsimp only
    rw [dif_pos c]
    obtain ⟨v', w', e', h'⟩ := c.choose_spec
    cases e.symm.trans h'.1

    exact h'.2.2.1
theorem GoneIn.keys {L : List Cell} {s : Str} {a : List (List Key × V)} : ∀ {g : List Int} {ws : List V}, GoneIn L s a g ws → ∀ x ∈ g, kSN s x ∈ a.map (·.1) := fun h x hx => let ⟨_, e⟩ := GoneIn.there h x hx; valV_keys e
/-- whoever has something there was met -/
def MetAll (tk : List (List Key × V)) (ms : MS) : Prop := ∀ s n, kSN s n ∈ tk.map (·.1) → ms s ≠ none
theorem MetAll.nil {ms : MS} : MetAll [] ms := fun _ _ h => nomatch h
theorem MetAll.put {tk : List (List Key × V)} {ms : MS} (h : MetAll tk ms) {s : Str} {n : Int} {v : V} (hs : ms s ≠ none) : MetAll (putK tk (kSN s n) v) ms := fun x m hm => (mem_keys_put hm).elim (h x m) fun e => by rw [(kSN_inj e).1]; exact hs
theorem MetAll.out {tk : List (List Key × V)} {ms : MS} (h : MetAll tk ms) (s : Str) (al : Bool) (fl : Int) : MetAll (tkOut s al fl tk) ms := fun x m hm => h x m (mem_keys_out hm).1
theorem MetAll.met {tk : List (List Key × V)} {ms : MS} (h : MetAll tk ms) (s : Str) (b f : Int) : MetAll tk (msPut ms s b f) := fun x m hm => by
  unfold msPut
  by_cases e : x = s
  · rw [if_pos e]; exact fun z => nomatch z
  · rw [if_neg e]; exact h x m hm
theorem MetAll.keys {a b : List (List Key × V)} {ms : MS} (h : MetAll a ms) (e : b.map (·.1) = a.map (·.1)) : MetAll b ms := fun s n hm => h s n (by rw [← e]; exact hm)
theorem met_of {ms : MS} {s : Str} (h : 0 < (kn ms s).1) : ms s ≠ none := fun e => by rw [kn_none e] at h; exact absurd h (by decide)
theorem plain_mono : ∀ {n : Nat} {d : PyData}, PlainD n d → PlainD (n + 1) d
  | 0, .none, _ => trivial
  | 0, .int _, _ => trivial
  | 0, .str _, _ => trivial
  | n + 1, .none, _ => trivial
  | n + 1, .int _, _ => trivial
  | n + 1, .str _, _ => trivial
  | n + 1, .list ds, h => ⟨h.1, fun d hd => plain_mono (h.2 d hd)⟩
  | n + 1, .tuple ds, h => ⟨h.1, fun d hd => plain_mono (h.2 d hd)⟩
theorem plain_IS {n : Nat} {i : Int} {s : Str} : PlainD (n + 1) (.tuple [.int i, .str s]) := ⟨Nat.le_of_ble_eq_true (by exact Eq.refl _), fun d hd => by
  simp only [List.mem_cons, List.not_mem_nil, or_false] at hd
  rcases hd with rfl | rfl
  · exact plain_int
  · exact plain_str⟩
end G

set_option linter.all false
set_option maxRecDepth 100000
set_option maxHeartbeats 4000000
/-! dict(pairs) whose keys are tuples; xs[::step]; int(a truth) -/
namespace G
open PySem PySem.Spec PyProof.Rows L2
abbrev PEnt := Addr × List Key × V
def allT (acc : List (List Key × V)) (es : List PEnt) : List (List Key × V) := es.foldl (fun acc e => putK acc e.2.1 e.2.2) acc
theorem allT_le : ∀ (es : List PEnt) (acc : List (List Key × V)), (allT acc es).length ≤ acc.length + es.length
  | [], acc => Nat.le_refl _
  | e :: es, acc => by
    have h1 := allT_le es (putK acc e.2.1 e.2.2)
    have h2 := length_putK acc e.2.1 e.2.2
    show (allT (putK acc e.2.1 e.2.2) es).length ≤ _
    rw [List.length_cons]; omega
theorem allT_len : ∀ (es : List PEnt) (acc : List (List Key × V)), (acc.map (·.1) ++ es.map (·.2.1)).Nodup → (allT acc es).length = acc.length + es.length
  | [], acc, _ => rfl
  | e :: es, acc, h => by
    have hn : (acc.any fun kv => decide (kv.1 = e.2.1)) = false := by
      refine Bool.eq_false_iff.mpr fun z => ?_
      obtain ⟨x, hx, hx2⟩ := List.any_eq_true.mp z
      have h1 := (List.nodup_append.mp h).2.2 x.1 (List.mem_map.mpr ⟨x, hx, rfl⟩) e.2.1 List.mem_cons_self
      exact h1 (of_decide_eq_true hx2)
    have hk : (putK acc e.2.1 e.2.2).map (·.1) = acc.map (·.1) ++ [e.2.1] := by rw [keys_put, hn]; rfl
    have hl : (putK acc e.2.1 e.2.2).length = acc.length + 1 := by
      have := congrArg List.length hk
      rw [List.length_map, List.length_append, List.length_map] at this
      exact this
    have := allT_len es (putK acc e.2.1 e.2.2) (by rw [hk, List.append_assoc]; exact h)
    show (allT (putK acc e.2.1 e.2.2) es).length = _
    rw [this, hl, List.length_cons]; omega
def rDictT (K : PySem.W.Frag) : List V → Hp → VK → Prop := fun xs H Q => ∃ (a : Addr) (ps : List Addr) (es : List PEnt), xs = [.ref a] ∧ SqL K H a (ps.map V.ref) ∧
  Paired (fun p e => SqT K H p [.ref e.1, e.2.2] ∧ H e.1 = some (.tup (e.2.1.map kV))) ps es ∧ ∀ p, H p = none → Q (.ref p) (upd H p (.dT (allT [] es)))
section
variable {X : Cx}
theorem pents_of {pins : List (Addr × Obj)} {σ : L2.St} {H : Hp} {s : Shared} (I : Inv X pins σ H s) : ∀ {ps : List Addr} {es : List PEnt}, Paired (fun p e => SqT X.K H p [.ref e.1, e.2.2] ∧ H e.1 = some (.tup (e.2.1.map kV))) ps es →
    ∃ prs : List (List Key × Addr × Value), Paired (fun e q => e.2.1 = q.1 ∧ e.1 = q.2.1 ∧ RelV e.2.2 q.2.2) es prs ∧ prs.length = ps.length ∧ ∀ (j : Nat) (q : List Key × Addr × Value), prs[j]? = some q → ∃ b, ps[j]? = some b ∧ IsTup s.heap b #[.ref q.2.1, q.2.2] ∧ (tupleKind (mixKind X.prog X.w)).is s.heap q.1 q.2.1
  | _, _, .nil => ⟨[], .nil, rfl, fun j q e => by simp at e⟩
  | _, _, .cons (a := p) (b := e) h t => by
    obtain ⟨prs, r, hl, hp⟩ := pents_of I t
    obtain ⟨its, rv, ht, _⟩ := I.tuple h.1
    obtain ⟨u, y, ei, ru, ry⟩ := vals2 rv
    subst ei
    cases (show u = Value.ref e.1 from ru)
    refine ⟨(e.2.1, e.1, y) :: prs, .cons ⟨rfl, rfl, ry⟩ r, by rw [List.length_cons, List.length_cons, hl], fun j q eq => ?_⟩
    cases j with
    | zero =>
      have e' : (e.2.1, e.1, y) = q := Option.some.inj eq
      subst e'
      exact ⟨p, rfl, ht, key_of I.hok h.2⟩
    | succ j =>
      obtain ⟨b, e1, e2, e3⟩ := hp j q (by simpa using eq)
      exact ⟨b, by simpa using e1, e2, e3⟩
theorem KT_all {H : Hp} : ∀ {es : List PEnt} {prs : List (List Key × Addr × Value)}, Paired (fun e q => e.2.1 = q.1 ∧ e.1 = q.2.1 ∧ RelV e.2.2 q.2.2) es prs → (∀ e ∈ es, H e.1 = some (.tup (e.2.1.map kV))) →
    ∀ {acc : List (List Key × V)} {ax : List (List Key × Addr × Value)}, KT H acc ax → KT H (allT acc es) (PySem.storedAllH ax prs)
  | _, _, .nil, _, _, _, r => r
  | _, _, .cons (a := e) (b := q) h t, hH, acc, ax, r => by
    obtain ⟨h1, h2, h3⟩ := h
    have := KT_all t (fun x hx => hH x (List.mem_cons_of_mem _ hx)) (r.put e.2.1 (hH e List.mem_cons_self) h3)
    rw [h2] at this
    show KT H (allT (putK acc e.2.1 e.2.2) _) (PySem.storedAllH (storedH ax q.1 q.2.1 q.2.2) _)
    rw [← h1]
    exact this
theorem paired_mem {α β : Type} {F : α → β → Prop} {G : β → Prop} (hG : ∀ a b, F a b → G b) : ∀ {l : List α} {m : List β}, Paired F l m → ∀ b ∈ m, G b
  | _, _, .cons h t, b, hb => (List.mem_cons.mp hb).elim (fun e => e ▸ hG _ _ h) (paired_mem hG t b)
theorem cl_dictTK (K : PySem.W.Frag) (hcalm : X.calm = true) (hu : X.A.units + 64 < cLine) (hK : X.K = K := by rfl) : CallR X (.type "dict") (rDictT K) := by
  subst hK
  intro pins s σ H xs us Q I r q
  obtain ⟨a, ps, es, ex, hq, hp, q⟩ := q
  subst ex
  obtain ⟨u, eu, rx⟩ := vals1 r
  subst eu
  cases rx
  obtain ⟨its, rv, pl, hz⟩ := I.list hq
  have ei := refs_at rv
  subst ei
  rw [List.length_map] at hz
  obtain ⟨prs, rel, hl, hpr⟩ := pents_of I hp
  have hH : ∀ e ∈ es, H e.1 = some (.tup (e.2.1.map kV)) := paired_mem (fun _ _ h => h.2) hp
  obtain ⟨o, n, ho, hc, hd, hdat⟩ := pl
  have hvl : (prs.map fun q => (Value.ref q.2.1, q.2.2)).length = prs.length := List.length_map _
  have P := PySem.PairArg.list (prog := X.prog) (w := X.w) a (ps.map Value.ref).toArray (fun j => ps.getD j 0) (prs.map fun q => (Value.ref q.2.1, q.2.2))
  refine PySem.call_dict_pairsH (knd := tupleKind (mixKind X.prog X.w)) (ps := prs) P (I.ok.hd hcalm) (show X.A.in1.in1.units < cLine by show X.A.units + 1 + 1 < cLine; omega) ⟨⟨o, n, ho, hc, hd, hdat⟩, by rw [List.size_toArray, List.length_map, hvl, hl], fun j k v e => ?_⟩ ⟨hvl.symm, fun i key v e => ?_⟩ (fun h' hk x hx => ?_) (by rw [hvl, hl]; exact hz) fun h' tk hd' k => ?_
  · rw [List.getElem?_map] at e
    cases hq9 : prs[j]? with
    | none => rw [hq9] at e; cases e
    | some q9 =>
      rw [hq9] at e
      cases e
      obtain ⟨b, e1, e2, e3⟩ := hpr j q9 hq9
      have hg : ps.getD j 0 = b := by rw [List.getD_eq_getElem?_getD, e1]; rfl
      refine ⟨by simp [e1], .inl ?_⟩
      show s.heap.IsTuple (ps.getD j 0) _
      rw [hg]; exact e2
  · have e : (prs.map fun q => (Value.ref q.2.1, q.2.2))[i]? = some (key, v) := e
    rw [List.getElem?_map] at e
    cases hq9 : prs[i]? with
    | none => rw [hq9] at e; cases e
    | some q9 => rw [hq9] at e; cases e; exact ⟨q9.1, q9.2.1, rfl, rfl⟩
  · obtain ⟨j, hj⟩ := List.mem_iff_getElem?.mp hx
    obtain ⟨b, e1, e2, e3⟩ := hpr j x hj
    obtain ⟨o9, its9, n9, g1, g2⟩ := e3
    exact ⟨o9, its9, n9, hk _ _ (Nat.ne_of_lt (Heap.lt_size g1)) (fun z => nomatch z) g1, g2⟩
  · have hm : (s.heap.objs.size == sysModules) = false := beq_eq_false_iff_ne.mpr (Nat.ne_of_gt I.big)
    have hlen : (allT [] es).length ≤ sizeLine := by
      refine Nat.le_trans (allT_le es []) ?_
      rw [List.length_nil, Nat.zero_add, ← Paired.length hp]
      exact hz
    have hfree := I.hok.fresh (Nat.le_refl s.heap.objs.size)
    obtain ⟨o2, es2, ep2, g1, g2, g3, g4, _, g6⟩ := hd'
    refine ⟨.ref s.heap.objs.size, upd H s.heap.objs.size (.dT (allT [] es)), I.laid (t' := tk) (fun b o e => k b o (fun z => nomatch z) e) (Nat.le_refl _) ?_, rfl, q _ hfree⟩
    exact ⟨hlen, hm, _, (KT_all rel hH .nil).keeps fun c ys ec => by rw [upd_ne (fun z => by rw [z, hfree] at ec; cases ec)]; exact ec, o2, es2, ep2, g1, g2, g3, g4, g6⟩
end
section
variable {H0 H : Hp} {ft : List Addr} {l : List Cell} {t : Nat} {p : Addr} {Q : VK} {K : PySem.W.Frag}
theorem x_dictT {us : List (Addr × Addr × List Key)} {v : V} (S : Sep H0 ft H l) (n : Nat) (h : l[n]? = some (t, p, .lst (us.map fun u => V.ref u.1))) (hu : ∀ u ∈ us, H u.1 = some (.tup [.ref u.2.1, v]) ∧ H u.2.1 = some (.tup (u.2.2.map kV)))
    (q : ∀ r H', Sep H0 ft H' ((2, r, .dT (allT [] (us.map fun u => (u.2.1, u.2.2, v)))) :: l) → Q (.ref r) H') : rDictT K [.ref p] H Q := by
  refine ⟨p, us.map (·.1), us.map fun u => (u.2.1, u.2.2, v), rfl, ?_, ?_, fun r hr => q r _ (S.new hr _)⟩
  · rw [List.map_map]; exact S.sl n h
  · clear h q
    induction us with
    | nil => exact .nil
    | cons u us ih => exact .cons ⟨.of (hu u List.mem_cons_self).1, (hu u List.mem_cons_self).2⟩ (ih fun x hx => hu x (List.mem_cons_of_mem _ hx))
end
theorem unitsR {j : Nat} {A : Around} (hr : Room j A) : A.units + 64 < cLine := by have := hr.un; omega
/-! xs[::step] -/
def rSlS (K : PySem.W.Frag) : V → Hp → VK → Prop := fun x H Q => ∃ a xs, x = .ref a ∧ SqL K H a xs ∧ ∀ (ys : List V) p, (∀ y ∈ ys, y ∈ xs) → ys.length ≤ xs.length → H p = none → Q (.ref p) (upd H p (.lst ys))
def tSlS (K : PySem.W.Frag) (te : TE) (ts : TO) : TE := fun σ H Q => te σ H fun x H1 => ts σ H1 fun o H2 => o ≠ some 0 ∧ rSlS K x H2 Q
theorem vals_pick {X : Cx} {xs : List V} {its : List Value} (r : Vals xs its) : ∀ is : List Nat, ∃ ys : List V, Vals ys (is.filterMap (its[·]?)) ∧ ∀ y ∈ ys, y ∈ xs
  | [] => ⟨[], .nil, fun _ h => nomatch h⟩
  | i :: is => by
    obtain ⟨ys, h1, h2⟩ := vals_pick (X := X) r is
    cases e : its[i]? with
    | none => exact ⟨ys, by rw [List.filterMap_cons, e]; exact h1, h2⟩
    | some u =>
      have hi : i < xs.length := by rw [r.length]; exact (List.getElem?_eq_some_iff.mp e).1
      obtain ⟨u', e', ru⟩ := r.get (List.getElem?_eq_getElem hi)
      rw [e] at e'
      cases e'
      refine ⟨xs[i] :: ys, by rw [List.filterMap_cons, e]; exact .cons ru h1, fun y hy => (List.mem_cons.mp hy).elim (fun z => z ▸ List.getElem_mem hi) (h2 y)⟩
theorem pe_slS {X : Cx} {e st : Expr} {te : TE} {ts : TO} {p2 pos : Pos} (K : PySem.W.Frag) (he : PE X e te) (hs : PO X (some st) ts) (hK : X.K = K := by rfl) : PE X (.Subscript e (.Slice none none (some st) p2) pos) (tSlS K te ts) := by
  subst hK
  refine ⟨fun pins s σ H Q I h => ?_⟩
  refine Subscript_ (thn (he.run pins s σ H _ I h) fun v s1 ⟨x, H1, I1, r1, q1⟩ => ?_)
  refine wpAny_Slice ?_
  rw [evalPart_none]
  refine wpAny_pure (wpAny_pure ?_)
  refine thn (hs.run pins s1 σ H1 _ I1 q1) fun vs s3 ⟨o, H3, I3, ps, h0, a, xs, ex, hx, q3⟩ => ?_
  subst ex
  cases r1
  have I4 : Inv X pins σ H3 { s3 with heap := s3.heap.push { cls := .type "slice", data := .fields #[.none, .none, vs] } } := I3.kept (t' := s3.toks) fun b ob q => Heap.get?_push_of_some _ q
  obtain ⟨its, r, pl, hz⟩ := I4.list hx
  have hL : ({ s3 with heap := s3.heap.push { cls := .type "slice", data := .fields #[.none, .none, vs] } } : Shared).heap.IsList a its.toArray := by
    obtain ⟨ob, n, g1, g2, g3, g4⟩ := pl
    exact ⟨ob, g1, g2, n, g4⟩
  have hlen : its.length ≤ sizeLine := by rw [← r.length]; exact hz
  show wpAny (model X.prog X.w) X.A (subscriptTail e (.Slice none none (some st) p2) (.ref a) (.ref s3.heap.objs.size)) (EP X pins σ Q) X.xe { s3 with heap := s3.heap.push { cls := .type "slice", data := .fields #[.none, .none, vs] } }
  refine tail_any (T := "list") (ops := [.ref a, .ref s3.heap.objs.size]) hL.typeIs PySem.slot_list_getitem.lookup (wpAny_getItem_list_slice hL (Heap.IsSliceOf.new ..) .none .none ps h0 ?_ (by rw [List.size_toArray]; exact hlen)) (by with_unfolding_all rfl)
  obtain ⟨ys, v1, v2⟩ := vals_pick (X := X) r (sliceRange (sliceBounds none none o its.toArray.size).1 (sliceBounds none none o its.toArray.size).2.1 (sliceBounds none none o its.toArray.size).2.2)
  have hyl : ys.length ≤ xs.length := by
    have h1 := slicePick_size_le its.toArray none none o
    have h2 := v1.length
    unfold slicePick at h1
    rw [List.size_toArray] at h1
    rw [h2, r.length]
    simpa using h1
  refine ⟨.ref _, upd H3 _ (.lst ys), I4.laid (t' := s3.toks) (fun b ob e => Heap.get?_push_of_some _ e) (Nat.le_refl _) ?_, rfl, q3 ys _ v2 hyl (I4.hok.fresh (Nat.le_refl _))⟩
  refine ⟨Nat.le_trans hyl hz, _, 0, v1, ?_⟩
  refine (Heap.get?_push_size _ rfl).trans ?_
  unfold slicePick
  simp
theorem x_slStep {K : PySem.W.Frag} {H0 H : Hp} {ft : List Addr} {l : List Cell} {t : Nat} {p : Addr} {Q : VK} {xs : List V} (S : Sep H0 ft H l) (n : Nat) (h : l[n]? = some (t, p, .lst xs)) (q : ∀ ys r H', (∀ y ∈ ys, y ∈ xs) → ys.length ≤ xs.length → Sep H0 ft H' ((2, r, .lst ys) :: l) → Q (.ref r) H') : rSlS K (.ref p) H Q :=
  ⟨p, xs, rfl, S.sl n h, fun ys r h1 h2 hr => q ys r _ h1 h2 (S.new hr _)⟩
/-! int(a truth) -/
def rInt1 : List V → Hp → VK → Prop := fun xs H Q => (∃ i, xs = [.int i] ∧ Q (.int i) H) ∨ ∃ k, xs = [.bl k] ∧ Q (.int (if k then 1 else 0)) H
theorem cl_int1 {X : Cx} : CallR X (.type "int") rInt1 := call_int1
theorem x_int1 {H : Hp} {Q : VK} {k : Bool} (q : Q (.int (if k then 1 else 0)) H) : rInt1 [.bl k] H Q := .inr ⟨k, rfl, q⟩
end G

set_option linter.all false
set_option maxRecDepth 100000
set_option maxHeartbeats 4000000
/-! what a table that heeds boots and floors never takes for new again: the plain law -/
namespace G
open PySem PySem.Spec PyProof.Rows L2
/-- a frame: of whom, boot, number, floor -/
structure Fr where
  s : Str
  b : Int
  n : Int
  f : Int
abbrev frV (u : Fr) : List V := [.str u.s, .int u.b, .int u.n, .int u.f]
/-- frames that a draw makes -/
def FrOk (u : Fr) : Prop := 1 ≤ u.b ∧ 1 ≤ u.n ∧ 1 ≤ u.f
def ksOut (s : Str) (al : Bool) (fl : Int) (ks : List (Str × Int)) : List (Str × Int) := ks.filter fun k => !goes s al fl (kSN k.1 k.2)
theorem mem_ksOut {s x : Str} {al : Bool} {fl n : Int} {ks : List (Str × Int)} : (x, n) ∈ ksOut s al fl ks ↔ (x, n) ∈ ks ∧ ¬ (x = s ∧ (al = true ∨ n < fl)) := by
  unfold ksOut
  rw [List.mem_filter]
  refine and_congr Iff.rfl ?_
  show (!(decide (x = s) && lvs al fl n)) = true ↔ _
  unfold lvs
  by_cases h1 : x = s <;> cases al <;> by_cases h2 : n < fl <;> simp [h1, h2]
theorem TK.put_new {tk : List (List Key × V)} {ks : List (Str × Int)} (h : TK tk ks) {s : Str} {n : Int} {v : V} (hn : valV tk (kSN s n) = none) : TK (putK tk (kSN s n) v) (ks ++ [(s, n)]) := by
  have a : ¬ (tk.any fun kv => decide (kv.1 = kSN s n)) = true := by rw [valV_any, hn]; simp
  exact ⟨by rw [keys_put, if_neg a, h.ks, List.map_append]; rfl, nd_put _ _ h.nd⟩
theorem TK.not_mem {tk : List (List Key × V)} {ks : List (Str × Int)} (h : TK tk ks) {s : Str} {n : Int} (hn : valV tk (kSN s n) = none) : (s, n) ∉ ks := fun m => by
  obtain ⟨v, e⟩ := valV_some_of (h.mem.mp m)
  rw [hn] at e; cases e
theorem msPut_self {ms : MS} {s : Str} {b f : Int} : msPut ms s b f s = some (b, f) := by unfold msPut; rw [if_pos rfl]
theorem msPut_ne {ms : MS} {s x : Str} {b f : Int} (h : x ≠ s) : msPut ms s b f x = ms x := by unfold msPut; rw [if_neg h]
theorem kn_put {ms : MS} {s : Str} {b f : Int} : kn (msPut ms s b f) s = (b, f) := kn_some msPut_self
/-- behind the frames fr -/
structure P1 (fr : List Fr) (ms : MS) (ks : List (Str × Int)) (bg : List (Str × Int × Int)) : Prop where
  e1 : ∀ s b n, (s, b, n) ∈ bg → ∃ kb kf, ms s = some (kb, kf) ∧ b ≤ kb ∧ (b = kb → n < kf ∨ (s, n) ∈ ks)
  e2 : bg.Nodup
  e3 : ks.length ≤ bg.length
  e5 : ∀ u ∈ fr, ∃ kb kf, ms u.s = some (kb, kf) ∧ u.b ≤ kb
  e6 : ∀ s kb kf, ms s = some (kb, kf) → ∃ u ∈ fr, u.s = s ∧ kf = u.f
  e7 : ∀ s n, (s, n) ∈ ks → ∃ u ∈ fr, u.s = s ∧ u.n = n
theorem P1.nil : P1 [] (fun _ => none) [] [] where
  e1 := fun _ _ _ h => nomatch h
  e2 := List.nodup_nil
  e3 := Nat.le_refl _
  e5 := fun _ h => nomatch h
  e6 := fun _ _ _ h => nomatch h
  e7 := fun _ _ h => nomatch h
theorem P1.more {fr : List Fr} {ms : MS} {ks : List (Str × Int)} {bg : List (Str × Int × Int)} (h : P1 fr ms ks bg) {u : Fr} (hu : ∃ kb kf, ms u.s = some (kb, kf) ∧ u.b ≤ kb) : P1 (fr ++ [u]) ms ks bg :=
  ⟨h.e1, h.e2, h.e3, fun x hx => (List.mem_append.mp hx).elim (h.e5 x) fun e => by rw [List.mem_singleton.mp e]; exact hu,
   fun s kb kf e => let ⟨x, hx, r⟩ := h.e6 s kb kf e; ⟨x, List.mem_append_left _ hx, r⟩, fun s n e => let ⟨x, hx, r⟩ := h.e7 s n e; ⟨x, List.mem_append_left _ hx, r⟩⟩
theorem some_kn {ms : MS} {s : Str} (h : ms s ≠ none) : ms s = some (kn ms s) := by
  unfold kn
  cases e : ms s with
  | none => exact absurd e h
  | some p => rfl
theorem P1.elder {fr : List Fr} {ms : MS} {ks : List (Str × Int)} {bg : List (Str × Int × Int)} (h : P1 fr ms ks bg) {u : Fr} (hu : FrOk u) (he : u.b < (kn ms u.s).1) : P1 (fr ++ [u]) ms ks bg :=
  h.more ⟨(kn ms u.s).1, (kn ms u.s).2, some_kn (met_of (Int.lt_trans (by have := hu.1; omega) he)), Int.le_of_lt he⟩
theorem P1.meet {fr : List Fr} {ms : MS} {ks : List (Str × Int)} {bg : List (Str × Int × Int)} (h : P1 fr ms ks bg) {u : Fr} (hu : FrOk u) (he : ¬ u.b < (kn ms u.s).1) :
    P1 (fr ++ [u]) (msPut ms u.s u.b (mFl ms u.s u.b u.f)) (ksOut u.s (mAl ms u.s u.b) (mFl ms u.s u.b u.f) ks) bg := by
  refine ⟨fun s b n hm => ?_, h.e2, Nat.le_trans (List.length_filter_le _ _) h.e3, fun x hx => ?_, fun s kb kf e => ?_, fun s n hm => ?_⟩
  · obtain ⟨kb, kf, h1, h2, h3⟩ := h.e1 s b n hm
    by_cases es : s = u.s
    · subst es
      have hk := kn_some h1
      rw [hk] at he
      refine ⟨u.b, _, msPut_self, by have : ¬ u.b < kb := he; omega, fun eb => ?_⟩
      have he : ¬ u.b < kb := he
      have ekb : u.b = kb := by omega
      have hfl : mFl ms u.s u.b u.f = max u.f kf := by unfold mFl; rw [hk]; exact if_pos ekb
      have hal : mAl ms u.s u.b = false := by unfold mAl; rw [hk]; exact decide_eq_false (fun z => z ekb)
      rw [hfl, hal]
      rcases h3 (by omega) with h4 | h4
      · exact .inl (by omega)
      · by_cases c : n < max u.f kf
        · exact .inl c
        · exact .inr (mem_ksOut.mpr ⟨h4, fun z => z.2.elim (fun w => nomatch w) c⟩)
    · refine ⟨kb, kf, by rw [msPut_ne es]; exact h1, h2, fun eb => (h3 eb).imp id fun h4 => mem_ksOut.mpr ⟨h4, fun z => es z.1⟩⟩
  · by_cases es : x.s = u.s
    · refine ⟨u.b, _, by rw [es]; exact msPut_self, ?_⟩
      rcases List.mem_append.mp hx with hx | hx
      · obtain ⟨kb, kf, h1, h2⟩ := h.e5 x hx
        rw [es] at h1
        rw [kn_some h1] at he
        have he : ¬ u.b < kb := he
        omega
      · rw [List.mem_singleton.mp hx]; exact Int.le_refl _
    · rcases List.mem_append.mp hx with hx | hx
      · obtain ⟨kb, kf, h1, h2⟩ := h.e5 x hx
        exact ⟨kb, kf, by rw [msPut_ne es]; exact h1, h2⟩
      · exact absurd (by rw [List.mem_singleton.mp hx]) es
  · by_cases es : s = u.s
    · subst es
      rw [msPut_self] at e
      cases e
      unfold mFl
      split
      · rename_i ekb
        rcases Int.le_total (kn ms u.s).2 u.f with c | c
        · exact ⟨u, List.mem_append_right _ (List.mem_singleton.mpr rfl), rfl, by omega⟩
        · cases eh : ms u.s with
          | none =>
            rw [kn_none eh] at c ⊢
            exfalso
            rw [kn_none eh] at ekb
            have ekb : u.b = 0 := ekb
            have := hu.1
            omega
          | some p =>
            obtain ⟨x, hx, h1, h2⟩ := h.e6 u.s p.1 p.2 eh
            rw [kn_some eh] at c ⊢
            exact ⟨x, List.mem_append_left _ hx, h1, by omega⟩
      · exact ⟨u, List.mem_append_right _ (List.mem_singleton.mpr rfl), rfl, rfl⟩
    · rw [msPut_ne es] at e
      obtain ⟨x, hx, r⟩ := h.e6 s kb kf e
      exact ⟨x, List.mem_append_left _ hx, r⟩
  · obtain ⟨x, hx, r⟩ := h.e7 s n (mem_ksOut.mp hm).1
    exact ⟨x, List.mem_append_left _ hx, r⟩

theorem P1.new {fr : List Fr} {ms : MS} {ks : List (Str × Int)} {bg : List (Str × Int × Int)} (h : P1 fr ms ks bg) {u : Fr} (hu : u ∈ fr) {kf : Int} (hk : ms u.s = some (u.b, kf)) (hn : (u.s, u.n) ∉ ks) (hge : ¬ u.n < kf) : P1 fr ms (ks ++ [(u.s, u.n)]) (bg ++ [(u.s, u.b, u.n)]) := by
  refine ⟨fun s b n hm => ?_, ?_, by rw [List.length_append, List.length_append]; exact Nat.add_le_add_right h.e3 1, h.e5, h.e6, fun s n hm => ?_⟩
  · rcases List.mem_append.mp hm with hm | hm
    · obtain ⟨kb, k2, h1, h2, h3⟩ := h.e1 s b n hm
      exact ⟨kb, k2, h1, h2, fun e => (h3 e).imp id (List.mem_append_left _)⟩
    · cases List.mem_singleton.mp hm
      exact ⟨u.b, kf, hk, Int.le_refl _, fun _ => .inr (List.mem_append_right _ (List.mem_singleton.mpr rfl))⟩
  · refine List.nodup_append.mpr ⟨h.e2, List.nodup_cons.mpr ⟨List.not_mem_nil, List.nodup_nil⟩, fun a ha b hb e => ?_⟩
    rw [List.mem_singleton.mp hb] at e
    rw [e] at ha
    obtain ⟨kb, k2, h1, _, h3⟩ := h.e1 _ _ _ ha
    rw [hk] at h1
    cases h1
    exact (h3 rfl).elim hge hn
  · rcases List.mem_append.mp hm with hm | hm
    · exact h.e7 s n hm
    · cases List.mem_singleton.mp hm
      exact ⟨u, hu, rfl, rfl⟩
/-- while the callers are led out, one by one -/
structure P2 (top way : Int) (fr : List Fr) (done : List Str) (ms : MS) (ks : List (Str × Int)) : Prop where
  a : ∀ u ∈ fr, ∃ kb kf, ms u.s = some (kb, kf) ∧ u.n < top ∧ u.f < top ∧ (u.s ∉ done → u.b ≤ kb ∧ kf < top) ∧ (u.s ∈ done → (way = 0 ∧ u.b ≤ kb ∧ kf = top) ∨ (way = 1 ∧ u.b < kb ∧ kf = 1))
  b : ∀ s n, (s, n) ∈ ks → s ∉ done ∧ ∃ u ∈ fr, u.s = s ∧ u.n = n
theorem P1.to2 {fr : List Fr} {ms : MS} {ks : List (Str × Int)} {bg : List (Str × Int × Int)} (h : P1 fr ms ks bg) {top way : Int} (ht : ∀ u ∈ fr, u.n < top ∧ u.f < top) : P2 top way fr [] ms ks := by
  refine ⟨fun u hu => ?_, fun s n hm => ⟨(fun z => nomatch z), h.e7 s n hm⟩⟩
  obtain ⟨kb, kf, h1, h2⟩ := h.e5 u hu
  obtain ⟨x, hx, _, h3⟩ := h.e6 _ _ _ h1
  refine ⟨kb, kf, h1, (ht u hu).1, (ht u hu).2, fun _ => ⟨h2, by have := (ht x hx).2; omega⟩, (fun z => nomatch z)⟩
/-- what a caller is led out by -/
def lb (way : Int) (ms : MS) (s : Str) : Int := (kn ms s).1 + way
def lf (top way : Int) : Int := if way = 0 then top else 1
theorem P2.all {top way : Int} {fr : List Fr} {done : List Str} {ms : MS} {ks : List (Str × Int)} (h : P2 top way fr done ms ks) (hw : way = 0 ∨ way = 1) {s : Str} (hs : ∃ u ∈ fr, u.s = s) (hd : s ∉ done) {n : Int} (hn : (s, n) ∈ ks) :
    mAl ms s (lb way ms s) = true ∨ n < mFl ms s (lb way ms s) (lf top way) := by
  obtain ⟨u, hu, rfl, rfl⟩ := (h.b _ _ hn).2
  obtain ⟨kb, kf, h1, h2, h3, h4, _⟩ := h.a u hu
  unfold mAl mFl lb lf
  rw [kn_some h1]
  rcases hw with rfl | rfl
  · refine .inr ?_
    rw [if_pos (show kb + 0 = kb by omega), if_pos rfl]
    show u.n < max top kf
    omega
  · refine .inl (decide_eq_true ?_)
    show ¬ kb + 1 = kb
    omega
theorem P2.left {top way : Int} {fr : List Fr} {done : List Str} {ms : MS} {ks : List (Str × Int)} (h : P2 top way fr done ms ks) (hw : way = 0 ∨ way = 1) {s : Str} (hs : ∃ u ∈ fr, u.s = s) (hd : s ∉ done) :
    P2 top way fr (done ++ [s]) (msPut ms s (lb way ms s) (mFl ms s (lb way ms s) (lf top way))) (ksOut s (mAl ms s (lb way ms s)) (mFl ms s (lb way ms s) (lf top way)) ks) := by
  refine ⟨fun u hu => ?_, fun x n hm => ?_⟩
  · obtain ⟨kb, kf, h1, h2, h3, h4, h5⟩ := h.a u hu
    by_cases es : u.s = s
    · subst es
      obtain ⟨h6, h7⟩ := h4 hd
      have hk := kn_some h1
      refine ⟨_, _, msPut_self, h2, h3, fun z => absurd (List.mem_append_right _ (List.mem_singleton.mpr rfl)) z, fun _ => ?_⟩
      unfold lb mFl lf
      rw [hk]
      rcases hw with rfl | rfl
      · refine .inl ⟨rfl, by show u.b ≤ kb + 0; omega, ?_⟩
        rw [if_pos (show kb + 0 = kb by omega), if_pos rfl]
        show max top kf = top
        omega
      · refine .inr ⟨rfl, by show u.b < kb + 1; omega, ?_⟩
        rw [if_neg (show ¬ kb + 1 = kb by omega), if_neg (by decide)]
    · have hin : u.s ∈ done ++ [s] ↔ u.s ∈ done := ⟨fun z => (List.mem_append.mp z).elim id fun w => absurd (List.mem_singleton.mp w) es, List.mem_append_left _⟩
      exact ⟨kb, kf, by rw [msPut_ne es]; exact h1, h2, h3, fun z => h4 fun w => z (hin.mpr w), fun z => h5 (hin.mp z)⟩
  · obtain ⟨h1, h2⟩ := mem_ksOut.mp hm
    refine ⟨fun z => ?_, (h.b x n h1).2⟩
    rcases List.mem_append.mp z with z | z
    · exact (h.b x n h1).1 z
    · have es := List.mem_singleton.mp z
      subst es
      exact h2 ⟨rfl, h.all hw hs hd h1⟩
theorem P2.empty {top way : Int} {fr : List Fr} {done : List Str} {ms : MS} {ks : List (Str × Int)} (h : P2 top way fr done ms ks) (hd : ∀ u ∈ fr, u.s ∈ done) : ks = [] := by
  cases ks with
  | nil => rfl
  | cons p r =>
    obtain ⟨h1, u, hu, h2, _⟩ := h.b p.1 p.2 List.mem_cons_self
    exact absurd (h2 ▸ hd u hu) h1
/-- all have left -/
def P3 (top way : Int) (fr : List Fr) (ms : MS) : Prop := ∀ u ∈ fr, ∃ kb kf, ms u.s = some (kb, kf) ∧ u.n < top ∧ u.f < top ∧ ((way = 0 ∧ u.b ≤ kb ∧ kf = top) ∨ (way = 1 ∧ u.b < kb ∧ kf = 1))
theorem P2.to3 {top way : Int} {fr : List Fr} {done : List Str} {ms : MS} {ks : List (Str × Int)} (h : P2 top way fr done ms ks) (hd : ∀ u ∈ fr, u.s ∈ done) : P3 top way fr ms := fun u hu =>
  let ⟨kb, kf, h1, h2, h3, _, h5⟩ := h.a u hu
  ⟨kb, kf, h1, h2, h3, h5 (hd u hu)⟩
theorem P3.meet {top way : Int} {fr : List Fr} {ms : MS} (h : P3 top way fr ms) {u : Fr} (hu : u ∈ fr) (he : ¬ u.b < (kn ms u.s).1) : P3 top way fr (msPut ms u.s u.b (mFl ms u.s u.b u.f)) ∧ kn (msPut ms u.s u.b (mFl ms u.s u.b u.f)) u.s = (u.b, top) := by
  obtain ⟨kb, kf, h1, h2, h3, h4⟩ := h u hu
  have hk := kn_some h1
  rw [hk] at he
  have he : ¬ u.b < kb := he
  obtain ⟨hw, hb, hf⟩ : way = 0 ∧ u.b = kb ∧ kf = top := by
    rcases h4 with ⟨a, b, c⟩ | ⟨a, b, c⟩
    · exact ⟨a, by omega, c⟩
    · exact absurd b he
  have hfl : mFl ms u.s u.b u.f = top := by
    unfold mFl
    rw [hk, if_pos hb]
    show max u.f kf = top
    omega
  rw [hfl]
  refine ⟨fun x hx => ?_, kn_put⟩
  by_cases es : x.s = u.s
  · obtain ⟨kb2, kf2, g1, g2, g3, g4⟩ := h x hx
    rw [es, h1] at g1
    cases g1
    refine ⟨u.b, top, by rw [es]; exact msPut_self, g2, g3, .inl ⟨hw, ?_, rfl⟩⟩
    rcases g4 with ⟨_, g5, _⟩ | ⟨g5, _⟩
    · omega
    · omega
  · obtain ⟨kb2, kf2, g1, g2⟩ := h x hx
    exact ⟨kb2, kf2, by rw [msPut_ne es]; exact g1, g2⟩
theorem P3.old_elder {ms : MS} {u : Fr} (he : u.b < (kn ms u.s).1) : nw ms [] true u.s u.b u.n = false := by
  unfold nw
  rw [decide_eq_false (fun z => by omega), Bool.false_and, Bool.false_and]
theorem P3.old_met {top : Int} {ms : MS} {u : Fr} (hk : kn ms u.s = (u.b, top)) (hn : u.n < top) : nw ms [] true u.s u.b u.n = false := by
  unfold nw
  rw [hk, decide_eq_false (p := u.n ≥ (u.b, top).2) (by show ¬ u.n ≥ top; omega)]
  simp
theorem P3.fresh {top way : Int} {fr : List Fr} {ms : MS} (h : P3 top way fr ms) {u : Fr} (hu : u ∈ fr) (h1 : 1 ≤ top) {v : Int} (hv : 0 ≤ v) : nw ms [] true u.s (kn ms u.s).1 (top + v) = true := by
  obtain ⟨kb, kf, g1, g2, g3, g4⟩ := h u hu
  unfold nw
  rw [kn_some g1, decide_eq_true rfl, decide_eq_true (p := top + v ≥ (kb, kf).2) (by show top + v ≥ kf; rcases g4 with ⟨_, _, g⟩ | ⟨_, _, g⟩ <;> omega)]
  rfl
end G

set_option linter.all false
set_option maxRecDepth 100000
set_option maxHeartbeats 4000000
/-! begun once: the plain law of k18, and steps it needs -/
namespace G
open PySem PySem.Spec PyProof.Rows L2
section
variable {H0 H : Hp} {ft : List Addr} {l : List Cell} {t t' : Nat} {p q : Addr} {Q : VK} {K : PySem.W.Frag}
theorem cl_minLK {X : Cx} (K : PySem.W.Frag) (hc : X.calm = true) (h : X.K = K := by rfl) : CallR X (.builtin "min") (rMin K) := by subst h; exact cr_min hc
theorem x_minL {ns : List Int} (S : Sep H0 ft H l) (n : Nat) (h : l[n]? = some (t, p, .lst (ns.map V.int))) (hl : 0 < ns.length) (k : ∀ m, m ∈ ns → (∀ y, y ∈ ns → m ≤ y) → Q (.int m) H) : rMin K [.ref p] H Q := ⟨p, ns, rfl, S.sl n h, hl, k⟩
theorem erase_map {α β : Type} (f : α → β) : ∀ (l : List α) (j : Nat), (l.map f).eraseIdx j = (l.eraseIdx j).map f
  | [], j => rfl
  | x :: r, 0 => rfl
  | x :: r, j + 1 => by show f x :: (r.map f).eraseIdx j = _; rw [erase_map f r j]; rfl
/-- xs.pop(i), xs of ints -/
theorem x_popAt {cs : List Int} {i : Int} (S : Sep H0 ft H l) (n : Nat) (h : l[n]? = some (t, p, .lst (cs.map V.int))) (h0 : 0 ≤ i) (h1 : i < cs.length) (hz : cs.length < 100000) (k : ∀ (c : Int) (cs' : List Int) H', cs'.length ≤ cs.length → Sep H0 ft H' (l.set n (t, p, .lst (cs'.map V.int))) → Q (.int c) H') (ht : t = 1 ∨ t = 2 := by first | exact .inl rfl | exact .inr rfl) : rPopAt (.ref p) [.int i] H Q := by
  have hl : i.toNat < cs.length := by omega
  have hs : seqIndex? i (cs.map V.int).length = some i.toNat := by
    rw [List.length_map]
    unfold seqIndex?
    simp only []
    rw [if_neg (show ¬ i < 0 by omega), if_pos (by rw [decide_eq_true h0, decide_eq_true h1]; rfl)]
  refine ⟨p, cs.map V.int, i, i.toNat, .int cs[i.toNat], rfl, rfl, S.get n h, by omega, by omega, hs, by rw [List.getElem?_map, List.getElem?_eq_getElem hl]; rfl, ?_⟩
  rw [erase_map]
  exact k _ _ _ (List.length_eraseIdx_le _ _) (S.put n _ h ht)
/-- t[a:b] of a tuple, a part of it -/
theorem x_slT {xs : List V} {lo hi : Option Int} (S : Sep H0 ft H l) (hx : H p = some (.tup xs)) (hw : ¬ (HT.sIx xs.length 0 lo = 0 ∧ HT.sIx xs.length xs.length hi = xs.length)) (k : ∀ r H', Sep H0 ft H' ((2, r, .tup (cutV xs lo hi)) :: l) → Q (.ref r) H') : rSlT K (.ref p) lo hi H Q :=
  ⟨p, xs, rfl, .inl (.inl hx), hw, fun r hr => k r _ (S.new hr _)⟩
end
/-- a frame: kind, of whom, boot, number, floor -/
structure F5 where
  k : Str
  s : Str
  b : Int
  n : Int
  f : Int
abbrev f5V (u : F5) : List V := [.str u.k, .str u.s, .int u.b, .int u.n, .int u.f]
abbrev f5D (u : F5) : PyData := .tuple [.str u.k, .str u.s, .int u.b, .int u.n, .int u.f]
/-- its texts can be laid -/
def TxOk (u : F5) : Prop := PyData.canLay0 (.str u.k) = true ∧ PyData.canLay0 (.str u.s) = true
theorem lay_f5 : ∀ us : List F5, (∀ u ∈ us, TxOk u) → PyData.canLayAll0 (us.map f5D) = true
  | [], _ => rfl
  | u :: r, h => by
    obtain ⟨h1, h2⟩ := h u List.mem_cons_self
    rw [List.map_cons, PyData.canLayAll0, lay_f5 r fun x hx => h x (List.mem_cons_of_mem _ hx), Bool.and_true]
    show PyData.canLay0 (.tuple [.str u.k, .str u.s, .int u.b, .int u.n, .int u.f]) = true
    rw [PyData.canLay0, PyData.canLayAll0, PyData.canLayAll0, h1, h2]
    rfl
theorem dep_f5 : ∀ us : List F5, PyData.depthAll (us.map f5D) ≤ 1
  | [] => by rw [List.map_nil]; exact Nat.zero_le _
  | u :: r => by
    rw [List.map_cons, PyData.depthAll]
    have := dep_f5 r
    have h1 : PyData.depth (f5D u) = 1 := rfl
    omega
theorem sh_f5 (us : List F5) (h : ∀ u ∈ us, TxOk u) : SeqAt.shaped (.list (us.map f5D)) = true := by
  unfold SeqAt.shaped
  rw [show PyData.canLay0 (.list (us.map f5D)) = true from lay_f5 us h, PyData.depth, Bool.true_and]
  exact decide_eq_true (by have := dep_f5 us; omega)
theorem eqv_f5 (us : List F5) : PyData.eqv (.list (us.map f5D)) (.list []) = us.isEmpty := by
  cases us with
  | nil => rfl
  | cons u r => rfl
theorem dp_f5 {K : PySem.W.Frag} {H : Hp} : ∀ {us : List (Addr × F5)}, (∀ u ∈ us, H u.1 = some (.tup (f5V u.2))) → DpAll K H (us.map fun u => V.ref u.1) ((us.map (·.2)).map f5D)
  | [], _ => .nil
  | u :: us, h => .cons (.tup (.of (h u List.mem_cons_self)) (.cons (.str _) (.cons (.str _) (.cons (.int _) (.cons (.int _) (.cons (.int _) .nil)))))) (dp_f5 fun x hx => h x (List.mem_cons_of_mem _ hx))
/-- a list of frames == [] -/
theorem x_eqF {K : PySem.W.Frag} {H0 H : Hp} {ft : List Addr} {l : List Cell} {t t' : Nat} {p q : Addr} {Q : VK} {us : List (Addr × F5)} (S : Sep H0 ft H l) (n m : Nat) (h : l[n]? = some (t, p, .lst (us.map fun u => V.ref u.1))) (h' : l[m]? = some (t', q, .lst [])) (hu : ∀ u ∈ us, H u.1 = some (.tup (f5V u.2))) (hx : ∀ u ∈ us, TxOk u.2) (k : Q (.bl us.isEmpty) H) : rEqD K (.ref p) (.ref q) H Q :=
  ⟨_, _, .lst (S.sl n h) (dp_f5 hu), .lst (S.sl m h') .nil, sh_f5 _ (fun x hx9 => by obtain ⟨y, hy, rfl⟩ := List.mem_map.mp hx9; exact hx y hy), rfl, by rw [eqv_f5, List.isEmpty_map]; exact k⟩
abbrev pst : Str := "past"
abbrev BE := Str × Int × Int
/-- is a call to be begun -/
def dueP (arr : List F5) (u : F5) : Prop := u.k = ("ask" : Str) ∧ (∀ x ∈ arr, x.s = u.s → x.b ≤ u.b) ∧ (∀ x ∈ arr, x.s = u.s → x.b = u.b → x.f ≤ u.n) ∧ u.f ≤ u.n ∧ ¬ ∃ x ∈ arr, x.s = u.s ∧ x.k ≠ pst ∧ x.b = u.b ∧ x.n = u.n
structure Q1 (arr : List F5) (ms : MS) (ks : List (Str × Int)) (bg : List BE) : Prop where
  a : ∀ s kb kf, ms s = some (kb, kf) → (∃ x ∈ arr, x.s = s ∧ x.b = kb ∧ x.f = kf) ∧ ∀ x ∈ arr, x.s = s → x.b ≤ kb ∧ (x.b = kb → x.f ≤ kf)
  a0 : ∀ x ∈ arr, ms x.s ≠ none
  t : ∀ s n, (s, n) ∈ ks ↔ ∃ kb kf, ms s = some (kb, kf) ∧ kf ≤ n ∧ ∃ x ∈ arr, x.s = s ∧ x.b = kb ∧ x.n = n ∧ x.k ≠ pst
  g : ∀ e ∈ bg, ∃ x ∈ arr, x.s = e.1 ∧ x.b = e.2.1 ∧ x.n = e.2.2 ∧ x.k ≠ pst
  gd : bg.Nodup
theorem Q1.nil : Q1 [] (fun _ => none) [] [] where
  a := fun _ _ _ h => nomatch h
  a0 := fun _ h => nomatch h
  t := fun s n => ⟨(fun h => nomatch h), (fun ⟨_, _, h, _⟩ => nomatch h)⟩
  g := fun _ h => nomatch h
  gd := List.nodup_nil
theorem some_kn2 {ms : MS} {s : Str} (h : ms s ≠ none) : ms s = some ((kn ms s).1, (kn ms s).2) := some_kn h
section
variable {arr : List F5} {ms : MS} {ks : List (Str × Int)} {bg : List BE} {u : F5}
theorem mem_snoc {x : F5} : x ∈ arr ++ [u] ↔ x ∈ arr ∨ x = u := by rw [List.mem_append, List.mem_singleton]
theorem Q1.elder (h : Q1 arr ms ks bg) (hb : 1 ≤ u.b) (he : u.b < (kn ms u.s).1) : Q1 (arr ++ [u]) ms ks bg ∧ ¬ dueP arr u := by
  have hm := some_kn2 (met_of (ms := ms) (s := u.s) (by omega))
  obtain ⟨⟨x, hx, h1, h2, _⟩, _⟩ := h.a _ _ _ hm
  refine ⟨⟨fun s kb kf e => ?_, fun y hy => (mem_snoc.mp hy).elim (h.a0 y) (fun e => by rw [e, hm]; exact fun z => nomatch z), fun s n => ?_, fun e he => let ⟨y, hy, r⟩ := h.g e he; ⟨y, mem_snoc.mpr (.inl hy), r⟩, h.gd⟩, fun d => ?_⟩
  · obtain ⟨⟨y, hy, r⟩, h4⟩ := h.a s kb kf e
    refine ⟨⟨y, mem_snoc.mpr (.inl hy), r⟩, fun z hz es => ?_⟩
    rcases mem_snoc.mp hz with hz | rfl
    · exact h4 z hz es
    · rw [es, e] at hm
      have hk : kn ms s = (kb, kf) := (Option.some.inj hm).symm
      rw [es, hk] at he
      have he : z.b < kb := he
      exact ⟨by omega, fun q => by omega⟩
  · rw [h.t s n]
    constructor
    · rintro ⟨kb, kf, e, h3, y, hy, r⟩
      exact ⟨kb, kf, e, h3, y, mem_snoc.mpr (.inl hy), r⟩
    · rintro ⟨kb, kf, e, h3, y, hy, es, eb, r⟩
      rcases mem_snoc.mp hy with hy | rfl
      · exact ⟨kb, kf, e, h3, y, hy, es, eb, r⟩
      · exfalso
        rw [es, kn_some e] at he
        have he : y.b < kb := he
        omega
  · have := d.2.1 x hx h1
    omega
/-- behind a meeting: what the table holds, of what has arrived ahead -/
theorem Q1.met (h : Q1 arr ms ks bg) (hb : 1 ≤ u.b) (he : ¬ u.b < (kn ms u.s).1) :
    (∀ s kb kf, msPut ms u.s u.b (mFl ms u.s u.b u.f) s = some (kb, kf) → (∃ x ∈ arr ++ [u], x.s = s ∧ x.b = kb ∧ x.f = kf) ∧ ∀ x ∈ arr ++ [u], x.s = s → x.b ≤ kb ∧ (x.b = kb → x.f ≤ kf)) ∧ (∀ x ∈ arr ++ [u], msPut ms u.s u.b (mFl ms u.s u.b u.f) x.s ≠ none) ∧
    (∀ s n, (s, n) ∈ ksOut u.s (mAl ms u.s u.b) (mFl ms u.s u.b u.f) ks ↔ ∃ kb kf, msPut ms u.s u.b (mFl ms u.s u.b u.f) s = some (kb, kf) ∧ kf ≤ n ∧ ∃ x ∈ arr, x.s = s ∧ x.b = kb ∧ x.n = n ∧ x.k ≠ pst) := by
  -- what is known of its boots
  have hle : ∀ x ∈ arr, x.s = u.s → x.b ≤ (kn ms u.s).1 ∧ (x.b = (kn ms u.s).1 → x.f ≤ (kn ms u.s).2) := fun x hx es => by
    have hm := h.a0 x hx
    rw [es] at hm
    exact (h.a _ _ _ (some_kn2 hm)).2 x hx es
  refine ⟨fun s kb kf e => ?_, fun x hx => ?_, fun s n => ?_⟩
  · by_cases es : s = u.s
    · subst es
      rw [msPut_self] at e
      cases e
      constructor
      · by_cases c : u.b = (kn ms u.s).1
        · have hfl : mFl ms u.s u.b u.f = max u.f (kn ms u.s).2 := if_pos c
          rw [hfl]
          rcases Int.le_total (kn ms u.s).2 u.f with c2 | c2
          · exact ⟨u, mem_snoc.mpr (.inr rfl), rfl, rfl, by omega⟩
          · by_cases hz : ms u.s = none
            · exfalso
              rw [kn_none hz] at c
              have c : u.b = 0 := c
              omega
            · obtain ⟨⟨x, hx, h1, h2, h3⟩, _⟩ := h.a _ _ _ (some_kn2 hz)
              exact ⟨x, mem_snoc.mpr (.inl hx), h1, by rw [h2, c], by rw [h3]; omega⟩
        · exact ⟨u, mem_snoc.mpr (.inr rfl), rfl, rfl, by unfold mFl; rw [if_neg c]⟩
      · intro x hx es
        rcases mem_snoc.mp hx with hx | rfl
        · obtain ⟨h1, h2⟩ := hle x hx es
          refine ⟨by omega, fun eb => ?_⟩
          have c : u.b = (kn ms u.s).1 := by omega
          have hfl : mFl ms u.s u.b u.f = max u.f (kn ms u.s).2 := if_pos c
          have := h2 (by omega)
          rw [hfl]; omega
        · refine ⟨Int.le_refl _, fun _ => ?_⟩
          unfold mFl
          split <;> omega
    · rw [msPut_ne es] at e
      obtain ⟨⟨y, hy, r⟩, h4⟩ := h.a s kb kf e
      refine ⟨⟨y, mem_snoc.mpr (.inl hy), r⟩, fun z hz e2 => ?_⟩
      rcases mem_snoc.mp hz with hz | rfl
      · exact h4 z hz e2
      · exact absurd e2.symm es
  · by_cases es : x.s = u.s
    · rw [es, msPut_self]; exact fun z => nomatch z
    · rw [msPut_ne es]
      rcases mem_snoc.mp hx with hx | rfl
      · exact h.a0 x hx
      · exact absurd rfl es
  · rw [mem_ksOut, h.t s n]
    by_cases es : s = u.s
    · subst es
      rw [msPut_self]
      constructor
      · rintro ⟨⟨kb, kf, e, h3, x, hx, e1, e2, r⟩, hno⟩
        have hk := kn_some e
        have hal : ¬ mAl ms u.s u.b = true := fun z => hno ⟨rfl, .inl z⟩
        have hfl : ¬ n < mFl ms u.s u.b u.f := fun z => hno ⟨rfl, .inr z⟩
        have c : u.b = kb := by
          unfold mAl at hal
          rw [hk] at hal
          exact Decidable.not_not.mp (fun z => hal (decide_eq_true z))
        exact ⟨u.b, _, rfl, by omega, x, hx, e1, by omega, r⟩
      · rintro ⟨kb, kf, e, h3, x, hx, e1, e2, r⟩
        cases e
        have hm := h.a0 x hx
        rw [e1] at hm
        have hk := some_kn2 hm
        obtain ⟨h1, _⟩ := hle x hx e1
        have c : u.b = (kn ms u.s).1 := by omega
        have hfl : mFl ms u.s u.b u.f = max u.f (kn ms u.s).2 := if_pos c
        rw [hfl] at h3
        refine ⟨⟨_, _, hk, by omega, x, hx, e1, by omega, r⟩, fun z => ?_⟩
        rcases z.2 with z | z
        · unfold mAl at z
          exact of_decide_eq_true z c
        · rw [hfl] at z; omega
    · rw [msPut_ne es]
      exact ⟨fun z => z.1, fun z => ⟨z, fun w => es w.1⟩⟩

theorem Q1.fl (h : Q1 arr ms ks bg) (hb : 1 ≤ u.b) (he : ¬ u.b < (kn ms u.s).1) : ((∀ x ∈ arr, x.s = u.s → x.b = u.b → x.f ≤ u.n) ∧ u.f ≤ u.n) ↔ mFl ms u.s u.b u.f ≤ u.n := by
  obtain ⟨⟨x, hx, h1, h2, h3⟩, h4⟩ := (h.met hb he).1 u.s _ _ msPut_self
  constructor
  · rintro ⟨g1, g2⟩
    rcases mem_snoc.mp hx with hx | rfl
    · rw [← h3]; exact g1 x hx h1 h2
    · rw [← h3]; exact g2
  · intro g
    exact ⟨fun y hy es eb => Int.le_trans ((h4 y (mem_snoc.mpr (.inl hy)) es).2 eb) g, Int.le_trans ((h4 u (mem_snoc.mpr (.inr rfl)) rfl).2 rfl) g⟩
theorem Q1.le (h : Q1 arr ms ks bg) (he : ¬ u.b < (kn ms u.s).1) : ∀ x ∈ arr, x.s = u.s → x.b ≤ u.b := fun x hx es => by
  have hm := h.a0 x hx
  rw [es] at hm
  have := ((h.a _ _ _ (some_kn2 hm)).2 x hx es).1
  omega
theorem Q1.old (h : Q1 arr ms ks bg) (hb : 1 ≤ u.b) (he : ¬ u.b < (kn ms u.s).1) (hn : u.k = pst ∨ (u.s, u.n) ∈ ksOut u.s (mAl ms u.s u.b) (mFl ms u.s u.b u.f) ks ∨ u.n < mFl ms u.s u.b u.f) :
    Q1 (arr ++ [u]) (msPut ms u.s u.b (mFl ms u.s u.b u.f)) (ksOut u.s (mAl ms u.s u.b) (mFl ms u.s u.b u.f) ks) bg ∧ ¬ dueP arr u := by
  obtain ⟨m1, m2, m3⟩ := h.met hb he
  refine ⟨⟨m1, m2, fun s n => ?_, fun e he => let ⟨y, hy, r⟩ := h.g e he; ⟨y, mem_snoc.mpr (.inl hy), r⟩, h.gd⟩, fun d => ?_⟩
  · rw [m3 s n]
    constructor
    · rintro ⟨kb, kf, e, h3, y, hy, r⟩
      exact ⟨kb, kf, e, h3, y, mem_snoc.mpr (.inl hy), r⟩
    · rintro ⟨kb, kf, e, h3, y, hy, es, eb, en, ek⟩
      rcases mem_snoc.mp hy with hy | rfl
      · exact ⟨kb, kf, e, h3, y, hy, es, eb, en, ek⟩
      · subst es en
        rw [msPut_self] at e
        cases e
        rcases hn with hn | hn | hn
        · exact absurd hn ek
        · obtain ⟨kb, kf, e, h5, x, hx, r⟩ := (m3 _ _).mp hn
          rw [msPut_self] at e
          cases e
          exact ⟨_, _, msPut_self, h3, x, hx, r⟩
        · omega
  · obtain ⟨d1, d2, d3, d4, d5⟩ := d
    have hfl := (h.fl hb he).mp ⟨d3, d4⟩
    rcases hn with hn | hn | hn
    · rw [hn] at d1; exact absurd d1 (by decide)
    · obtain ⟨kb, kf, e, h5, x, hx, e1, e2, e3, e4⟩ := (m3 _ _).mp hn
      rw [msPut_self] at e
      cases e
      exact d5 ⟨x, hx, e1, e4, e2, e3⟩
    · omega
theorem Q1.new (h : Q1 arr ms ks bg) (hb : 1 ≤ u.b) (he : ¬ u.b < (kn ms u.s).1) (hk : u.k ≠ pst) (hn : (u.s, u.n) ∉ ksOut u.s (mAl ms u.s u.b) (mFl ms u.s u.b u.f) ks) (hf : mFl ms u.s u.b u.f ≤ u.n) :
    Q1 (arr ++ [u]) (msPut ms u.s u.b (mFl ms u.s u.b u.f)) (ksOut u.s (mAl ms u.s u.b) (mFl ms u.s u.b u.f) ks ++ [(u.s, u.n)]) bg ∧ (dueP arr u ↔ u.k = ("ask" : Str)) := by
  obtain ⟨m1, m2, m3⟩ := h.met hb he
  refine ⟨⟨m1, m2, fun s n => ?_, fun e he => let ⟨y, hy, r⟩ := h.g e he; ⟨y, mem_snoc.mpr (.inl hy), r⟩, h.gd⟩, ⟨fun d => d.1, fun ek => ⟨ek, h.le he, ((h.fl hb he).mpr hf).1, ((h.fl hb he).mpr hf).2, fun ⟨x, hx, e1, e2, e3, e4⟩ => hn ((m3 _ _).mpr ⟨_, _, msPut_self, hf, x, hx, e1, e3, e4, e2⟩)⟩⟩⟩
  rw [List.mem_append, List.mem_singleton, m3 s n]
  constructor
  · rintro (⟨kb, kf, e, h3, y, hy, r⟩ | e)
    · exact ⟨kb, kf, e, h3, y, mem_snoc.mpr (.inl hy), r⟩
    · cases e
      exact ⟨_, _, msPut_self, hf, u, mem_snoc.mpr (.inr rfl), rfl, rfl, rfl, hk⟩
  · rintro ⟨kb, kf, e, h3, y, hy, es, eb, en, ek⟩
    rcases mem_snoc.mp hy with hy | rfl
    · exact .inl ⟨kb, kf, e, h3, y, hy, es, eb, en, ek⟩
    · exact .inr (by rw [es, en])
theorem Q1.beg {ms' : MS} {ks' : List (Str × Int)} (h0 : Q1 arr ms' ks' bg) (h : Q1 (arr ++ [u]) ms ks bg) (hd : dueP arr u) : Q1 (arr ++ [u]) ms ks (bg ++ [(u.s, u.b, u.n)]) := by
  refine ⟨h.a, h.a0, h.t, fun e he => ?_, ?_⟩
  · rcases List.mem_append.mp he with he | he
    · exact h.g e he
    · rw [List.mem_singleton.mp he]
      exact ⟨u, mem_snoc.mpr (.inr rfl), rfl, rfl, rfl, by rw [hd.1]; decide⟩
  · refine List.nodup_append.mpr ⟨h.gd, List.nodup_cons.mpr ⟨List.not_mem_nil, List.nodup_nil⟩, fun a ha b hb e => ?_⟩
    rw [List.mem_singleton.mp hb] at e
    rw [e] at ha
    obtain ⟨x, hx, e1, e2, e3, e4⟩ := h0.g _ ha
    exact hd.2.2.2.2 ⟨x, hx, e1, e4, e2, e3⟩
end
end G

set_option linter.all false
set_option maxRecDepth 100000
set_option maxHeartbeats 4000000
/-! data of any kind: what a value stands for in a heap; isinstance, == [], truths of lists of truths -/
namespace G
open PySem PySem.Spec PyProof.Rows L2
def keyD : Key → PyData
  | .inl i => .int i
  | .inr s => .str s
mutual
inductive DH (H : Hp) : V → PyData → Prop
  | non : DH H .non .none
  | bl (b : Bool) : DH H (.bl b) (.bool b)
  | int (i : Int) : DH H (.int i) (.int i)
  | str (s : Str) : s.length ≤ 100000 → DH H (.str s) (.str s)
  | lst {a : Addr} {xs : List V} {ds : List PyData} : H a = some (.lst xs) → DHs H xs ds → DH H (.ref a) (.list ds)
  | tup {a : Addr} {xs : List V} {ds : List PyData} : H a = some (.tup xs) → DHs H xs ds → DH H (.ref a) (.tuple ds)
  | dct {a : Addr} {kvs : List (Key × V)} {ds : List (PyData × PyData)} : H a = some (.dK kvs) → DHk H kvs ds → DH H (.ref a) (.dict ds)
inductive DHs (H : Hp) : List V → List PyData → Prop
  | nil : DHs H [] []
  | cons {v : V} {d : PyData} {xs : List V} {ds : List PyData} : DH H v d → DHs H xs ds → DHs H (v :: xs) (d :: ds)
inductive DHk (H : Hp) : List (Key × V) → List (PyData × PyData) → Prop
  | nil : DHk H [] []
  | cons {k : Key} {v : V} {d : PyData} {xs : List (Key × V)} {ds : List (PyData × PyData)} : DH H v d → DHk H xs ds → DHk H ((k, v) :: xs) ((keyD k, d) :: ds)
end
abbrev Le (H H' : Hp) : Prop := ∀ a o, H a = some o → H' a = some o
section
variable {H H' : Hp} (F : Le H H')
include F
mutual
theorem DH.mono : ∀ {v : V} {d : PyData}, DH H v d → DH H' v d
  | _, _, .non => .non
  | _, _, .bl b => .bl b
  | _, _, .int i => .int i
  | _, _, .str s h => .str s h
  | _, _, .lst h r => .lst (F _ _ h) r.mono
  | _, _, .tup h r => .tup (F _ _ h) r.mono
  | _, _, .dct h r => .dct (F _ _ h) r.mono
theorem DHs.mono : ∀ {xs : List V} {ds : List PyData}, DHs H xs ds → DHs H' xs ds
  | _, _, .nil => .nil
  | _, _, .cons h r => .cons h.mono r.mono
theorem DHk.mono : ∀ {xs : List (Key × V)} {ds : List (PyData × PyData)}, DHk H xs ds → DHk H' xs ds
  | _, _, .nil => .nil
  | _, _, .cons h r => .cons h.mono r.mono
end
end
section
variable {H : Hp}
theorem DHs.len : ∀ {xs : List V} {ds : List PyData}, DHs H xs ds → xs.length = ds.length
  | _, _, .nil => rfl
  | _, _, .cons _ r => by rw [List.length_cons, List.length_cons, r.len]
theorem DHk.len : ∀ {xs : List (Key × V)} {ds : List (PyData × PyData)}, DHk H xs ds → xs.length = ds.length
  | _, _, .nil => rfl
  | _, _, .cons _ r => by rw [List.length_cons, List.length_cons, r.len]
theorem DHs.get : ∀ {xs : List V} {ds : List PyData} {i : Nat} {x : V}, DHs H xs ds → xs[i]? = some x → ∃ d, ds[i]? = some d ∧ DH H x d
  | _, _, 0, _, .cons h _, e => by cases (Option.some.inj e); exact ⟨_, rfl, h⟩
  | _, _, i + 1, _, .cons _ r, e => r.get (i := i) (by simpa using e)
theorem DHs.getD : ∀ {xs : List V} {ds : List PyData} {i : Nat} {d : PyData}, DHs H xs ds → ds[i]? = some d → ∃ x, xs[i]? = some x ∧ DH H x d
  | _, _, 0, _, .cons h _, e => by cases (Option.some.inj e); exact ⟨_, rfl, h⟩
  | _, _, i + 1, _, .cons _ r, e => r.getD (i := i) (by simpa using e)
theorem DHs.app : ∀ {xs ys : List V} {ds es : List PyData}, DHs H xs ds → DHs H ys es → DHs H (xs ++ ys) (ds ++ es)
  | _, _, _, _, .nil, h => h
  | _, _, _, _, .cons a r, h => .cons a (r.app h)
theorem DHs.take : ∀ {xs : List V} {ds : List PyData} (n : Nat), DHs H xs ds → DHs H (xs.take n) (ds.take n)
  | _, _, 0, _ => .nil
  | _, _, _ + 1, .nil => .nil
  | _, _, n + 1, .cons a r => .cons a (r.take n)
theorem DHs.drop : ∀ {xs : List V} {ds : List PyData} (n : Nat), DHs H xs ds → DHs H (xs.drop n) (ds.drop n)
  | _, _, 0, h => h
  | _, _, _ + 1, .nil => .nil
  | _, _, n + 1, .cons _ r => r.drop n
theorem DHs.rev : ∀ {xs : List V} {ds : List PyData}, DHs H xs ds → DHs H xs.reverse ds.reverse
  | _, _, .nil => .nil
  | _, _, .cons a r => by rw [List.reverse_cons, List.reverse_cons]; exact r.rev.app (.cons a .nil)
theorem DHs.rep {xs : List V} {ds : List PyData} (h : DHs H xs ds) : ∀ n : Nat, DHs H (List.replicate n xs).flatten (List.replicate n ds).flatten
  | 0 => .nil
  | n + 1 => by rw [List.replicate_succ, List.replicate_succ, List.flatten_cons, List.flatten_cons]; exact h.app (h.rep n)
def isStrD : PyData → Bool
  | .str _ => true
  | _ => false
def isIntD : PyData → Bool
  | .int _ => true
  | .bool _ => true
  | _ => false
def isBoolD : PyData → Bool
  | .bool _ => true
  | _ => false
def isTupD : PyData → Bool
  | .tuple _ => true
  | _ => false
def isLstD : PyData → Bool
  | .list _ => true
  | _ => false
def isDctD : PyData → Bool
  | .dict _ => true
  | _ => false
variable {K : PySem.W.Frag} {v : V} {d : PyData} {Q : VK}
theorem DH.isStr (h : DH H v d) (q : Q (.bl (isStrD d)) H) : rIsi K [v, .ty "str"] H Q := by
  cases h with
  | non => exact x_isi ty_non (by decide +kernel : kitB "NoneType" "str" = some false) q
  | bl b => exact x_isi ty_bl (by decide +kernel : kitB "bool" "str" = some false) q
  | int i => exact x_isi ty_int (by decide +kernel : kitB "int" "str" = some false) q
  | str s hl => exact x_isi ty_str (by decide +kernel : kitB "str" "str" = some true) q
  | lst h r => exact x_isi (.base (.lst h)) (by decide +kernel : kitB "list" "str" = some false) q
  | tup h r => exact x_isi (.base (.tup h)) (by decide +kernel : kitB "tuple" "str" = some false) q
  | dct h r => exact x_isi (.base (.dK h)) (by decide +kernel : kitB "dict" "str" = some false) q
theorem DH.isInt (h : DH H v d) (q : Q (.bl (isIntD d)) H) : rIsi K [v, .ty "int"] H Q := by
  cases h with
  | non => exact x_isi ty_non (by decide +kernel : kitB "NoneType" "int" = some false) q
  | bl b => exact x_isi ty_bl (by decide +kernel : kitB "bool" "int" = some true) q
  | int i => exact x_isi ty_int (by decide +kernel : kitB "int" "int" = some true) q
  | str s hl => exact x_isi ty_str (by decide +kernel : kitB "str" "int" = some false) q
  | lst h r => exact x_isi (.base (.lst h)) (by decide +kernel : kitB "list" "int" = some false) q
  | tup h r => exact x_isi (.base (.tup h)) (by decide +kernel : kitB "tuple" "int" = some false) q
  | dct h r => exact x_isi (.base (.dK h)) (by decide +kernel : kitB "dict" "int" = some false) q
theorem DH.isBool (h : DH H v d) (q : Q (.bl (isBoolD d)) H) : rIsi K [v, .ty "bool"] H Q := by
  cases h with
  | non => exact x_isi ty_non (by decide +kernel : kitB "NoneType" "bool" = some false) q
  | bl b => exact x_isi ty_bl (by decide +kernel : kitB "bool" "bool" = some true) q
  | int i => exact x_isi ty_int (by decide +kernel : kitB "int" "bool" = some false) q
  | str s hl => exact x_isi ty_str (by decide +kernel : kitB "str" "bool" = some false) q
  | lst h r => exact x_isi (.base (.lst h)) (by decide +kernel : kitB "list" "bool" = some false) q
  | tup h r => exact x_isi (.base (.tup h)) (by decide +kernel : kitB "tuple" "bool" = some false) q
  | dct h r => exact x_isi (.base (.dK h)) (by decide +kernel : kitB "dict" "bool" = some false) q
theorem DH.isTup (h : DH H v d) (q : Q (.bl (isTupD d)) H) : rIsi K [v, .ty "tuple"] H Q := by
  cases h with
  | non => exact x_isi ty_non (by decide +kernel : kitB "NoneType" "tuple" = some false) q
  | bl b => exact x_isi ty_bl (by decide +kernel : kitB "bool" "tuple" = some false) q
  | int i => exact x_isi ty_int (by decide +kernel : kitB "int" "tuple" = some false) q
  | str s hl => exact x_isi ty_str (by decide +kernel : kitB "str" "tuple" = some false) q
  | lst h r => exact x_isi (.base (.lst h)) (by decide +kernel : kitB "list" "tuple" = some false) q
  | tup h r => exact x_isi (.base (.tup h)) (by decide +kernel : kitB "tuple" "tuple" = some true) q
  | dct h r => exact x_isi (.base (.dK h)) (by decide +kernel : kitB "dict" "tuple" = some false) q
theorem DH.isLst (h : DH H v d) (q : Q (.bl (isLstD d)) H) : rIsi K [v, .ty "list"] H Q := by
  cases h with
  | non => exact x_isi ty_non (by decide +kernel : kitB "NoneType" "list" = some false) q
  | bl b => exact x_isi ty_bl (by decide +kernel : kitB "bool" "list" = some false) q
  | int i => exact x_isi ty_int (by decide +kernel : kitB "int" "list" = some false) q
  | str s hl => exact x_isi ty_str (by decide +kernel : kitB "str" "list" = some false) q
  | lst h r => exact x_isi (.base (.lst h)) (by decide +kernel : kitB "list" "list" = some true) q
  | tup h r => exact x_isi (.base (.tup h)) (by decide +kernel : kitB "tuple" "list" = some false) q
  | dct h r => exact x_isi (.base (.dK h)) (by decide +kernel : kitB "dict" "list" = some false) q
theorem DH.isDct (h : DH H v d) (q : Q (.bl (isDctD d)) H) : rIsi K [v, .ty "dict"] H Q := by
  cases h with
  | non => exact x_isi ty_non (by decide +kernel : kitB "NoneType" "dict" = some false) q
  | bl b => exact x_isi ty_bl (by decide +kernel : kitB "bool" "dict" = some false) q
  | int i => exact x_isi ty_int (by decide +kernel : kitB "int" "dict" = some false) q
  | str s hl => exact x_isi ty_str (by decide +kernel : kitB "str" "dict" = some false) q
  | lst h r => exact x_isi (.base (.lst h)) (by decide +kernel : kitB "list" "dict" = some false) q
  | tup h r => exact x_isi (.base (.tup h)) (by decide +kernel : kitB "tuple" "dict" = some false) q
  | dct h r => exact x_isi (.base (.dK h)) (by decide +kernel : kitB "dict" "dict" = some true) q
theorem DH.str_of (h : DH H v d) (c : isStrD d = true) : ∃ s, v = .str s ∧ d = .str s ∧ s.length ≤ 100000 := by
  cases h <;> first | exact ⟨_, rfl, rfl, by assumption⟩ | cases c
theorem DH.bl_of (h : DH H v d) (c : isBoolD d = true) : ∃ b, v = .bl b ∧ d = .bool b := by
  cases h <;> first | exact ⟨_, rfl, rfl⟩ | cases c
theorem DH.int_of (h : DH H v d) (c : isIntD d = true) : (∃ i, v = .int i ∧ d = .int i) ∨ ∃ b, v = .bl b ∧ d = .bool b := by
  cases h <;> first | exact .inl ⟨_, rfl, rfl⟩ | exact .inr ⟨_, rfl, rfl⟩ | cases c
theorem DH.tup_of (h : DH H v d) (c : isTupD d = true) : ∃ a xs ds, v = .ref a ∧ d = .tuple ds ∧ H a = some (.tup xs) ∧ DHs H xs ds := by
  cases h <;> first | exact ⟨_, _, _, rfl, rfl, by assumption, by assumption⟩ | cases c
theorem DH.lst_of (h : DH H v d) (c : isLstD d = true) : ∃ a xs ds, v = .ref a ∧ d = .list ds ∧ H a = some (.lst xs) ∧ DHs H xs ds := by
  cases h <;> first | exact ⟨_, _, _, rfl, rfl, by assumption, by assumption⟩ | cases c
theorem DH.dct_of (h : DH H v d) (c : isDctD d = true) : ∃ a kvs ds, v = .ref a ∧ d = .dict ds ∧ H a = some (.dK kvs) ∧ DHk H kvs ds := by
  cases h <;> first | exact ⟨_, _, _, rfl, rfl, by assumption, by assumption⟩ | cases c
theorem DH.str1 {s : Str} (h : DH H v (.str s)) : v = .str s ∧ s.length ≤ 100000 := by cases h; exact ⟨rfl, by assumption⟩
theorem DH.int1 {s : Int} (h : DH H v (.int s)) : v = .int s := by cases h; rfl
theorem DH.bl1 {s : Bool} (h : DH H v (.bool s)) : v = .bl s := by cases h; rfl
theorem DH.non1 (h : DH H v .none) : v = .non := by cases h; rfl
theorem DH.tup1 {ds : List PyData} (h : DH H v (.tuple ds)) : ∃ a xs, v = .ref a ∧ H a = some (.tup xs) ∧ DHs H xs ds := by cases h; exact ⟨_, _, rfl, by assumption, by assumption⟩
theorem DH.lst1 {ds : List PyData} (h : DH H v (.list ds)) : ∃ a xs, v = .ref a ∧ H a = some (.lst xs) ∧ DHs H xs ds := by cases h; exact ⟨_, _, rfl, by assumption, by assumption⟩
theorem DH.dct1 {ds : List (PyData × PyData)} (h : DH H v (.dict ds)) : ∃ a kvs, v = .ref a ∧ H a = some (.dK kvs) ∧ DHk H kvs ds := by cases h; exact ⟨_, _, rfl, by assumption, by assumption⟩
theorem DHs.strs : ∀ ss : List Str, (∀ s ∈ ss, s.length ≤ 100000) → DHs H (ss.map V.str) (ss.map PyData.str)
  | [], _ => .nil
  | s :: r, h => .cons (.str s (h s List.mem_cons_self)) (DHs.strs r fun x m => h x (List.mem_cons_of_mem _ m))
theorem DHs.unc : ∀ {xs : List V} {ds : List PyData}, DHs H xs ds → 0 < xs.length → ∃ x xs' d ds', xs = x :: xs' ∧ ds = d :: ds' ∧ DH H x d ∧ DHs H xs' ds'
  | _, _, .cons h r, _ => ⟨_, _, _, _, rfl, rfl, h, r⟩
theorem DHs.nil_of {xs : List V} {ds : List PyData} (h : DHs H xs ds) (e : xs.length = 0) : xs = [] ∧ ds = [] := by
  cases h with
  | nil => exact ⟨rfl, rfl⟩
  | cons _ _ => cases e
end
/-! ### the tail of cells as a heap of its own -/
def tl (T : List Cell) : Hp := fun a => (T.find? fun c => decide (c.2.1 = a)).map (·.2.2)
theorem tl_of {T : List Cell} {a : Addr} {o : HO} (h : tl T a = some o) : ∃ t, (t, a, o) ∈ T := by
  unfold tl at h
  obtain ⟨c, hc, e⟩ := Option.map_eq_some_iff.mp h
  have h1 : c.2.1 = a := by have := List.find?_some hc; simpa using this
  have h2 := List.mem_of_find?_eq_some hc
  obtain ⟨t, b, u⟩ := c
  cases h1
  cases e
  exact ⟨t, h2⟩
theorem tl_mem {T : List Cell} (nd : (T.map (·.2.1)).Nodup) {c : Cell} (h : c ∈ T) : tl T c.2.1 = some c.2.2 := by
  unfold tl
  induction T with
  | nil => cases h
  | cons x T ih =>
    obtain ⟨n1, n2⟩ := List.nodup_cons.mp nd
    by_cases e : x.2.1 = c.2.1
    · rw [List.find?_cons_of_pos (by exact decide_eq_true e)]
      rcases List.mem_cons.mp h with r | m
      · rw [r]; rfl
      · exact absurd (List.mem_map.mpr ⟨c, m, e.symm⟩) n1
    · rw [List.find?_cons_of_neg (by rw [decide_eq_false e]; exact Bool.false_ne_true)]
      rcases List.mem_cons.mp h with r | m
      · exact absurd (by rw [r]) e
      · exact ih n2 m
section
variable {H0 H H' : Hp} {ft : List Addr} {l m T T' : List Cell} {t : Nat} {a p : Addr} {o : HO}
theorem Sep.tl (S : Sep H0 ft H l) (h : ∀ c ∈ T, c ∈ l) : Le (tl T) H := fun a o e => by
  obtain ⟨t, m⟩ := tl_of e
  exact S.rd _ (h _ m)
theorem tl_le (nd : (T'.map (·.2.1)).Nodup) (h : ∀ c ∈ T, ∃ c' ∈ T', c'.2 = c.2) : Le (tl T) (tl T') := fun a o e => by
  obtain ⟨t, m⟩ := tl_of e
  obtain ⟨c', m', e'⟩ := h _ m
  have := tl_mem nd m'
  rw [e'] at this
  exact this
theorem Sep.ndT (S : Sep H0 ft H (l ++ T)) : (T.map (·.2.1)).Nodup := by
  have := S.nd
  rw [List.map_append] at this
  exact (List.nodup_append.mp this).2.1
theorem Sep.tlT (S : Sep H0 ft H (l ++ T)) : Le (G.tl T) H := S.tl fun c h => List.mem_append_right _ h
/-- the tail grown -/
theorem tl_grow (nd : ((m ++ T).map (·.2.1)).Nodup) : Le (tl T) (tl (m ++ T)) := tl_le nd fun c h => ⟨c, List.mem_append_right _ h, rfl⟩
theorem tl_growL (nd : ((m ++ T).map (·.2.1)).Nodup) : Le (tl m) (tl (m ++ T)) := tl_le nd fun c h => ⟨c, List.mem_append_left _ h, rfl⟩
theorem Sep.out0 (S : Sep H0 [] H l) : Le H0 H := fun b o e => S.fr b o e (fun h => nomatch h)
end
/-! ### == [] and == () of anything -/
def rEqNil (K : PySem.W.Frag) : R2 := fun x y H Q => ∃ p q xs, x = .ref p ∧ y = .ref q ∧ ((SqL K H p xs ∧ SqL K H q []) ∨ (SqT K H p xs ∧ SqT K H q [])) ∧ Q (.bl (decide (xs = []))) H
def rNeNil (K : PySem.W.Frag) : R2 := fun x y H Q => ∃ p q xs, x = .ref p ∧ y = .ref q ∧ ((SqL K H p xs ∧ SqL K H q []) ∨ (SqT K H p xs ∧ SqT K H q [])) ∧ Q (.bl (!decide (xs = []))) H
section
variable {X : Cx}
theorem op_eqNil (K : PySem.W.Frag) (hu : X.A.units < cLine) (hK : X.K = K := by rfl) : OpR X (compareOp .Eq) (rEqNil K) := by
  subst hK
  intro pins s σ H x y v u Q I rx ry ⟨p, q, xs, ex, ey, h, z⟩
  subst ex; subst ey
  obtain rfl : v = Value.ref p := rx
  obtain rfl : u = Value.ref q := ry
  rcases h with ⟨h1, h2⟩ | ⟨h1, h2⟩
  · obtain ⟨i1, r1, p1, _⟩ := I.list h1
    obtain ⟨i2, r2, p2, _⟩ := I.list h2
    cases r2
    by_cases hx : xs = []
    · subst hx
      cases r1
      exact SeqAt.eq_listAt (e := fun _ => true) p1.isList p2.isList rfl hu (fun j j1 _ => absurd j1 (Nat.not_lt_zero j)) ⟨.bl true, H, I, rfl, z⟩
    · have hl := r1.length
      rw [decide_eq_false hx] at z
      refine SeqAt.eq_list_lengthsAt p1.isList p2.isList ?_ hu ⟨.bl false, H, I, rfl, z⟩
      rw [bne_iff_ne, List.size_toArray]
      intro e
      exact hx (List.length_eq_zero_iff.mp (by rw [hl, e]; rfl))
  · obtain ⟨i1, r1, p1, _⟩ := I.tuple h1
    obtain ⟨i2, r2, p2, _⟩ := I.tuple h2
    cases r2
    have hl := r1.length
    refine SeqAt.eq_tupleAt (e := fun _ => true) p1 p2 hu (fun j _ j2 => absurd j2 (Nat.not_lt_zero j)) ⟨.bl _, H, I, rfl, ?_⟩
    have e : ((List.range (min i1.toArray.size ([] : List Value).toArray.size)).all (fun _ => true) && (i1.toArray.size == ([] : List Value).toArray.size)) = decide (xs = []) := by
      rw [show (List.range (min i1.toArray.size ([] : List Value).toArray.size)) = [] by rw [show ([] : List Value).toArray.size = 0 from rfl, Nat.min_zero]; rfl, List.all_nil, Bool.true_and, List.size_toArray, ← hl]
      cases xs <;> rfl
    rw [e]; exact z
theorem op_neNil (K : PySem.W.Frag) (hu : X.A.units < cLine) (hK : X.K = K := by rfl) : OpR X (compareOp .NotEq) (rNeNil K) := by
  subst hK
  intro pins s σ H x y v u Q I rx ry ⟨p, q, xs, ex, ey, h, z⟩
  subst ex; subst ey
  obtain rfl : v = Value.ref p := rx
  obtain rfl : u = Value.ref q := ry
  rcases h with ⟨h1, h2⟩ | ⟨h1, h2⟩
  · obtain ⟨i1, r1, p1, _⟩ := I.list h1
    obtain ⟨i2, r2, p2, _⟩ := I.list h2
    cases r2
    by_cases hx : xs = []
    · subst hx
      cases r1
      exact SeqAt.RcNeAt.lists (e := fun _ => true) p1.isList p2.isList rfl hu (fun j j1 _ => absurd j1 (Nat.not_lt_zero j)) X.prog X.w _ _ ⟨.bl false, H, I, rfl, z⟩
    · have hl := r1.length
      rw [decide_eq_false hx] at z
      refine SeqAt.RcNeAt.lists_lengths p1.isList p2.isList ?_ hu X.prog X.w _ _ ⟨.bl true, H, I, rfl, z⟩
      rw [bne_iff_ne, List.size_toArray]
      intro e
      exact hx (List.length_eq_zero_iff.mp (by rw [hl, e]; rfl))
  · obtain ⟨i1, r1, p1, _⟩ := I.tuple h1
    obtain ⟨i2, r2, p2, _⟩ := I.tuple h2
    cases r2
    have hl := r1.length
    refine SeqAt.RcNeAt.tuples (e := fun _ => true) p1 p2 hu (fun j _ j2 => absurd j2 (Nat.not_lt_zero j)) X.prog X.w _ _ ⟨.bl _, H, I, rfl, ?_⟩
    have e : ((List.range (min i1.toArray.size ([] : List Value).toArray.size)).all (fun _ => true) && (i1.toArray.size == ([] : List Value).toArray.size)) = decide (xs = []) := by
      rw [show (List.range (min i1.toArray.size ([] : List Value).toArray.size)) = [] by rw [show ([] : List Value).toArray.size = 0 from rfl, Nat.min_zero]; rfl, List.all_nil, Bool.true_and, List.size_toArray, ← hl]
      cases xs <;> rfl
    rw [e]; exact z
theorem cl_allK (K : PySem.W.Frag) (hc : X.calm = true) (h : X.K = K := by rfl) : CallR X (.builtin "all") (rAll K) := by subst h; exact cr_all hc
def rLenX (K : PySem.W.Frag) : List V → Hp → VK → Prop := fun xs H Q => ∃ x n, xs = [x] ∧ LenV K x H n ∧ Q (.int n) H
theorem cl_lenX (K : PySem.W.Frag) (h : X.K = K := by rfl) : CallR X (.builtin "len") (rLenX K) := by subst h; exact call_len
def rTupOf (K : PySem.W.Frag) : List V → Hp → VK → Prop := fun xs H Q => ∃ p ys, xs = [.ref p] ∧ ((SqL K H p ys ∧ ∀ l, H l = none → Q (.ref l) (upd H l (.tup ys))) ∨ (SqT K H p ys ∧ Q (.ref p) H))
theorem cl_tupleK (K : PySem.W.Frag) (h : X.K = K := by rfl) : CallR X (.type "tuple") (rTupOf K) := by subst h; exact call_tuple_of
theorem op_repTK (K : PySem.W.Frag) (h : X.K = K := by rfl) : OpR X (binaryOp .Mult) (rRepT K) := by subst h; exact op_repT
theorem op_catAK (K : PySem.W.Frag) (h : X.K = K := by rfl) : OpR X (binaryOp .Add) (rCatA K) := by subst h; exact op_catA
theorem sl_tupAK (K : PySem.W.Frag) (h : X.K = K := by rfl) : SlR X (rSlA K) := by subst h; exact sl_tupA
end
section
variable {H0 H : Hp} {ft : List Addr} {l : List Cell} {t : Nat} {a p q : Addr} {K : PySem.W.Frag} {Q : VK}
theorem x_tupL {xs : List V} (S : Sep H0 ft H l) (n : Nat) (h : l[n]? = some (t, p, .lst xs)) (q : ∀ r H', Sep H0 ft H' ((2, r, .tup xs) :: l) → Q (.ref r) H') : rTupOf K [.ref p] H Q := ⟨p, xs, rfl, .inl ⟨S.sl n h, x_new S _ q⟩⟩
theorem x_eqNilL {xs : List V} {t' : Nat} (S : Sep H0 ft H l) (n : Nat) (h' : l[n]? = some (t', q, .lst [])) (h : SqL K H p xs) (k : Q (.bl (decide (xs = []))) H) : rEqNil K (.ref p) (.ref q) H Q := ⟨p, q, xs, rfl, rfl, .inl ⟨h, S.sl n h'⟩, k⟩
theorem x_neNilL {xs : List V} {t' : Nat} (S : Sep H0 ft H l) (n : Nat) (h' : l[n]? = some (t', q, .lst [])) (h : SqL K H p xs) (k : Q (.bl (!decide (xs = []))) H) : rNeNil K (.ref p) (.ref q) H Q := ⟨p, q, xs, rfl, rfl, .inl ⟨h, S.sl n h'⟩, k⟩
theorem x_eqNilT {xs : List V} {t' : Nat} (S : Sep H0 ft H l) (n : Nat) (h' : l[n]? = some (t', q, .tup [])) (h : SqT K H p xs) (k : Q (.bl (decide (xs = []))) H) : rEqNil K (.ref p) (.ref q) H Q := ⟨p, q, xs, rfl, rfl, .inr ⟨h, S.st n h'⟩, k⟩
theorem x_neNilT {xs : List V} {t' : Nat} (S : Sep H0 ft H l) (n : Nat) (h' : l[n]? = some (t', q, .tup [])) (h : SqT K H p xs) (k : Q (.bl (!decide (xs = []))) H) : rNeNil K (.ref p) (.ref q) H Q := ⟨p, q, xs, rfl, rfl, .inr ⟨h, S.st n h'⟩, k⟩
theorem x_lenSq {xs : List V} (h : SqL K H p xs ∨ SqT K H p xs) (k : Q (.int xs.length) H) : rLen K [.ref p] H Q := ⟨p, xs, rfl, h, k⟩
theorem x_lenXs {z : Str} (h : z.length ≤ 100000) (k : Q (.int z.length) H) : rLenX K [.str z] H Q := ⟨_, _, rfl, ⟨Nat.le_trans h (by decide), rfl⟩, k⟩
theorem x_lenXl {xs : List V} (h : SqL K H p xs) (k : Q (.int xs.length) H) : rLenX K [.ref p] H Q := ⟨_, _, rfl, .inl ⟨_, h, rfl⟩, k⟩
theorem x_lenXt {xs : List V} (h : SqT K H p xs) (k : Q (.int xs.length) H) : rLenX K [.ref p] H Q := ⟨_, _, rfl, .inr ⟨_, h, rfl⟩, k⟩
theorem x_inT {s : Str} {ss : List Str} (S : Sep H0 ft H l) (n : Nat) (h : l[n]? = some (t, p, .tup (ss.map V.str))) (q : Q (.bl (decide (s ∈ ss))) H) : rIn K false (.str s) (.ref p) H Q :=
  ⟨p, _, rfl, .inr (S.st n h), rfl, flat_strs ss, by rw [inV_str]; exact q⟩
theorem x_lcappB {ss : List Bool} {s : Bool} {R : Hp → Prop} (S : Sep H0 ft H l) (n : Nat) (h : l[n]? = some (t, p, .lst (ss.map V.bl))) (hl : ss.length < 100000) (q : ∀ H', Sep H0 ft H' (l.set n (t, p, .lst ((ss ++ [s]).map V.bl))) → R H') (ht : t = 1 ∨ t = 2 := by first | exact .inl rfl | exact .inr rfl) :
    rLcA p (.bl s) H R := x_lcapp S n h (by rw [List.length_map]; exact hl) (fun H' S' => q H' (by rw [List.map_append]; exact S')) ht
end
/-! ### promises of truths of data -/
def spPure (f : PyData → Bool) : Sp := fun vs H Q _ => ∃ v d, vs = [v] ∧ DH H v d ∧ ∀ b H', f d = b → Le H H' → Q (.bl b) H'
theorem c_pure {f : PyData → Bool} {H0 H : Hp} {ft : List Addr} {l : List Cell} {v : V} {d : PyData} {Q : VK} {E : XK} (S : Sep H0 ft H l) (h : DH H v d) (k : ∀ H', Sep H0 ft H' l → Q (.bl (f d)) H') : spPure f [v] H Q E :=
  ⟨v, d, rfl, h, fun b H' e F => by subst e; exact k H' (S.stay F)⟩
def abcL : List Nat := [97, 98, 99, 100, 101, 102, 103, 104, 105, 106, 107, 108, 109, 110, 111, 112, 113, 114, 115, 116, 117, 118, 119, 120, 121, 122]
/-- a name -/
def isName : PyData → Bool
  | .str s => decide (1 ≤ s.length) && decide (s.length ≤ 8) && s.cps.toList.all fun c => decide (c ∈ abcL)
  | _ => false
theorem strN {d : PyData} (h : isStrD d = false) : isName d = false := by cases d <;> first | rfl | cases h
theorem all_take {α : Type} {p : α → Bool} {xs : List α} {n : Nat} {z : α} (h : xs[n]? = some z) : ((xs.take n).map p) ++ [p z] = (xs.take (n + 1)).map p := by rw [take_snoc h, List.map_append]; rfl
theorem all_map {α : Type} {p : α → Bool} {xs : List α} : (xs.map p).all id = xs.all p := by rw [List.all_map]; rfl
def abcS : Str := "abcdefghijklmnopqrstuvwxyz"
theorem abcS_L : abcS.cps.toList = abcL := by decide +kernel
theorem x_inAbc {H : Hp} {Q : VK} {c : Nat} (q : Q (.bl (decide (c ∈ abcL))) H) : rInS (.str ⟨#[c]⟩) (.str abcS) H Q := ⟨c, abcS, rfl, rfl, by rw [abcS_L]; exact q⟩
theorem isName_str (s : Str) : isName (.str s) = (decide (1 ≤ s.length) && decide (s.length ≤ 8) && s.cps.toList.all fun c => decide (c ∈ abcL)) := rfl
theorem name_lo {s : Str} (h : ¬ (1 : Int) ≤ (s.length : Int)) : isName (.str s) = false := by
  rw [isName_str, decide_eq_false (show ¬ 1 ≤ s.length by omega)]; rfl
theorem name_hi {s : Str} (h : ¬ (s.length : Int) ≤ (8 : Int)) : isName (.str s) = false := by
  rw [isName_str, decide_eq_false (show ¬ s.length ≤ 8 by omega), Bool.and_false]; rfl
theorem name_in {s : Str} (h1 : (1 : Int) ≤ (s.length : Int)) (h2 : (s.length : Int) ≤ (8 : Int)) : isName (.str s) = ((s.cps.toList.map fun c => decide (c ∈ abcL)).all id) := by
  rw [isName_str, decide_eq_true (show 1 ≤ s.length by omega), decide_eq_true (show s.length ≤ 8 by omega), all_map]; rfl
theorem x_niAbc {H : Hp} {Q : VK} {c : Nat} (q : Q (.bl (!decide (c ∈ abcL))) H) : rNotInS (.str ⟨#[c]⟩) (.str abcS) H Q := ⟨c, abcS, rfl, rfl, by rw [abcS_L]; exact q⟩
theorem pe_c0 {X : Cx} {CX : CXT} {k j : Nat} {x : Str} {sp : Sp} {E : XK} {p pos : Pos} (c : Cal X.prog X.w X.K X.mg X.base CX k x sp) (hr : Room j X.A) (hk : k ≤ j) (hg : Gl X x) (hx : Passes CX X E) (hdb : (x == ("__debug__" : Str)) = false := by decide) :
    PE X (.Call (.Name x p) [] [] pos) (tCall sp [] E tNil) := by
  obtain ⟨f, fd, ps, F, hm, kp, b⟩ := c.ex
  exact pe_call0 F (hr.mono hk) hg hm kp b .nil hx hdb
end G

set_option linter.all false
set_option maxRecDepth 100000
set_option maxHeartbeats 4000000
/-! what a service is, as functions of data -/
namespace G
open PySem PySem.Spec PyProof.Rows L2
def isWhole : PyData → Bool
  | .int _ => true
  | _ => false
def isBetw (a b : Int) : PyData → Bool
  | .int i => decide (a ≤ i) && decide (i ≤ b)
  | _ => false
def on1 (f : PyData → Bool) : List PyData → Bool
  | [a] => f a
  | _ => false
def on2 (f : PyData → PyData → Bool) : List PyData → Bool
  | [a, b] => f a b
  | _ => false
def on3 (f : PyData → PyData → PyData → Bool) : List PyData → Bool
  | [a, b, c] => f a b c
  | _ => false
theorem on1_ne {f : PyData → Bool} {r : List PyData} (h : r.length ≠ 1) : on1 f r = false := by
  rcases r with _ | ⟨a, _ | ⟨b, r⟩⟩ <;> first | rfl | exact absurd rfl h
theorem on2_ne {f : PyData → PyData → Bool} {r : List PyData} (h : r.length ≠ 2) : on2 f r = false := by
  rcases r with _ | ⟨a, _ | ⟨b, _ | ⟨c, r⟩⟩⟩ <;> first | rfl | exact absurd rfl h
theorem on3_ne {f : PyData → PyData → PyData → Bool} {r : List PyData} (h : r.length ≠ 3) : on3 f r = false := by
  rcases r with _ | ⟨a, _ | ⟨b, _ | ⟨c, _ | ⟨e, r⟩⟩⟩⟩ <;> first | rfl | exact absurd rfl h
def isStepR (k : Str) (r : List PyData) (many : Int) : Bool :=
  if k ∈ (["take", "give", "done"] : List Str) then r.isEmpty
  else if k ∈ (["put", "load"] : List Str) then on1 isName r
  else if k = "plus" then on1 isWhole r
  else if k = "more" then on1 (isBetw 0 (many - 1)) r
  else if k = "add" then on2 (fun a b => isName a && isWhole b) r
  else if k = "call" then on3 (fun a b c => isName a && (isName b && isBetw 1 200 c)) r
  else false
def isStep (many : Int) : PyData → Bool
  | .tuple (.str k :: r) => isStepR k r many
  | _ => false
theorem isStep_k (many : Int) (k : Str) (r : List PyData) : isStep many (.tuple (.str k :: r)) = isStepR k r many := rfl
theorem step_noT {m : Int} {d : PyData} (h : isTupD d = false) : isStep m d = false := by cases d <;> first | rfl | cases h
theorem step_nil {m : Int} : isStep m (.tuple []) = false := rfl
theorem step_noS {m : Int} {d : PyData} {r : List PyData} (h : isStrD d = false) : isStep m (.tuple (d :: r)) = false := by cases d <;> first | rfl | cases h
theorem whole_noI {d : PyData} (h : isIntD d = false) : isWhole d = false := by cases d <;> first | rfl | cases h
theorem betw_noI {a b : Int} {d : PyData} (h : isIntD d = false) : isBetw a b d = false := by cases d <;> first | rfl | cases h
def spStep : Sp := fun vs H Q _ => ∃ v d m, vs = [v, .int m] ∧ DH H v d ∧ ∀ b H', isStep m d = b → Le H H' → Q (.bl b) H'
theorem c_step {H0 H : Hp} {ft : List Addr} {l : List Cell} {v : V} {d : PyData} {m : Int} {Q : VK} {E : XK} (S : Sep H0 ft H l) (h : DH H v d) (k : ∀ H', Sep H0 ft H' l → Q (.bl (isStep m d)) H') : spStep [v, .int m] H Q E :=
  ⟨v, d, m, rfl, h, fun b H' e F => by subst e; exact k H' (S.stay F)⟩
def spBetw : Sp := fun vs H Q _ => ∃ v d a b, vs = [v, .int a, .int b] ∧ DH H v d ∧ ∀ z H', isBetw a b d = z → Le H H' → Q (.bl z) H'
theorem c_betw {H0 H : Hp} {ft : List Addr} {l : List Cell} {v : V} {d : PyData} {a b : Int} {Q : VK} {E : XK} (S : Sep H0 ft H l) (h : DH H v d) (k : ∀ H', Sep H0 ft H' l → Q (.bl (isBetw a b d)) H') : spBetw [v, .int a, .int b] H Q E :=
  ⟨v, d, a, b, rfl, h, fun z H' e F => by subst e; exact k H' (S.stay F)⟩
def isService : PyData → Bool
  | .tuple ds => decide (1 ≤ ds.length) && decide (ds.length ≤ 12) && ds.all (isStep ds.length)
  | _ => false
theorem isService_t (ds : List PyData) : isService (.tuple ds) = (decide (1 ≤ ds.length) && decide (ds.length ≤ 12) && ds.all (isStep ds.length)) := rfl
theorem serv_noT {d : PyData} (h : isTupD d = false) : isService d = false := by cases d <;> first | rfl | cases h
theorem serv_lo {ds : List PyData} {xs : List V} (e : xs.length = ds.length) (h : ¬ (1 : Int) ≤ (xs.length : Int)) : isService (.tuple ds) = false := by
  rw [isService_t, decide_eq_false (show ¬ 1 ≤ ds.length by omega)]; rfl
theorem serv_hi {ds : List PyData} {xs : List V} (e : xs.length = ds.length) (h : ¬ (xs.length : Int) ≤ (12 : Int)) : isService (.tuple ds) = false := by
  rw [isService_t, decide_eq_false (show ¬ ds.length ≤ 12 by omega), Bool.and_false]; rfl
theorem serv_in {ds : List PyData} {xs : List V} (e : xs.length = ds.length) (h1 : (1 : Int) ≤ (xs.length : Int)) (h2 : (xs.length : Int) ≤ (12 : Int)) : isService (.tuple ds) = (ds.map (isStep xs.length)).all id := by
  rw [isService_t, decide_eq_true (show 1 ≤ ds.length by omega), decide_eq_true (show ds.length ≤ 12 by omega), all_map, e]; rfl
theorem serv_in2 {ds : List PyData} {xs : List V} {ys : List V} (e : xs.length = ds.length) (h1 : (1 : Int) ≤ (xs.length : Int)) (h2 : (xs.length : Int) ≤ (12 : Int)) (hy : ys = [] ↔ ds.all (isStep xs.length) = true) : isService (.tuple ds) = decide (ys = []) := by
  rw [isService_t, decide_eq_true (show 1 ≤ ds.length by omega), decide_eq_true (show ds.length ≤ 12 by omega), ← e]
  show ds.all (isStep (xs.length : Int)) = _
  by_cases h : ys = []
  · rw [decide_eq_true h]; exact hy.mp h
  · rw [decide_eq_false h]; exact Bool.eq_false_iff.mpr fun z => h (hy.mpr z)
theorem name_in2 {s : Str} {ys : List V} (h1 : (1 : Int) ≤ (s.length : Int)) (h2 : (s.length : Int) ≤ (8 : Int)) (hy : ys = [] ↔ (s.cps.toList.all fun c => decide (c ∈ abcL)) = true) : isName (.str s) = decide (ys = []) := by
  rw [isName_str, decide_eq_true (show 1 ≤ s.length by omega), decide_eq_true (show s.length ≤ 8 by omega)]
  show (s.cps.toList.all _) = _
  by_cases h : ys = []
  · rw [decide_eq_true h]; exact hy.mp h
  · rw [decide_eq_false h]; exact Bool.eq_false_iff.mpr fun z => h (hy.mpr z)
/-- what a comprehension keeps: nothing, just where all are so -/
theorem none_pos {α : Type} {p : α → Bool} {xs : List α} {n : Nat} {z : α} {ys : List V} (h : xs[n]? = some z) (hp : p z = true) (e : ys = [] ↔ (xs.take n).all p = true) : ys = [] ↔ (xs.take (n + 1)).all p = true := by
  rw [take_snoc h, List.all_append, List.all_cons, hp]
  simp [e]
theorem none_neg {α : Type} {p : α → Bool} {xs : List α} {n : Nat} {z : α} {ys : List V} {y : V} (h : xs[n]? = some z) (hp : p z = false) : ys ++ [y] = [] ↔ (xs.take (n + 1)).all p = true := by
  rw [take_snoc h, List.all_append, List.all_cons, hp]
  simp
theorem nil_eq {xs : List V} {ds : List PyData} (h : xs.length = ds.length) : ds.isEmpty = decide (xs = []) := by
  cases xs <;> cases ds <;> first | rfl | cases h
theorem len1_eq {x : V} {xs : List V} {ds : List PyData} (h : xs.length = ds.length) : ds.isEmpty = decide (V.int (((x :: xs).length : Nat) : Int) = V.int 1) := by
  rw [nil_eq h]
  cases xs with
  | nil => rfl
  | cons y xs =>
    rw [decide_eq_false (List.cons_ne_nil _ _), decide_eq_false fun e => ?_]
    have := V.int.inj e
    simp only [List.length_cons] at this
    omega
end G

set_option linter.all false
set_option maxRecDepth 100000
set_option maxHeartbeats 4000000
/-! a tail of data that grows -/
namespace G
open PySem PySem.Spec PyProof.Rows L2
def Grow (T T' : List Cell) : Prop := ∃ m, T' = m ++ T ∧ ∀ c ∈ m, c.1 = 2
theorem Grow.refl (T : List Cell) : Grow T T := ⟨[], rfl, fun _ h => nomatch h⟩
theorem Grow.trans {T T' T'' : List Cell} (a : Grow T T') (b : Grow T' T'') : Grow T T'' := by
  obtain ⟨m, rfl, hm⟩ := a
  obtain ⟨n, rfl, hn⟩ := b
  exact ⟨n ++ m, by rw [List.append_assoc], fun c h => (List.mem_append.mp h).elim (hn c) (hm c)⟩
theorem Grow.one (T : List Cell) (a : Addr) (o : HO) : Grow T ((2, a, o) :: T) := ⟨[(2, a, o)], rfl, fun c h => by rw [List.mem_singleton.mp h]⟩
theorem Grow.le {T T' : List Cell} (g : Grow T T') (nd : (T'.map (·.2.1)).Nodup) : Le (tl T) (tl T') := by
  obtain ⟨m, rfl, _⟩ := g
  exact tl_grow nd
theorem Grow.sub {T T' : List Cell} (g : Grow T T') : ∀ c ∈ T, c ∈ T' := by
  obtain ⟨m, rfl, _⟩ := g
  exact fun c h => List.mem_append_right _ h
/-- the tags do not matter -/
theorem tl_tag (T : List Cell) (t : Nat) : tl (T.map fun c => (t, c.2)) = tl T := by
  funext a
  unfold tl
  induction T with
  | nil => rfl
  | cons c T ih =>
    rw [List.map_cons]
    by_cases e : c.2.1 = a
    · rw [List.find?_cons_of_pos (by exact decide_eq_true e), List.find?_cons_of_pos (by exact decide_eq_true e)]; rfl
    · rw [List.find?_cons_of_neg (by simpa using e), List.find?_cons_of_neg (by simpa using e)]; exact ih
section
variable {H0 H H' : Hp} {ft : List Addr} {l m T : List Cell} {t : Nat} {a p : Addr} {o u : HO}
theorem Sep.ndD (S : Sep H0 ft H l) (n : Nat) : ((l.drop n).map (·.2.1)).Nodup := by
  rw [List.map_drop]
  exact List.Sublist.nodup (List.drop_sublist _ _) S.nd
/-- a cell in front goes into the tail -/
theorem Sep.freeze (S : Sep H0 ft H l) (n i : Nat) (h : l[i]? = some (2, a, o)) (hi : i < n) (hT : l.drop n = T) : ∃ T', Grow T T' ∧ Le (G.tl T) (G.tl T') ∧ G.tl T' a = some o ∧ Sep H0 ft H ((l.take n).eraseIdx i ++ T') := by
  subst hT
  have hl : i < l.length := (List.getElem?_eq_some_iff.mp h).1
  have hp : ((l.take n).eraseIdx i ++ ((2, a, o) :: l.drop n)).Perm l := by
    have e1 : l = l.take n ++ l.drop n := (List.take_append_drop n l).symm
    have ht : (l.take n)[i]? = some (2, a, o) := by rw [List.getElem?_take_of_lt hi]; exact h
    have h2 : ((2, a, o) :: (l.take n).eraseIdx i).Perm (l.take n) := by
      have hil : i < (l.take n).length := (List.getElem?_eq_some_iff.mp ht).1
      have e3 : (l.take n)[i] = (2, a, o) := (List.getElem?_eq_some_iff.mp ht).2
      rw [List.eraseIdx_eq_take_drop_succ]
      have e4 : l.take n = (l.take n).take i ++ (2, a, o) :: (l.take n).drop (i + 1) := by
        rw [← e3, ← List.drop_eq_getElem_cons hil, List.take_append_drop]
      conv => rhs; rw [e4]
      exact (List.perm_middle).symm
    refine List.Perm.trans ?_ (List.Perm.of_eq e1.symm)
    refine List.Perm.trans List.perm_middle ?_
    exact h2.append_right _
  have S' := S.perm hp
  have nd := S'.ndT
  exact ⟨_, Grow.one _ a o, (Grow.one _ a o).le nd, tl_mem nd (c := (2, a, o)) List.mem_cons_self, S'⟩
theorem Sep.tl_ne (S : Sep H0 ft H l) (n i : Nat) (h : l[i]? = some (t, p, u)) (hi : i < n) (hT : l.drop n = T) (ha : G.tl T a = some o) : a ≠ p := by
  subst hT
  obtain ⟨t', m⟩ := tl_of ha
  obtain ⟨j, hj⟩ := List.mem_iff_getElem?.mp m
  rw [List.getElem?_drop] at hj
  exact S.ne (n + j) i hj h (by omega)
/-- what a def over the draw and data is given -/
theorem Sep.giveT {t1 t2 t3 : Nat} {p q r : Addr} {o1 o2 o3 : HO} (S : Sep H0 ft H l) (n i j k : Nat) (hi : l[i]? = some (t1, p, o1)) (hj : l[j]? = some (t2, q, o2)) (hk : l[k]? = some (t3, r, o3)) (hn : [i, j, k].Nodup) (hb : ([i, j, k].all fun x => decide (x < n)) = true) (hT : l.drop n = T) :
    Sep H [p, q] H ((1, p, o1) :: (1, q, o2) :: (0, r, o3) :: T.map fun c => (0, c.2)) := by
  subst hT
  have h := S.subT n [i, j, k] hn hb
  simp only [List.filterMap_cons, hi, hj, hk, List.filterMap_nil, List.cons_append, List.nil_append] at h
  refine h.retag ?_ ?_ ?_ ?_
  · simp only [List.map_cons, List.map_map]; rfl
  · intro c hc e
    rcases List.mem_cons.mp hc with rfl | hc
    · exact List.mem_cons_self
    rcases List.mem_cons.mp hc with rfl | hc
    · exact List.mem_cons_of_mem _ List.mem_cons_self
    rcases List.mem_cons.mp hc with rfl | hc
    · cases e
    obtain ⟨d, _, rfl⟩ := List.mem_map.mp hc
    cases e
  · intro c hc e
    rcases List.mem_cons.mp hc with rfl | hc
    · cases e
    rcases List.mem_cons.mp hc with rfl | hc
    · cases e
    rcases List.mem_cons.mp hc with rfl | hc
    · cases e
    obtain ⟨d, _, rfl⟩ := List.mem_map.mp hc
    cases e
  · intro b hb
    rcases List.mem_cons.mp hb with rfl | hb
    · exact List.mem_map.mpr ⟨_, List.mem_cons_self, rfl⟩
    · rw [List.mem_singleton.mp hb]; exact List.mem_map.mpr ⟨_, List.mem_cons_of_mem _ List.mem_cons_self, rfl⟩
end
theorem Sep.sublist {H0 H : Hp} {ft : List Addr} {l l' : List Cell} (S : Sep H0 ft H l) (h : l'.Sublist l) : Sep H0 ft H l' :=
  ⟨S.nd.sublist (h.map _), fun c hc => S.rd c (h.subset hc), S.fr, fun c hc => S.wr c (h.subset hc), fun c hc => S.nw c (h.subset hc), S.ex⟩
theorem tl_tagA (m T : List Cell) : tl (m ++ T.map fun c => (0, c.2)) = tl (m ++ T) := by
  rw [← tl_tag (m ++ T.map fun c => (0, c.2)) 0, ← tl_tag (m ++ T) 0]
  congr 1
  rw [List.map_append, List.map_append, List.map_map]
  rfl
theorem two_new {m : List Cell} {x y z : Cell} {T : List Cell} {H0 H : Hp} {ft : List Addr} (S : Sep H0 ft H (x :: y :: z :: (m ++ T))) : Sep H0 ft H (m ++ [x, y]) := by
  have p : ((m ++ [x, y]) ++ (z :: T)).Perm (x :: y :: z :: (m ++ T)) := by
    have h1 : ((m ++ [x, y]) ++ (z :: T)).Perm (m ++ (x :: y :: z :: T)) := by rw [List.append_assoc]; exact List.Perm.refl _
    refine h1.trans ?_
    refine List.perm_middle.trans (List.Perm.cons _ ?_)
    refine List.perm_middle.trans (List.Perm.cons _ ?_)
    exact List.perm_middle
  exact (S.perm p).sublist (List.sublist_append_left _ _)
/-! ### lists of texts by places and cuts -/
section
variable {H0 H : Hp} {ft : List Addr} {l : List Cell} {t t' : Nat} {a p q1 : Addr} {K : PySem.W.Frag} {Q : VK} {α : Type}
theorem x_slM (f : α → V) {cs : List α} {lo hi : Option Int} (S : Sep H0 ft H l) (n : Nat) (h : l[n]? = some (t, p, .lst (cs.map f))) (q : ∀ r H', Sep H0 ft H' ((2, r, .lst ((cutI cs lo hi).map f)) :: l) → Q (.ref r) H') : rSlL K (.ref p) lo hi H Q :=
  ⟨p, _, rfl, S.sl n h, by rw [cutV_map]; exact x_new S _ q⟩
theorem x_catM (f : α → V) {xs ys : List α} (S : Sep H0 ft H l) (n m : Nat) (h : l[n]? = some (t, p, .lst (xs.map f))) (h' : l[m]? = some (t', q1, .lst (ys.map f))) (hl : xs.length + ys.length ≤ 100000) (q : ∀ r H', Sep H0 ft H' ((2, r, .lst ((xs ++ ys).map f)) :: l) → Q (.ref r) H') : rCat (.ref p) (.ref q1) H Q :=
  x_cat S n m h h' (by rw [List.length_map, List.length_map]; exact hl) fun r H' S' => q r H' (by rw [List.map_append]; exact S')
theorem x_ixM (f : α → V) {cs : List α} {i : Int} (S : Sep H0 ft H l) (n : Nat) (h : l[n]? = some (t, p, .lst (cs.map f))) (h0 : 0 ≤ i) (h1 : i < cs.length) (q : ∀ c, cs[i.toNat]? = some c → Q (f c) H) : rIxL K (.ref p) (.int i) H Q := by
  obtain ⟨c, hc, ha⟩ := at_map (f := f) h0 h1
  exact ⟨p, _, i, _, rfl, rfl, S.sl n h, ha, q c hc⟩
theorem x_lenM (f : α → V) {cs : List α} (S : Sep H0 ft H l) (n : Nat) (h : l[n]? = some (t, p, .lst (cs.map f))) (q : Q (.int cs.length) H) : rLenX K [.ref p] H Q := ⟨_, _, rfl, .inl ⟨_, S.sl n h, rfl⟩, by rw [List.length_map]; exact q⟩
end
theorem cutI_from {α : Type} (xs : List α) {i : Int} (h0 : 0 ≤ i) (h1 : i ≤ xs.length) : cutI xs (some i) none = xs.drop i.toNat := by
  unfold cutI
  have e : i = (i.toNat : Int) := by omega
  rw [e, HT.sIx_nat, Int.toNat_natCast]
  have e2 : HT.sIx xs.length xs.length none = xs.length := by unfold HT.sIx; simp
  rw [e2, Nat.min_eq_left (by omega)]
  exact List.take_of_length_le (by rw [List.length_drop]; exact Nat.le_refl _)
theorem cutI_to {α : Type} (xs : List α) {i : Int} (h0 : 0 ≤ i) : cutI xs none (some i) = xs.take i.toNat := by
  unfold cutI
  have e : i = (i.toNat : Int) := by omega
  rw [e, HT.sIx_nat, Int.toNat_natCast]
  have e2 : HT.sIx xs.length 0 none = 0 := by unfold HT.sIx; simp
  rw [e2, List.drop_zero, Nat.sub_zero]
  by_cases h : i.toNat ≤ xs.length
  · rw [Nat.min_eq_left h]
  · rw [Nat.min_eq_right (by omega), List.take_length, List.take_of_length_le (by omega)]
/-! ### names of services -/
structure NameL (ss : List Str) : Prop where
  nd : ss.Nodup
  ok : ∀ s ∈ ss, OkN s
theorem names_first {f : Nat → Nat} {ys : List Str} (inj : ∀ i j, i < ys.length → j < ys.length → f i = f j → i = j) (h : ∀ (i : Nat) (s : Str), ys[i]? = some s → OkN s ∧ s.cps[0]? = some (f i)) : NameL ys := by
  constructor
  · refine List.pairwise_iff_getElem.mpr fun i j hi hj hij e => ?_
    have h1 := (h i ys[i] (List.getElem?_eq_getElem hi)).2
    have h2 := (h j ys[j] (List.getElem?_eq_getElem hj)).2
    rw [e, h2] at h1
    have := inj j i hj hi (Option.some.inj h1)
    omega
  · intro s hs
    obtain ⟨i, hi⟩ := List.mem_iff_getElem?.mp hs
    exact (h i s hi).1
theorem name_lt {c : Nat} {z : Str} (hc : 97 ≤ c ∧ c ≤ 122) (hz : Low z) (hl : z.length ≤ 7) : OkN ((⟨#[c]⟩ : Str) ++ z) := by
  refine ⟨by rw [len_app]; show 1 ≤ 1 + z.length; omega, by rw [len_app]; show 1 + z.length ≤ 8; omega, ?_⟩
  refine Low.app ?_ hz
  intro d hd
  have : d = c := by simpa using hd
  rw [this]; exact hc
theorem first_app {c : Nat} {z : Str} : ((⟨#[c]⟩ : Str) ++ z).cps[0]? = some c := by
  show (#[c] ++ z.cps)[0]? = some c
  rw [Array.getElem?_append_left (by simp)]; rfl
theorem abc_at {i : Nat} {c : Nat} (h : abcS.cps[i]? = some c) : i < 26 ∧ c = 97 + i := by
  have hl : i < 26 := (Array.getElem?_eq_some_iff.mp h).1
  refine ⟨hl, ?_⟩
  have all : ∀ i : Fin 26, abcS.cps[i.1]? = some (97 + i.1) := by decide +kernel
  have := all ⟨i, hl⟩
  simp only at this
  rw [this] at h
  exact (Option.some.inj h).symm
def rot {α : Type} (xs : List α) (i many : Int) : List α := cutI (cutI xs (some i) none ++ cutI xs none (some i)) none (some many)
theorem rot_perm {α : Type} {xs : List α} {i : Int} (h0 : 0 ≤ i) (h1 : i ≤ xs.length) : (cutI xs (some i) none ++ cutI xs none (some i)).Perm xs := by
  rw [cutI_from xs h0 h1, cutI_to xs h0]
  exact List.perm_append_comm.trans (by rw [List.take_append_drop])
theorem rot_names {xs : List Str} {i many : Int} (hx : NameL xs) (h0 : 0 ≤ i) (h1 : i ≤ xs.length) (hm : 0 ≤ many) (hm2 : many ≤ xs.length) : NameL (rot xs i many) ∧ ((rot xs i many).length : Int) = many := by
  have p := rot_perm h0 h1
  unfold rot
  rw [cutI_to _ hm]
  refine ⟨⟨List.Sublist.nodup (List.take_sublist _ _) (p.nodup_iff.mpr hx.nd), fun s hs => hx.ok s (p.mem_iff.mp (List.mem_of_mem_take hs))⟩, ?_⟩
  rw [List.length_take, p.length_eq]
  omega
theorem abc_atI {i : Int} (h0 : 0 ≤ i) (h1 : i < 26) : atI abcS.cps.toList i = some (97 + i.toNat) := by
  have all : ∀ i : Fin 26, abcS.cps.toList[i.1]? = some (97 + i.1) := by decide +kernel
  have := all ⟨i.toNat, by omega⟩
  unfold atI
  rw [ixN_in h0 (show i < (abcS.cps.toList.length : Nat) from h1)]
  exact this
end G

set_option linter.all false
set_option maxRecDepth 100000
set_option maxHeartbeats 4000000
/-! tuples of the tail: cut, put together, turned about -/
namespace G
open PySem PySem.Spec PyProof.Rows
section
variable {prog : Program} {w : World} {A : Around} {E : Value → Shared → Prop} {s : Shared}
theorem adj_rev (n : Nat) : Builtin.Slice.sliceAdjust none none (-1) (n : Int) = ((n : Int) - 1, -1) := by
  unfold Builtin.Slice.sliceAdjust
  simp
theorem plc_rev (n : Nat) : Builtin.Slice.slicePlaces ((n : Int) - 1) (-1) (-1) = n := by
  unfold Builtin.Slice.slicePlaces
  simp
  omega
theorem app_rev {b : Addr} {vk : Value} {n : Nat} {Q : Int × Int × Nat → Shared → Prop} (hs : s.heap.IsSliceOf b .none .none vk) (pk : IsPart vk (some (-1))) (q : Q ((n : Int) - 1, -1, n) s) : wpAny (model prog w) A (Builtin.Slice.sliceApplied (.ref b) (pure (n : Int))) Q E s := by
  obtain ⟨ob, e1, e2, e3⟩ := id hs
  unfold Builtin.Slice.sliceApplied Builtin.Slice.sliceFields
  have f0 : ∀ {R : Option Int → Shared → Prop}, R none s → wpAny (model prog w) A (Builtin.Slice.slicePartIndex Value.none) R E s := fun {R} r => HT.slicePart_ .none r
  have fk : ∀ {R : Option Int → Shared → Prop}, R (some (-1)) s → wpAny (model prog w) A (Builtin.Slice.slicePartIndex vk) R E s := fun {R} r => HT.slicePart_ pk r
  refine wpAny_bind (wpAny_bind (wpAny_field e1 e3 (x := .none) rfl ?_))
  refine wpAny_bind (wpAny_field e1 e3 (x := .none) rfl ?_)
  refine wpAny_bind (wpAny_field e1 e3 (x := vk) rfl ?_)
  refine wpAny_pure (wpAny_bind (fk ?_))
  show wpAny _ _ (if ((-1 : Int) == 0) = true then _ else _) _ _ s
  rw [if_neg (show ¬ ((-1 : Int) == 0) = true by decide)]
  refine wpAny_bind (f0 (wpAny_bind (f0 (wpAny_bind (wpAny_pure ?_)))))
  show wpAny _ _ (match Builtin.Slice.sliceAdjust none none (-1) (n : Int) with | (a, c) => pure (a, (-1 : Int), Builtin.Slice.slicePlaces a c (-1))) _ _ s
  rw [adj_rev n]
  show wpAny _ _ (pure ((n : Int) - 1, (-1 : Int), Builtin.Slice.slicePlaces ((n : Int) - 1) (-1) (-1))) _ _ s
  rw [plc_rev n]
  exact wpAny_pure q
def revP (xs : Array Value) : List Value := (List.range xs.size).filterMap fun (m : Nat) => xs[((xs.size : Int) - 1 + (m : Int) * (-1)).toNat]?
theorem get_rev {t b : Addr} {xs : Array Value} {vk : Value} {Q : Value → Shared → Prop} (ht : IsTup s.heap t xs) (hs : s.heap.IsSliceOf b .none .none vk) (pk : IsPart vk (some (-1))) (hz : xs.size ≤ sizeLine)
    (q : Q (.ref s.heap.objs.size) { s with heap := s.heap.push { cls := .type "tuple", data := .seq (revP xs).toArray } }) : wpAny (model prog w) A (getItem (.ref t) (.ref b)) Q E s := by
  have hfit : sizeOk (.seq (revP xs).toArray) := by
    show (revP xs).toArray.size ≤ sizeLine
    rw [List.size_toArray]
    exact Nat.le_trans (List.length_filterMap_le _ _) (by rw [List.length_range]; exact hz)
  obtain ⟨ob, e1, e2, e3⟩ := id hs
  have hTs : s.TypeIs (.ref b) "slice" := ⟨ob, e1, e2⟩
  unfold getItem
  try with_reducible refine wpAny_holding ?_
  first | refine wpAny_bind (wpAny_pure ?_) | skip
  refine wpAny_bind (wpAny_sequenceKey (T := "tuple") ht.typeIs (by decide) ?_)
  refine wpAny_bind (wpAny_callSpecial?_slot (name := Str.ofString "__getitem__") ht.typeIs PyProof.Rows.slot_tuple_getitem (wpAny_call_entry PyProof.Rows.slot_tuple_getitem ht.typeIs entry_tuple_getitem ?_ (args_tuple_getitem _ _)))
  show wpAny (model prog w) _ (Builtin.Tuple.tupleItemsOf (.ref t) >>= _) _ _ s
  refine wpAny_bind (tupleItemsOf_ ht (wpAny_bind (wpAny_typeOf hTs ?_)))
  rw [if_pos (show (_ == _) = true by decide)]
  refine wpAny_bind (app_rev hs pk ?_)
  have hno : ¬ (((xs.size : Int) - 1 == 0 && (-1 : Int) == 1 && xs.size == xs.size) = true) := by simp
  show wpAny _ _ (if (((xs.size : Int) - 1 == 0 && (-1 : Int) == 1 && xs.size == xs.size) = true) then _ else _) _ _ s
  rw [if_neg hno]
  first
    | exact wpAny_bind (m := Builtin.Tuple.tupleExact (revP xs).toArray) (wpAny_newObj_type (wpAny_pure ⟨_, rfl, wpAny_pure q⟩) hfit)
    | exact wpAny_bind (m := Builtin.Tuple.tupleExact (revP xs).toArray) (wpAny_newObj_type (wpAny_bind (wpAny_pure (wpAny_pure ⟨_, rfl, wpAny_pure q⟩))) hfit)
    | exact wpAny_bind (wpAny_bind (m := Builtin.Tuple.tupleExact (revP xs).toArray) (wpAny_newObj_type (wpAny_pure (wpAny_pure ⟨_, rfl, wpAny_pure q⟩)) hfit))
    | exact wpAny_bind (wpAny_bind (m := Builtin.Tuple.tupleExact (revP xs).toArray) (wpAny_newObj_type (wpAny_pure ⟨_, rfl, wpAny_pure q⟩) hfit))
end
end G
namespace G
open PySem PySem.Spec PyProof.Rows L2
/-! t[::-1] -/
def rSlR (K : PySem.W.Frag) : V → Hp → VK → Prop := fun x H Q => ∃ a xs, x = .ref a ∧ SqT K H a xs ∧ ∀ (ys : List V) p, (∀ y ∈ ys, y ∈ xs) → ys.length ≤ xs.length → H p = none → Q (.ref p) (upd H p (.tup ys))
def tSlR (K : PySem.W.Frag) (te : TE) (ts : TO) : TE := fun σ H Q => te σ H fun x H1 => ts σ H1 fun o H2 => o = some (-1) ∧ rSlR K x H2 Q
theorem revP_eq (its : List Value) : ∃ js : List Nat, revP its.toArray = js.filterMap (its[·]?) ∧ js.length = its.length := by
  refine ⟨(List.range its.length).map fun (m : Nat) => ((its.length : Int) - 1 + (m : Int) * (-1)).toNat, ?_, by rw [List.length_map, List.length_range]⟩
  unfold revP
  rw [List.size_toArray, List.filterMap_map]
  congr 1
  funext m
  simp
theorem pe_slR {X : Cx} {e st : Expr} {te : TE} {ts : TO} {p2 pos : Pos} (K : PySem.W.Frag) (he : PE X e te) (hs : PO X (some st) ts) (hK : X.K = K := by rfl) : PE X (.Subscript e (.Slice none none (some st) p2) pos) (tSlR K te ts) := by
  subst hK
  refine ⟨fun pins s σ H Q I h => ?_⟩
  refine Subscript_ (thn (he.run pins s σ H _ I h) fun v s1 ⟨x, H1, I1, r1, q1⟩ => ?_)
  refine wpAny_Slice ?_
  rw [evalPart_none]
  refine wpAny_pure (wpAny_pure ?_)
  refine thn (hs.run pins s1 σ H1 _ I1 q1) fun vk s3 ⟨o, H3, I3, pk, h0, a, xs, ex, hx, q3⟩ => ?_
  subst ex
  subst h0
  cases r1
  have I4 : Inv X pins σ H3 { s3 with heap := s3.heap.push { cls := .type "slice", data := .fields #[.none, .none, vk] } } := I3.kept (t' := s3.toks) fun b ob q => Heap.get?_push_of_some _ q
  obtain ⟨its, r, pt, hz⟩ := I4.tuple hx
  have hlen : its.toArray.size ≤ sizeLine := by rw [List.size_toArray, ← r.length]; exact hz
  show wpAny (model X.prog X.w) X.A (subscriptTail e (.Slice none none (some st) p2) (.ref a) (.ref s3.heap.objs.size)) (EP X pins σ Q) X.xe { s3 with heap := s3.heap.push { cls := .type "slice", data := .fields #[.none, .none, vk] } }
  refine tail_any (T := "tuple") (ops := [.ref a, .ref s3.heap.objs.size]) pt.typeIs PyProof.Rows.slot_tuple_getitem.lookup (get_rev pt (Heap.IsSliceOf.new ..) pk hlen ?_) (by with_unfolding_all rfl)
  obtain ⟨js, ej, lj⟩ := revP_eq its
  obtain ⟨ys, v1, v2⟩ := vals_pick (X := X) r js
  have hyl : ys.length ≤ xs.length := by
    rw [v1.length, r.length]
    exact Nat.le_trans (List.length_filterMap_le _ _) (Nat.le_of_eq lj)
  refine ⟨.ref _, upd H3 _ (.tup ys), I4.laid (t' := s3.toks) (fun b ob e => Heap.get?_push_of_some _ e) (Nat.le_refl _) ?_, rfl, q3 ys _ v2 hyl (I4.hok.fresh (Nat.le_refl _))⟩
  rw [ej]
  exact ⟨Nat.le_trans hyl hz, _, v1, IsTup.new _ _⟩
section
variable {H0 H : Hp} {ft : List Addr} {l T : List Cell} {p q1 : Addr} {K : PySem.W.Frag} {Q : VK}
theorem Sep.tlD (S : Sep H0 ft H l) {n : Nat} (hT : l.drop n = T) : Le (G.tl T) H := S.tl fun c h => by rw [← hT] at h; exact List.mem_of_mem_drop h
/-- a new thing that goes into the tail at once -/
theorem Sep.newT (S : Sep H0 ft H l) (n : Nat) (hT : l.drop n = T) (hp : H p = none) (o : HO) : Grow T ((2, p, o) :: T) ∧ Le (G.tl T) (G.tl ((2, p, o) :: T)) ∧ G.tl ((2, p, o) :: T) p = some o ∧ Sep H0 ft (upd H p o) (l.take n ++ ((2, p, o) :: T)) := by
  subst hT
  have S1 := S.new hp o
  have S2 : Sep H0 ft (upd H p o) (l.take n ++ ((2, p, o) :: l.drop n)) := S1.perm (List.perm_middle.trans (List.Perm.of_eq (by rw [List.take_append_drop])))
  exact ⟨Grow.one _ p o, (Grow.one _ p o).le S2.ndT, tl_mem S2.ndT (c := (2, p, o)) List.mem_cons_self, S2⟩
theorem x_slD {xs : List V} {lo hi : Option Int} (S : Sep H0 ft H l) (n : Nat) (hT : l.drop n = T) (ha : G.tl T p = some (.tup xs)) (q : ∀ r T' H', Grow T T' → Le (G.tl T) (G.tl T') → G.tl T' r = some (.tup (cutV xs lo hi)) → Sep H0 ft H' (l.take n ++ T') → Q (.ref r) H') : rSlA K (.ref p) lo hi H Q := by
  refine ⟨p, xs, rfl, .of (S.tlD hT _ _ ha), fun hw => ?_, fun _ r hr => ?_⟩
  · refine q p T H (Grow.refl T) (fun _ _ e => e) ?_ (by rw [← hT, List.take_append_drop]; exact S)
    have e : cutV xs lo hi = xs := by
      unfold cutV
      rw [hw.1, hw.2, List.drop_zero, Nat.sub_zero, List.take_length]
    rw [e]; exact ha
  · obtain ⟨g, le, e, S'⟩ := S.newT n hT hr (.tup (cutV xs lo hi))
    exact q r _ _ g le e S'
theorem x_catD {xs ys : List V} (S : Sep H0 ft H l) (n : Nat) (hT : l.drop n = T) (ha : G.tl T p = some (.tup xs)) (hb : G.tl T q1 = some (.tup ys)) (hl : xs.length + ys.length ≤ 100000) (q : ∀ r T' H', Grow T T' → Le (G.tl T) (G.tl T') → G.tl T' r = some (.tup (xs ++ ys)) → Sep H0 ft H' (l.take n ++ T') → Q (.ref r) H') : rCatA K (.ref p) (.ref q1) H Q := by
  have S0 : Sep H0 ft H (l.take n ++ T) := by rw [← hT, List.take_append_drop]; exact S
  refine ⟨p, q1, xs, ys, rfl, rfl, .of (S.tlD hT _ _ ha), .of (S.tlD hT _ _ hb), Nat.le_trans hl (by decide), fun e => ?_, fun _ e => ?_, fun _ _ r hr => ?_⟩
  · subst e; exact q q1 T H (Grow.refl T) (fun _ _ e => e) hb S0
  · subst e; exact q p T H (Grow.refl T) (fun _ _ e => e) (by rw [List.append_nil]; exact ha) S0
  · obtain ⟨g, le, e, S'⟩ := S.newT n hT hr (.tup (xs ++ ys))
    exact q r _ _ g le e S'
theorem x_revD {xs : List V} (S : Sep H0 ft H l) (n : Nat) (hT : l.drop n = T) (ha : G.tl T p = some (.tup xs)) (q : ∀ r T' H' ys, (∀ y ∈ ys, y ∈ xs) → ys.length ≤ xs.length → Grow T T' → Le (G.tl T) (G.tl T') → G.tl T' r = some (.tup ys) → Sep H0 ft H' (l.take n ++ T') → Q (.ref r) H') : rSlR K (.ref p) H Q := by
  refine ⟨p, xs, rfl, .of (S.tlD hT _ _ ha), fun ys r h1 h2 hr => ?_⟩
  obtain ⟨g, le, e, S'⟩ := S.newT n hT hr (.tup ys)
  exact q r _ _ ys h1 h2 g le e S'
theorem x_repD {xs : List V} {k : Int} (S : Sep H0 ft H l) (n : Nat) (hT : l.drop n = T) (ha : G.tl T p = some (.tup xs)) (h0 : xs ≠ []) (h2 : 2 ≤ k) (h3 : k ≤ 1000) (h4 : xs.length ≤ 1000) (q : ∀ r T' H', Grow T T' → Le (G.tl T) (G.tl T') → G.tl T' r = some (.tup (List.replicate k.toNat xs).flatten) → Sep H0 ft H' (l.take n ++ T') → Q (.ref r) H') : rRepT K (.ref p) (.int k) H Q := by
  refine ⟨p, k, xs, rfl, rfl, .of (S.tlD hT _ _ ha), h0, h2, h3, h4, fun r hr => ?_⟩
  obtain ⟨g, le, e, S'⟩ := S.newT n hT hr (.tup (List.replicate k.toNat xs).flatten)
  exact q r _ _ g le e S'
theorem x_ixA {xs : List V} {i : Int} (hs : SqL K H p xs) (h0 : 0 ≤ i) (h1 : i < xs.length) (q : ∀ c, xs[i.toNat]? = some c → Q c H) : rIxL K (.ref p) (.int i) H Q := by
  have hi : i.toNat < xs.length := by omega
  exact ⟨p, xs, i, xs[i.toNat], rfl, rfl, hs, by unfold atI; rw [ixN_in h0 h1]; exact List.getElem?_eq_getElem hi, q _ (List.getElem?_eq_getElem hi)⟩
theorem x_ixAT {xs : List V} {i : Int} (hs : SqT K H p xs) (h0 : 0 ≤ i) (h1 : i < xs.length) (q : ∀ c, xs[i.toNat]? = some c → Q c H) : rIxT K (.ref p) (.int i) H Q := by
  have hi : i.toNat < xs.length := by omega
  exact ⟨p, xs, i, xs[i.toNat], rfl, rfl, hs, by unfold atI; rw [ixN_in h0 h1]; exact List.getElem?_eq_getElem hi, q _ (List.getElem?_eq_getElem hi)⟩
end
theorem DHs.cut {H : Hp} {xs : List V} {ds : List PyData} (h : DHs H xs ds) (lo hi : Option Int) : DHs H (cutV xs lo hi) (cutI ds lo hi) := by
  unfold cutV cutI
  rw [← h.len]
  exact (h.drop _).take _
theorem DHs.some {H : Hp} : ∀ {ys : List V}, (∀ y ∈ ys, ∃ d, DH H y d) → ∃ ds, DHs H ys ds
  | [], _ => ⟨[], .nil⟩
  | y :: r, h => by
    obtain ⟨d, hd⟩ := h y List.mem_cons_self
    obtain ⟨ds, hds⟩ := DHs.some fun z hz => h z (List.mem_cons_of_mem _ hz)
    exact ⟨d :: ds, .cons hd hds⟩
theorem DHs.any {H : Hp} {xs ys : List V} {ds : List PyData} (h : DHs H xs ds) (hy : ∀ y ∈ ys, y ∈ xs) : ∃ es, DHs H ys es := DHs.some fun y m => by
  obtain ⟨i, hi⟩ := List.mem_iff_getElem?.mp (hy y m)
  obtain ⟨d, _, hd⟩ := h.get hi
  exact ⟨d, hd⟩
theorem len_cutS (z : Str) (lo hi : Option Int) : (cutS z lo hi).length ≤ z.length := by
  unfold cutS
  show (List.take _ (List.drop _ _)).toArray.size ≤ z.cps.size
  rw [List.size_toArray, List.length_take, List.length_drop, Array.length_toList]
  omega
theorem log_big {i : Int} (h : i.natAbs < 10 ^ 500) : i.natAbs.log2 < 1920 := by
  by_cases z : i.natAbs = 0
  · rw [z]; decide
  · exact (Nat.log2_lt z).mpr (Nat.lt_trans h (by decide +kernel))
theorem len_big {i : Int} (h : i.natAbs < 10 ^ 500) : (Str.ofString (toString i)).length ≤ 100000 := Nat.le_trans (PyProof.Rows.int_text_len_1921 (log_big h)) (by decide)
def rStrI : List V → Hp → VK → Prop := fun xs H Q => ∃ i : Int, xs = [.int i] ∧ i.natAbs.log2 < 1920 ∧ Q (.str (toString i)) H
theorem cl_strI {X : Cx} : CallR X (.type "str") rStrI := call_str_int
theorem x_strI {H : Hp} {Q : VK} {i : Int} (h : i.natAbs < 10 ^ 500) (q : Q (.str (Str.ofString (toString i))) H) : rStrI [.int i] H Q := ⟨i, rfl, log_big h, q⟩
def okO : PyData → Prop
  | .str s => s.length ≤ 1000
  | .int i => i.natAbs < 10 ^ 100
  | .tuple ds => ds.length ≤ 1000
  | _ => False
def okS : Nat → PyData → Prop
  | _, .str s => s.length ≤ 1000
  | _, .int i => i.natAbs < 10 ^ 100
  | n + 1, .tuple ds => ds.length ≤ 1000 ∧ ∀ d ∈ ds, okS n d
  | _, _ => False
theorem okS.o {n : Nat} {d : PyData} (h : okS n d) : okO d := by
  cases d <;> cases n <;> first | exact h | exact h.1 | exact h.elim
theorem FnOk.void {P : Program} {w : World} {K : PySem.W.Frag} {mg : Str → Option Value} {base : Heap} {CX : CXT} {k : Nat} {f : Addr} {fd : FuncData} {ps : List Str} : FnOk P w K mg base CX k f fd ps (fun _ _ _ _ => False) where
  len := fun _ _ _ _ h => h.elim
  run := fun _ _ _ _ _ _ _ _ _ _ _ _ _ h => h.elim
theorem x_listT {H0 H : Hp} {ft : List Addr} {l : List Cell} {p : Addr} {K : PySem.W.Frag} {Q : VK} {xs : List V} (S : Sep H0 ft H l) (hs : SqT K H p xs) (q : ∀ r H', Sep H0 ft H' ((2, r, .lst xs) :: l) → Q (.ref r) H') : rListOf K [.ref p] H Q := ⟨p, xs, rfl, .inr hs, x_new S _ q⟩
section
variable {H0 H : Hp} {ft : List Addr} {l T : List Cell} {p q1 : Addr} {K : PySem.W.Frag} {Q : VK}
theorem x_slLD {xs : List V} {lo hi : Option Int} (S : Sep H0 ft H l) (n : Nat) (hT : l.drop n = T) (ha : G.tl T p = some (.lst xs)) (q : ∀ r T' H', Grow T T' → Le (G.tl T) (G.tl T') → G.tl T' r = some (.lst (cutV xs lo hi)) → Sep H0 ft H' (l.take n ++ T') → Q (.ref r) H') : rSlL K (.ref p) lo hi H Q := by
  refine ⟨p, xs, rfl, .of (S.tlD hT _ _ ha), fun r hr => ?_⟩
  obtain ⟨g, le, e, S'⟩ := S.newT n hT hr (.lst (cutV xs lo hi))
  exact q r _ _ g le e S'
theorem x_catLD {xs ys : List V} (S : Sep H0 ft H l) (n : Nat) (hT : l.drop n = T) (ha : G.tl T p = some (.lst xs)) (hb : G.tl T q1 = some (.lst ys)) (hl : xs.length + ys.length ≤ 100000) (q : ∀ r T' H', Grow T T' → Le (G.tl T) (G.tl T') → G.tl T' r = some (.lst (xs ++ ys)) → Sep H0 ft H' (l.take n ++ T') → Q (.ref r) H') : rCat (.ref p) (.ref q1) H Q := by
  refine ⟨p, q1, xs, ys, rfl, rfl, S.tlD hT _ _ ha, S.tlD hT _ _ hb, Nat.le_trans hl (by decide), fun r hr => ?_⟩
  obtain ⟨g, le, e, S'⟩ := S.newT n hT hr (.lst (xs ++ ys))
  exact q r _ _ g le e S'
end
theorem six_of {α : Type} {xs : List α} (h : (xs.length : Int) = 6) : ∃ a b c d e f, xs = [a, b, c, d, e, f] := by
  rcases xs with _ | ⟨a, _ | ⟨b, _ | ⟨c, _ | ⟨d, _ | ⟨e, _ | ⟨f, _ | ⟨g, r⟩⟩⟩⟩⟩⟩⟩ <;> first | exact ⟨_, _, _, _, _, _, rfl⟩ | (simp only [List.length_cons, List.length_nil] at h; omega)
end G

set_option linter.all false
set_option maxRecDepth 100000
set_option maxHeartbeats 4000000
/-! zip of a list and a tuple, of a tuple and a list; written dicts: in -/
namespace ZM
open PySem PySem.Spec PyProof.Rows L2
/-- what an iterator over a row does -/
structure Sq (I : Heap → Addr → Addr → Nat → Prop) (L : Heap → Addr → Array Value → Prop) : Prop where
  keep : ∀ {h h' : Heap} {it l : Addr} {i : Nat}, I h it l i → (∀ o, h.get? it = some o → h'.get? it = some o) → I h' it l i
  row : ∀ {h h' : Heap} {l : Addr} {xs : Array Value}, L h l xs → (∀ o, h.get? l = some o → h'.get? l = some o) → L h' l xs
  lt : ∀ {h : Heap} {it l : Addr} {i : Nat}, I h it l i → it < h.objs.size
  item : ∀ {prog : Program} {w : World} {A : Around} {E : Value → Shared → Prop} {s : Shared} {it l : Addr} {i : Nat} {xs : Array Value} {x : Value} {Q : Value → Shared → Prop}, I s.heap it l i → L s.heap l xs → xs[i]? = some x →
    (∀ h', I h' it l (i + 1) → Heap.SameBut it s.heap h' → Q x { s with heap := h' }) → wpAny (model prog w) A (Builtin.SmallTypes.nextOf (.ref it)) Q E s
  fin : ∀ {prog : Program} {w : World} {A : Around} {E : Value → Shared → Prop} {s : Shared} {it l : Addr} {i : Nat} {xs : Array Value} {Q : Value → Shared → Prop}, A.handled = none → I s.heap it l i → L s.heap l xs → xs[i]? = none →
    (∀ h' e, Heap.ExtBut it s.heap h' → (∃ o, h'.get? e = some o ∧ o.cls = .type "StopIteration") → E (.ref e) { s with heap := h' }) → wpAny (model prog w) A (Builtin.SmallTypes.nextOf (.ref it)) Q E s
theorem sqL : Sq Heap.IsListIter Heap.IsList := ⟨fun h k => h.at k, fun h k => h.at k, fun h => let ⟨_, e, _⟩ := h; Heap.lt_size e, fun h l e q => wpAny_nextOf_list_item h l e q, fun a h l e q => wpAny_nextOf_list_end a h l e q⟩
theorem sqT : Sq Heap.IsTupleIter Heap.IsTuple := ⟨fun h k => h.at k, fun h k => h.at k, fun h => let ⟨_, e, _⟩ := h; Heap.lt_size e, fun h l e q => RZ.nextOf_tuple_item h l e q, fun a h l e q => RZ.nextOf_tuple_end a h l e q⟩
section
variable {I1 I2 : Heap → Addr → Addr → Nat → Prop} {L1 L2 : Heap → Addr → Array Value → Prop} (S1 : Sq I1 L1) (S2 : Sq I2 L2)
variable {prog : Program} {w : World} {A : Around} {E : Value → Shared → Prop} {s : Shared}
variable {z TI TO i1 i2 l1 l2 : Addr} {k1 k2 : Nat} {xs ys : Array Value} {x y a b : Value}
include S1 S2
theorem one {Q : Value → Shared → Prop} (D : ZipApart z TI TO i1 i2 l1 l2) (cz : IsZip s.heap z TI TO .none) (ci : IsPair s.heap TI (.ref i1) (.ref i2)) (co : IsPair s.heap TO a b) (j1 : I1 s.heap i1 l1 k1) (j2 : I2 s.heap i2 l2 k2) (r1 : L1 s.heap l1 xs) (r2 : L2 s.heap l2 ys) (ex : xs[k1]? = some x) (ey : ys[k2]? = some y)
    (q : ∀ h', IsZip h' z TI TO (rawInt s.heap.objs.size) → IsPair h' TO x y → I1 h' i1 l1 (k1 + 1) → I2 h' i2 l2 (k2 + 1) → IsPair h' s.heap.objs.size x y → h'.objs.size = s.heap.objs.size + 1 → (∀ c o, c ≠ z → c ≠ TO → c ≠ i1 → c ≠ i2 → s.heap.get? c = some o → h'.get? c = some o) → Q (.ref s.heap.objs.size) { s with heap := h' }) :
    wpAny (model prog w) A (Builtin.«zip.__next__» ⟨[.ref z], []⟩) (fun fin s' => ∃ v, fin = .done (.ret v) ∧ Q v s') E s := by
  show wpAny (model prog w) A (field (.ref z) 2 >>= _) _ E s
  refine wpAny_bind (wpAny_field cz rfl (x := .bool false) rfl ?_)
  show wpAny (model prog w) A (field (.ref z) 3 >>= _) _ E s
  refine wpAny_bind (wpAny_field cz rfl (x := .ref TI) rfl (wpAny_bind (wpAny_seqItems ci rfl ?_)))
  show wpAny (model prog w) A (Builtin.SmallTypes.ownedTupleIsFree (.ref z) >>= _) _ E s
  refine wpAny_bind ?_
  unfold Builtin.SmallTypes.ownedTupleIsFree
  refine wpAny_bind (wpAny_field cz rfl (x := .none) rfl (wpAny_pure ?_))
  simp only [if_true]
  refine wpAny_bind (wpAny_rule (wpAny_bind (wpAny_field cz rfl (x := .ref TO) rfl ?_)))
  refine wpAny_bind (wpAny_setField_rec cz (by simp) fun g1 cz1 s1 => ?_)
  replace cz1 : IsZip g1 z TI TO .ellipsis := cz1
  have t1 := s1.extBut
  refine wpAny_bind ?_
  simp only [List.zipIdx_cons, List.zipIdx_nil, List.forIn_cons, List.forIn_nil]
  refine wpAny_bind (wpAny_bind (wpAny_onRaise ?_))
  show wpAny (model prog w) _ (Builtin.SmallTypes.nextOf (.ref i1) >>= _) _ _ _
  refine wpAny_bind (S1.item (S1.keep j1 fun o e => t1 _ o D.i1z e) (S1.row r1 fun o e => t1 _ o D.l1z e) ex fun g2 j12 s2 => wpAny_pure ?_)
  have t2 := s2.extBut
  have co2 : IsPair g2 TO a b := t2 _ _ D.TOi1 (t1 _ _ D.TOz co)
  refine wpAny_bind (wpAny_seqItems co2 rfl (wpAny_bind (wpAny_updateSeq_pair co2 fun g3 co3 s3 => ?_)))
  replace co3 : IsPair g3 TO x b := co3
  have t3 := s3.extBut
  refine wpAny_bind (wpAny_letGo (wpAny_pure (wpAny_bind (wpAny_bind (wpAny_onRaise ?_)))))
  show wpAny (model prog w) _ (Builtin.SmallTypes.nextOf (.ref i2) >>= _) _ _ _
  have n3 : ∀ c o, c ≠ z → c ≠ i1 → c ≠ TO → s.heap.get? c = some o → g3.get? c = some o := fun c o e1 e2 e3 e => t3 c o e3 (t2 c o e2 (t1 c o e1 e))
  refine wpAny_bind (S2.item (S2.keep j2 fun o e => n3 _ o D.i2z D.i12.symm D.TOi2.symm e) (S2.row r2 fun o e => n3 _ o D.l2z D.l2i1 D.l2TO e) ey fun g4 j24 s4 => wpAny_pure ?_)
  have t4 := s4.extBut
  have co4 : IsPair g4 TO x b := t4 _ _ D.TOi2 co3
  refine wpAny_bind (wpAny_seqItems co4 rfl (wpAny_bind (wpAny_updateSeq_pair co4 fun g5 co5 s5 => ?_)))
  replace co5 : IsPair g5 TO x y := co5
  have t5 := s5.extBut
  refine wpAny_bind (wpAny_letGo (wpAny_pure (wpAny_pure (wpAny_bind (wpAny_seqItems co5 rfl (wpAny_bind (wpAny_newTuple ?_)))))))
  have gz : g5.objs.size = s.heap.objs.size := by rw [s5.1, s4.1, s3.1, s2.1, s1.1]
  have n5 : ∀ c o, c ≠ z → c ≠ TO → c ≠ i1 → c ≠ i2 → s.heap.get? c = some o → g5.get? c = some o := fun c o e1 e2 e3 e4 e => t5 c o e2 (t4 c o e4 (n3 c o e1 e3 e2 e))
  have cz5 : IsZip g5 z TI TO .ellipsis := t5 _ _ D.TOz.symm (t4 _ _ D.i2z.symm (t3 _ _ D.TOz.symm (t2 _ _ D.i1z.symm cz1)))
  have j15 : I1 g5 i1 l1 (k1 + 1) := S1.keep j12 fun o e => t5 _ o D.TOi1.symm (t4 _ o D.i12 (t3 _ o D.TOi1.symm e))
  have j25 : I2 g5 i2 l2 (k2 + 1) := S2.keep j24 fun o e => t5 _ o D.TOi2.symm e
  have zl : z < g5.objs.size := Heap.lt_size cz5
  show wpAny (model prog w) A (Builtin.SmallTypes.ownedTupleHandOut (.ref z) (.ref g5.objs.size) >>= _) _ E _
  refine wpAny_bind ?_
  unfold Builtin.SmallTypes.ownedTupleHandOut
  have cz6 : IsZip (g5.push { cls := .type "tuple", data := .seq #[x, y] }) z TI TO .ellipsis := Heap.get?_push_of_some _ cz5
  refine wpAny_bind (wpAny_setField_rec cz6 (by simp) fun g7 cz7 s7 => ?_)
  replace cz7 : IsZip g7 z TI TO (rawInt g5.objs.size) := cz7
  refine wpAny_setField_rec cz7 (by simp) fun g8 cz8 s8 => ?_
  replace cz8 : IsZip g8 z TI TO (rawInt g5.objs.size) := cz8
  have up : ∀ c o, c ≠ z → g5.get? c = some o → g8.get? c = some o := fun c o e1 e => s8.extBut c o e1 (s7.extBut c o e1 (Heap.get?_push_of_some _ e))
  have c8 : IsPair g8 g5.objs.size x y := s8.extBut _ _ (Nat.ne_of_gt zl) (s7.extBut _ _ (Nat.ne_of_gt zl) (Heap.get?_push_size _ rfl))
  have z8 : g8.objs.size = g5.objs.size + 1 := by rw [s8.1, s7.1, Heap.size_push]
  rw [gz] at cz8 c8 z8
  refine wpAny_pure ⟨_, rfl, ?_⟩
  show Q (.ref g5.objs.size) _
  rw [gz]
  exact q g8 cz8 (up _ _ D.TOz co5) (S1.keep j15 fun o e => up _ o D.i1z e) (S2.keep j25 fun o e => up _ o D.i2z e) c8 z8 fun c o e1 e2 e3 e4 e => up c o e1 (n5 c o e1 e2 e3 e4 e)
theorem end_ {Q : Fin → Shared → Prop} (hh : A.handled = none) (D : ZipApart z TI TO i1 i2 l1 l2) (cz : IsZip s.heap z TI TO .none) (ci : IsPair s.heap TI (.ref i1) (.ref i2)) (co : IsPair s.heap TO a b) (j1 : I1 s.heap i1 l1 k1) (j2 : I2 s.heap i2 l2 k2) (r1 : L1 s.heap l1 xs) (r2 : L2 s.heap l2 ys) (en : xs[k1]? = none ∨ ys[k2]? = none)
    (q : ∀ h' e, (∀ c o, c ≠ z → c ≠ TO → c ≠ i1 → c ≠ i2 → s.heap.get? c = some o → h'.get? c = some o) → (∃ o, h'.get? e = some o ∧ o.cls = .type "StopIteration") → E (.ref e) { s with heap := h' }) : wpAny (model prog w) A (Builtin.«zip.__next__» ⟨[.ref z], []⟩) Q E s := by
  show wpAny (model prog w) A (field (.ref z) 2 >>= _) _ E s
  refine wpAny_bind (wpAny_field cz rfl (x := .bool false) rfl ?_)
  show wpAny (model prog w) A (field (.ref z) 3 >>= _) _ E s
  refine wpAny_bind (wpAny_field cz rfl (x := .ref TI) rfl (wpAny_bind (wpAny_seqItems ci rfl ?_)))
  show wpAny (model prog w) A (Builtin.SmallTypes.ownedTupleIsFree (.ref z) >>= _) _ E s
  refine wpAny_bind ?_
  unfold Builtin.SmallTypes.ownedTupleIsFree
  refine wpAny_bind (wpAny_field cz rfl (x := .none) rfl (wpAny_pure ?_))
  simp only [if_true]
  refine wpAny_bind (wpAny_rule (wpAny_bind (wpAny_field cz rfl (x := .ref TO) rfl ?_)))
  refine wpAny_bind (wpAny_setField_rec cz (by simp) fun g1 cz1 s1 => ?_)
  replace cz1 : IsZip g1 z TI TO .ellipsis := cz1
  have t1 := s1.extBut
  refine wpAny_bind ?_
  simp only [List.zipIdx_cons, List.zipIdx_nil, List.forIn_cons, List.forIn_nil]
  refine wpAny_bind (wpAny_bind (wpAny_onRaise ?_))
  show wpAny (model prog w) _ (Builtin.SmallTypes.nextOf (.ref i1) >>= _) _ _ _
  cases ex : xs[k1]? with
  | none =>
    refine wpAny_bind (S1.fin hh (S1.keep j1 fun o e => t1 _ o D.i1z e) (S1.row r1 fun o e => t1 _ o D.l1z e) ex fun g2 e t2 he => ?_)
    obtain ⟨oe, e1, e2⟩ := he
    have cz2 : IsZip g2 z TI TO .ellipsis := t2 _ _ D.i1z.symm cz1
    have ez : e ≠ z := fun u => by subst u; rw [cz2] at e1; cases e1; simp at e2
    exact wpAny_setField_rec cz2 (by simp) fun g3 _ s3 => q g3 e (fun c o c1 _ c3 _ u => s3.extBut _ _ c1 (t2 _ _ c3 (t1 _ _ c1 u))) ⟨oe, s3.extBut _ _ ez e1, e2⟩
  | some x =>
    have ey : ys[k2]? = none := en.elim (fun u => by rw [ex] at u; cases u) id
    refine wpAny_bind (S1.item (S1.keep j1 fun o e => t1 _ o D.i1z e) (S1.row r1 fun o e => t1 _ o D.l1z e) ex fun g2 j12 s2 => wpAny_pure ?_)
    have t2 := s2.extBut
    have co2 : IsPair g2 TO a b := t2 _ _ D.TOi1 (t1 _ _ D.TOz co)
    refine wpAny_bind (wpAny_seqItems co2 rfl (wpAny_bind (wpAny_updateSeq_pair co2 fun g3 co3 s3 => ?_)))
    have t3 := s3.extBut
    refine wpAny_bind (wpAny_letGo (wpAny_pure (wpAny_bind (wpAny_bind (wpAny_onRaise ?_)))))
    show wpAny (model prog w) _ (Builtin.SmallTypes.nextOf (.ref i2) >>= _) _ _ _
    have n3 : ∀ c o, c ≠ z → c ≠ i1 → c ≠ TO → s.heap.get? c = some o → g3.get? c = some o := fun c o e1 e2 e3 e => t3 c o e3 (t2 c o e2 (t1 c o e1 e))
    refine wpAny_bind (S2.fin hh (S2.keep j2 fun o e => n3 _ o D.i2z D.i12.symm D.TOi2.symm e) (S2.row r2 fun o e => n3 _ o D.l2z D.l2i1 D.l2TO e) ey fun g4 e t4 he => ?_)
    obtain ⟨oe, e1, e2⟩ := he
    have cz4 : IsZip g4 z TI TO .ellipsis := t4 _ _ D.i2z.symm (t3 _ _ D.TOz.symm (t2 _ _ D.i1z.symm cz1))
    have ez : e ≠ z := fun u => by subst u; rw [cz4] at e1; cases e1; simp at e2
    exact wpAny_setField_rec cz4 (by simp) fun g5 _ s5 => q g5 e (fun c o c1 c2 c3 c4 u => s5.extBut _ _ c1 (t4 _ _ c4 (n3 _ _ c1 c3 c2 u))) ⟨oe, s5.extBut _ _ ez e1, e2⟩
end
def ItB (c : Bool) : Heap → Addr → Addr → Nat → Prop := if c = true then Heap.IsListIter else Heap.IsTupleIter
def LB (c : Bool) : Heap → Addr → Array Value → Prop := if c = true then Heap.IsList else Heap.IsTuple
theorem sqB : ∀ c : Bool, Sq (ItB c) (LB c)
  | true => sqL
  | false => sqT
section
variable {prog : Program} {w : World} {A : Around} {E : Value → Shared → Prop} {s : Shared}
theorem next_one {c1 c2 : Bool} {z TI TO i1 i2 l1 l2 : Addr} {k1 k2 : Nat} {xs ys : Array Value} {x y a b : Value} {Q : Option Value → Shared → Prop} (D : ZipApart z TI TO i1 i2 l1 l2) (cz : IsZip s.heap z TI TO .none) (ci : IsPair s.heap TI (.ref i1) (.ref i2)) (co : IsPair s.heap TO a b) (j1 : ItB c1 s.heap i1 l1 k1) (j2 : ItB c2 s.heap i2 l2 k2) (r1 : LB c1 s.heap l1 xs) (r2 : LB c2 s.heap l2 ys) (ex : xs[k1]? = some x) (ey : ys[k2]? = some y)
    (q : ∀ h', IsZip h' z TI TO (rawInt s.heap.objs.size) → IsPair h' TO x y → ItB c1 h' i1 l1 (k1 + 1) → ItB c2 h' i2 l2 (k2 + 1) → IsPair h' s.heap.objs.size x y → h'.objs.size = s.heap.objs.size + 1 → (∀ c o, c ≠ z → c ≠ TO → c ≠ i1 → c ≠ i2 → s.heap.get? c = some o → h'.get? c = some o) → Q (some (.ref s.heap.objs.size)) { s with heap := h' }) :
    wpAny (model prog w) A (pyNext (.ref z)) Q E s := by
  have tz : s.TypeIs (.ref z) "zip" := ⟨_, cz, rfl⟩
  unfold pyNext
  refine wpAny_bind (wpAny_attempt (wpAny_callSpecial?_slot (name := Str.ofString "__next__") tz F.slot_zip_next (wpAny_call_entry F.slot_zip_next tz F.entry_zip_next ?_ (F.args_zip_next_1 _))))
  exact one (sqB c1) (sqB c2) D cz ci co j1 j2 r1 r2 ex ey fun h' a1 a2 a3 a4 a5 a6 a7 => wpAny_pure (q h' a1 a2 a3 a4 a5 a6 a7)
theorem next_end {c1 c2 : Bool} {z TI TO i1 i2 l1 l2 : Addr} {k1 k2 : Nat} {xs ys : Array Value} {a b : Value} {Q : Option Value → Shared → Prop} (hh : A.handled = none) (D : ZipApart z TI TO i1 i2 l1 l2) (cz : IsZip s.heap z TI TO .none) (ci : IsPair s.heap TI (.ref i1) (.ref i2)) (co : IsPair s.heap TO a b) (j1 : ItB c1 s.heap i1 l1 k1) (j2 : ItB c2 s.heap i2 l2 k2) (r1 : LB c1 s.heap l1 xs) (r2 : LB c2 s.heap l2 ys) (en : xs[k1]? = none ∨ ys[k2]? = none)
    (q : ∀ h', (∀ c o, c ≠ z → c ≠ TO → c ≠ i1 → c ≠ i2 → s.heap.get? c = some o → h'.get? c = some o) → Q none { s with heap := h' }) : wpAny (model prog w) A (pyNext (.ref z)) Q E s := by
  have tz : s.TypeIs (.ref z) "zip" := ⟨_, cz, rfl⟩
  unfold pyNext
  refine wpAny_bind (wpAny_attempt (wpAny_callSpecial?_slot (name := Str.ofString "__next__") tz F.slot_zip_next (wpAny_call_entry F.slot_zip_next tz F.entry_zip_next ?_ (F.args_zip_next_1 _))))
  refine end_ (sqB c1) (sqB c2) hh D cz ci co j1 j2 r1 r2 en fun h' e hk he => ?_
  obtain ⟨o, e1, e2⟩ := he
  exact wpAny_bind (wpAny_isInstance (T := "StopIteration") (b := true) ⟨o, e1, e2⟩ isSubtype_stop (wpAny_pure (q _ hk)))
end
/-! the pair of iterators, made -/
def itName (c : Bool) : String := if c = true then "list_iterator" else "tuple_iterator"
abbrev m1 (c1 : Bool) (h : Heap) (l1 : Addr) : Heap := h.push { cls := .type (itName c1), data := .fields #[.ref l1, .int 0 0] }
abbrev m2 (c1 c2 : Bool) (h : Heap) (l1 l2 : Addr) : Heap := (m1 c1 h l1).push { cls := .type (itName c2), data := .fields #[.ref l2, .int 0 0] }
abbrev m3 (c1 c2 : Bool) (h : Heap) (l1 l2 : Addr) : Heap := (m2 c1 c2 h l1 l2).push { cls := .type "tuple", data := .seq #[.ref h.objs.size, .ref (m1 c1 h l1).objs.size] }
abbrev m4 (c1 c2 : Bool) (h : Heap) (l1 l2 : Addr) : Heap := (m3 c1 c2 h l1 l2).push { cls := .type "tuple", data := .seq #[.none, .none] }
abbrev m5 (c1 c2 : Bool) (h : Heap) (l1 l2 : Addr) : Heap := (m4 c1 c2 h l1 l2).push { cls := .type "zip", data := .fields #[.none, .bool false, .bool false, .ref (m2 c1 c2 h l1 l2).objs.size, .ref (m3 c1 c2 h l1 l2).objs.size] }
theorem made_lt (l1 l2 : Addr) (xs ys : Array Value) : Meets (Builtin.«zip.__new__» ⟨[.type "zip", .ref l1, .ref l2], []⟩) (fun _ R s => s.heap.IsList l1 xs ∧ s.heap.IsTuple l2 ys ∧ R (.ok (.ret (.ref (m4 true false s.heap l1 l2).objs.size))) { s with heap := m5 true false s.heap l1 l2 }) :=
  .of_wp fun prog w A R s h => by
    obtain ⟨hp, g, d, tk, os⟩ := s
    obtain ⟨b1, b2, h⟩ := h
    have hsub := sub_zip
    have c1 : Heap.IsList (Shared.heap ⟨hp, g, d, tk, os⟩) l1 xs := b1
    have c2 : Heap.IsTuple (Shared.heap ⟨hp.push { cls := .type "list_iterator", data := .fields #[.ref l1, .int 0 0] }, g, d, tk, os⟩) l2 ys := Heap.IsTuple.push b2 _
    wp_walk using wpAny_pyIter_list c1, wpAny_pyIter_tuple c2
    exact ⟨_, rfl, h⟩
theorem made_tl (l1 l2 : Addr) (xs ys : Array Value) : Meets (Builtin.«zip.__new__» ⟨[.type "zip", .ref l1, .ref l2], []⟩) (fun _ R s => s.heap.IsTuple l1 xs ∧ s.heap.IsList l2 ys ∧ R (.ok (.ret (.ref (m4 false true s.heap l1 l2).objs.size))) { s with heap := m5 false true s.heap l1 l2 }) :=
  .of_wp fun prog w A R s h => by
    obtain ⟨hp, g, d, tk, os⟩ := s
    obtain ⟨b1, b2, h⟩ := h
    have hsub := sub_zip
    have c1 : Heap.IsTuple (Shared.heap ⟨hp, g, d, tk, os⟩) l1 xs := b1
    have c2 : Heap.IsList (Shared.heap ⟨hp.push { cls := .type "tuple_iterator", data := .fields #[.ref l1, .int 0 0] }, g, d, tk, os⟩) l2 ys := Heap.IsList.push b2 _
    wp_walk using wpAny_pyIter_tuple c1, wpAny_pyIter_list c2
    exact ⟨_, rfl, h⟩
section
variable {prog : Program} {w : World} {A : Around} {E : Value → Shared → Prop} {s : Shared}
theorem after (c1 c2 : Bool) {l1 l2 : Addr} {Q : Value → Shared → Prop}
    (h : ∀ h', IsZip h' (s.heap.objs.size + 4) (s.heap.objs.size + 2) (s.heap.objs.size + 3) .none → IsPair h' (s.heap.objs.size + 2) (.ref s.heap.objs.size) (.ref (s.heap.objs.size + 1)) → IsPair h' (s.heap.objs.size + 3) .none .none → ItB c1 h' s.heap.objs.size l1 0 → ItB c2 h' (s.heap.objs.size + 1) l2 0 → h'.objs.size = s.heap.objs.size + 5 → (∀ c o, s.heap.get? c = some o → h'.get? c = some o) → Q (.ref (s.heap.objs.size + 4)) { s with heap := h' }) :
    Q (.ref (m4 c1 c2 s.heap l1 l2).objs.size) { s with heap := m5 c1 c2 s.heap l1 l2 } := by
  have z1 : (m1 c1 s.heap l1).objs.size = s.heap.objs.size + 1 := Heap.size_push ..
  have z2 : (m2 c1 c2 s.heap l1 l2).objs.size = s.heap.objs.size + 2 := by rw [Heap.size_push, z1]
  have z3 : (m3 c1 c2 s.heap l1 l2).objs.size = s.heap.objs.size + 3 := by rw [Heap.size_push, z2]
  have z4 : (m4 c1 c2 s.heap l1 l2).objs.size = s.heap.objs.size + 4 := by rw [Heap.size_push, z3]
  have z5 : (m5 c1 c2 s.heap l1 l2).objs.size = s.heap.objs.size + 5 := by rw [Heap.size_push, z4]
  have p : ∀ {g : Heap} {o : Obj} {c : Addr} {u : Obj}, g.get? c = some u → (g.push o).get? c = some u := fun e => Heap.get?_push_of_some _ e
  have g5 : (m5 c1 c2 s.heap l1 l2).get? (m4 c1 c2 s.heap l1 l2).objs.size = some _ := Heap.get?_push_size _ rfl
  have g4 : (m5 c1 c2 s.heap l1 l2).get? (m3 c1 c2 s.heap l1 l2).objs.size = some _ := p (Heap.get?_push_size _ rfl)
  have g3 : (m5 c1 c2 s.heap l1 l2).get? (m2 c1 c2 s.heap l1 l2).objs.size = some _ := p (p (Heap.get?_push_size _ rfl))
  have g2 : (m5 c1 c2 s.heap l1 l2).get? (m1 c1 s.heap l1).objs.size = some _ := p (p (p (Heap.get?_push_size _ rfl)))
  have g1 : (m5 c1 c2 s.heap l1 l2).get? s.heap.objs.size = some _ := p (p (p (p (Heap.get?_push_size _ rfl))))
  rw [z2, z3, z4] at g5
  rw [z1, z2] at g3
  rw [z3] at g4
  rw [z1] at g2
  rw [z4]
  refine h _ g5 g3 g4 ?_ ?_ z5 fun c o x => p (p (p (p (p x))))
  · cases c1 <;> exact ⟨_, g1, rfl, rfl⟩
  · cases c2 <;> exact ⟨_, g2, rfl, rfl⟩
theorem call_zipB : ∀ (c1 c2 : Bool) {l1 l2 : Addr} {xs ys : Array Value} {Q : Value → Shared → Prop}, LB c1 s.heap l1 xs → LB c2 s.heap l2 ys →
    (∀ h', IsZip h' (s.heap.objs.size + 4) (s.heap.objs.size + 2) (s.heap.objs.size + 3) .none → IsPair h' (s.heap.objs.size + 2) (.ref s.heap.objs.size) (.ref (s.heap.objs.size + 1)) → IsPair h' (s.heap.objs.size + 3) .none .none → ItB c1 h' s.heap.objs.size l1 0 → ItB c2 h' (s.heap.objs.size + 1) l2 0 → h'.objs.size = s.heap.objs.size + 5 → (∀ c o, s.heap.get? c = some o → h'.get? c = some o) → Q (.ref (s.heap.objs.size + 4)) { s with heap := h' }) →
    wpAny (model prog w) A (call (.type "zip") [.ref l1, .ref l2]) Q E s
  | true, true, _, _, _, _, _, h1, h2, h => call_zip_2 h1 h2 h
  | false, false, _, _, _, _, _, h1, h2, h => RZ.call_zipT h1 h2 h
  | true, false, l1, l2, xs, ys, Q, h1, h2, h => callType_new F.called_zip (by decide) (F.typeCall_zip_2 _ _) (F.newCall_zip_2 _ _) (fun o => F.args_object_init_3 o _ _) F.entry_zip_new (made_lt l1 l2 xs ys) ⟨h1, h2, ⟨⟨_, Heap.get?_push_size _ rfl, rfl⟩, after true false h⟩⟩
  | false, true, l1, l2, xs, ys, Q, h1, h2, h => callType_new F.called_zip (by decide) (F.typeCall_zip_2 _ _) (F.newCall_zip_2 _ _) (fun o => F.args_object_init_3 o _ _) F.entry_zip_new (made_tl l1 l2 xs ys) ⟨h1, h2, ⟨⟨_, Heap.get?_push_size _ rfl, rfl⟩, after false true h⟩⟩
end
/-! the walk over the pairs -/
def SqB (c : Bool) (K : PySem.W.Frag) (H : Hp) (a : Addr) (xs : List V) : Prop := if c = true then SqL K H a xs else SqT K H a xs
def Itm (K : PySem.W.Frag) (c1 c2 : Bool) (a b : Addr) : It :=
  ⟨fun i H => ∃ (xs ys : List V) (x y : V), SqB c1 K H a xs ∧ SqB c2 K H b ys ∧ xs[i]? = some x ∧ ys[i]? = some y,
    fun i H v H' => ∃ T x y, v = .ref T ∧ H T = none ∧ H' = upd H T (.tup [x, y]) ∧ (∀ xs, SqB c1 K H a xs → xs[i]? = some x) ∧ ∀ ys, SqB c2 K H b ys → ys[i]? = some y,
    fun i H => ∃ xs ys : List V, SqB c1 K H a xs ∧ SqB c2 K H b ys ∧ (xs.length ≤ i ∨ ys.length ≤ i)⟩
theorem rowB {X : Cx} {pins : List (Addr × Obj)} {σ : L2.St} {H : Hp} {s : Shared} (I : Inv X pins σ H s) : ∀ {c : Bool} {a : Addr} {xs : List V}, SqB c X.K H a xs → ∃ its : List Value, Vals xs its ∧ LB c s.heap a its.toArray ∧ ∃ o, s.heap.get? a = some o
  | true, a, xs, h => by
    obtain ⟨its, r, p, _⟩ := I.list h
    obtain ⟨o, n, ho, hr⟩ := id p
    exact ⟨its, r, p.isList, o, ho⟩
  | false, a, xs, h => by
    obtain ⟨its, r, p, _⟩ := I.tuple h
    obtain ⟨o, ho, hr⟩ := id p
    exact ⟨its, r, p, o, ho⟩
theorem injB {X : Cx} {pins : List (Addr × Obj)} {σ : L2.St} {H : Hp} {s : Shared} (I : Inv X pins σ H s) : ∀ {c : Bool} {a : Addr} {xs ys : List V}, SqB c X.K H a xs → SqB c X.K H a ys → xs = ys
  | true, _, _, _, h, h' => I.list_inj h h'
  | false, _, _, _, h, h' => I.tuple_inj h h'
theorem five {P : Addr → Prop} {z TI TO i1 i2 : Addr} (h1 : P z) (h2 : P TI) (h3 : P TO) (h4 : P i1) (h5 : P i2) : ∀ c ∈ [z, TI, TO, i1, i2], P c := fun c h => by
  simp only [List.mem_cons, List.not_mem_nil, or_false] at h
  rcases h with e | e | e | e | e <;> rw [e] <;> assumption
theorem turnM {P : Program} {w : World} {K : PySem.W.Frag} {elts : List Expr} {kk : Nat} {tpos : Pos} {c1 c2 : Bool} {a b z TI TO i1 i2 : Addr} (D : ZipApart z TI TO i1 i2 a b) :
    Turn P w K (.Tuple elts kk tpos) (Itm K c1 c2 a b) [z, TI, TO, i1, i2] z (fun i h => IsZip h z TI TO .none ∧ IsPair h TI (.ref i1) (.ref i2) ∧ (∃ x y, IsPair h TO x y) ∧ ItB c1 h i1 a i ∧ ItB c2 h i2 b i) where
  mem := List.mem_cons_self
  obj := fun i h st => by
    obtain ⟨cz, ci, ⟨x, y, co⟩, j1, j2⟩ := st
    have k1 : ∃ o, h.get? i1 = some o ∧ ∀ v, o.data ≠ .cell v := by
      cases c1
      · obtain ⟨o, e, _, d⟩ := j1; exact ⟨o, e, fun v q => by rw [d] at q; cases q⟩
      · obtain ⟨o, e, _, d⟩ := j1; exact ⟨o, e, fun v q => by rw [d] at q; cases q⟩
    have k2 : ∃ o, h.get? i2 = some o ∧ ∀ v, o.data ≠ .cell v := by
      cases c2
      · obtain ⟨o, e, _, d⟩ := j2; exact ⟨o, e, fun v q => by rw [d] at q; cases q⟩
      · obtain ⟨o, e, _, d⟩ := j2; exact ⟨o, e, fun v q => by rw [d] at q; cases q⟩
    exact five ⟨_, cz, fun v q => nomatch q⟩ ⟨_, ci, fun v q => nomatch q⟩ ⟨_, co, fun v q => nomatch q⟩ k1 k2
  keep := fun i h h' st k => by
    obtain ⟨cz, ci, ⟨x, y, co⟩, j1, j2⟩ := st
    exact ⟨k z (by simp) _ cz, k TI (by simp) _ ci, ⟨x, y, k TO (by simp) _ co⟩, (sqB c1).keep j1 fun o q => k i1 (by simp) o q, (sqB c2).keep j2 fun o q => k i2 (by simp) o q⟩
  item := by
    intro X hP hw hK hc i pins s σ H E I hf st hg
    subst hP hw hK
    obtain ⟨cz, ci, ⟨x0, y0, co⟩, j1, j2⟩ := st
    obtain ⟨xs, ys, x, y, qx, qy, ex, ey⟩ := hg
    obtain ⟨its, rv, p, _⟩ := rowB I qx
    obtain ⟨its2, rv2, p2, _⟩ := rowB I qy
    obtain ⟨u, hu, ru⟩ := rv.get ex
    obtain ⟨u2, hu2, ru2⟩ := rv2.get ey
    have zl : z < s.heap.objs.size := Heap.lt_size cz
    refine next_one (c1 := c1) (c2 := c2) D cz ci co j1 j2 p p2 (x := u) (y := u2) (by simpa using hu) (by simpa using hu2) fun g cz1 co1 j11 j21 ct gs gk => ?_
    refine ⟨_, rfl, wpAny_letOwnedTupleGo_zip (s := { s with heap := g }) cz1 fun g2 cz2 sb => ?_⟩
    have ct2 : g2.get? s.heap.objs.size = some { cls := .type "tuple", data := .seq #[u, u2] } := (sb.2 _ (Nat.ne_of_gt zl)).trans ct
    have fresh : ObjOk X.prog X.w (upd H s.heap.objs.size (.tup [x, y])) g2 s.heap.objs.size (.tup [x, y]) := ⟨by show 2 ≤ sizeLine; decide, [u, u2], .cons ru (.cons ru2 .nil), ⟨_, ct2, rfl, _, rfl⟩⟩
    have I1 : Inv X pins σ (upd H s.heap.objs.size (.tup [x, y])) { s with heap := g2 } :=
      I.turnedNew (t' := s.toks) (ch := [z, TI, TO, i1, i2]) (fun c o hb q => (sb.2 c fun e => hb (by simp [e])).trans (gk c o (fun e => hb (by simp [e])) (fun e => hb (by simp [e])) (fun e => hb (by simp [e])) (fun e => hb (by simp [e])) q)) hf (Nat.le_refl _) fresh
    have lts := five (P := fun c => c < s.heap.objs.size) zl (Heap.lt_size ci) (Heap.lt_size co) ((sqB c1).lt j1) ((sqB c2).lt j2)
    refine ⟨.ref s.heap.objs.size, _, I1, rfl, ⟨_, x, y, rfl, I.hok.fresh (Nat.le_refl _), rfl, fun l hl => by rw [injB I hl qx]; exact ex, fun l hl => by rw [injB I hl qy]; exact ey⟩, ⟨cz2, ?_, ⟨u, u2, ?_⟩, ?_, ?_⟩, fun c hcm => ?_⟩
    · exact (sb.2 _ D.TIz).trans (gk _ _ D.TIz D.TITO D.TIi1 D.TIi2 ci)
    · exact (sb.2 _ D.TOz).trans co1
    · exact (sqB c1).keep j11 fun o q => (sb.2 _ D.i1z).trans q
    · exact (sqB c2).keep j21 fun o q => (sb.2 _ D.i2z).trans q
    · rw [upd_ne (Nat.ne_of_lt (lts c hcm))]
      exact (hf c hcm).1
  done := by
    intro X hP hw hK hc i pins s σ H E I hf st hg
    subst hP hw hK
    obtain ⟨cz, ci, ⟨x0, y0, co⟩, j1, j2⟩ := st
    obtain ⟨xs, ys, qx, qy, en⟩ := hg
    obtain ⟨its, rv, p, _⟩ := rowB I qx
    obtain ⟨its2, rv2, p2, _⟩ := rowB I qy
    have n1 := rv.length
    have n2 := rv2.length
    have he : its.toArray[i]? = none ∨ its2.toArray[i]? = none := en.imp (fun q => by simp; omega) fun q => by simp; omega
    exact next_end (c1 := c1) (c2 := c2) (I.ok.hd hc) D cz ci co j1 j2 p p2 he fun g gk => ⟨rfl, I.turnedL (t' := s.toks) (ch := [z, TI, TO, i1, i2]) (fun c o hb q => gk c o (fun e => hb (by simp [e])) (fun e => hb (by simp [e])) (fun e => hb (by simp [e])) (fun e => hb (by simp [e])) q) hf⟩
  self := fun A i s Q E st h => wpAny_pyIter_zip st.1 h
def iZipM (K : PySem.W.Frag) (c1 c2 : Bool) (ta : TA) : TI := fun σ H R => ta σ H fun vs H1 => ∃ a b xs ys, vs = [.ref a, .ref b] ∧ SqB c1 K H1 a xs ∧ SqB c2 K H1 b ys ∧ R (Itm K c1 c2 a b) H1
theorem pi_zipM {X : Cx} {e e2 : Expr} {ta : TA} {p pos tpos : Pos} {elts : List Expr} {kk : Nat} (K : PySem.W.Frag) (c1 c2 : Bool) (hg : Gl X "zip") (hm : X.mg "zip" = none) (ha : PA X [e, e2] ta)
    (hs : starEach [e, e2] X.env = (false, eval e X.env) :: starEach [e2] X.env := by rfl) (hpl : (backTo pos (starEach [e2] X.env)).any (·.1) = false := by rfl) (hK : X.K = K := by rfl) : PI X (.Tuple elts kk tpos) (.Call (.Name "zip" p) [e, e2] [] pos) (iZipM K c1 c2 ta) := by
  subst hK
  refine ⟨fun pins s σ H R I h => ?_⟩
  refine Call_ (ld_blt I hg hm PyProof.Rows.boot_zip (PyProof.Rows.callWith_type1 (thn (ha.run pos pins s σ H _ I h) fun us s1 ⟨vs, H1, I1, r1, q1⟩ => ?_) hs hpl))
  obtain ⟨a, b, xs, ys, ex, qx, qy, q⟩ := q1
  subst ex
  obtain ⟨u, v, eu, ru, rv⟩ := vals2 r1
  subst eu
  cases ru
  cases rv
  obtain ⟨its, rx, px, ox, hox⟩ := rowB I1 qx
  obtain ⟨its2, ry, py, oy, hoy⟩ := rowB I1 qy
  have fr : ∀ c, s1.heap.objs.size ≤ c → FpOk X pins H1 c := fun c hc => I1.fpOk hc (I1.hok.fresh hc)
  refine call_zipB c1 c2 px py fun g cz ci co j1 j2 gs gk => wpAny_pyIter_zip cz ?_
  have I2 : Inv X pins σ H1 { s1 with heap := g } := I1.kept (t' := s1.toks) gk
  exact ⟨s1.heap.objs.size + 4, [s1.heap.objs.size + 4, s1.heap.objs.size + 2, s1.heap.objs.size + 3, s1.heap.objs.size, s1.heap.objs.size + 1], _, _, H1, rfl, I2, turnM (PySem.W.ktu_apart s1.heap.objs.size a b (Heap.lt_size hox) (Heap.lt_size hoy)), ⟨cz, ci, ⟨_, _, co⟩, j1, j2⟩, five (fr _ (Nat.le_add_right _ _)) (fr _ (Nat.le_add_right _ _)) (fr _ (Nat.le_add_right _ _)) (fr _ (Nat.le_refl _)) (fr _ (Nat.le_add_right _ _)), q⟩
theorem walk_zipM {K : PySem.W.Frag} {c1 c2 : Bool} {a b : Addr} {xs ys : List V} {n : Nat} (hn : n = min xs.length ys.length) : Walk (Itm K c1 c2 a b) n (fun H => SqB c1 K H a xs ∧ SqB c2 K H b ys) (YPair (fun i => xs[i]?) (fun i => ys[i]?)) := by
  subst hn
  refine ⟨fun i H hi q => ?_, fun _ q => ⟨xs, ys, q.1, q.2, by omega⟩, fun i H v H' _ q y => ?_⟩
  · have b1 : i < xs.length := by omega
    have b2 : i < ys.length := by omega
    exact ⟨xs, ys, xs[i], ys[i], q.1, q.2, List.getElem?_eq_getElem b1, List.getElem?_eq_getElem b2⟩
  · obtain ⟨T, x, z, f1, f2, f3, f4, f5⟩ := y
    exact ⟨T, x, z, f1, f2, f3, f4 xs q.1, f5 ys q.2⟩
end ZM

set_option linter.all false
set_option maxRecDepth 100000
set_option maxHeartbeats 4000000
/-! dicts written at the top; truths as numbers and as texts -/
namespace G
open PySem PySem.Spec PyProof.Rows L2
/-- a dict of the module: text keys, its values -/
def KTab (K : PySem.W.Frag) (w : World) (a : Addr) (kvs : List (Str × V)) : Prop :=
  ∃ es n, K.lookup a = some ⟨.type "dict", none, .dict es n, #[]⟩ ∧ PySem.W.KeysLit w.params es.toList ∧ (a == sysModules) = false ∧ Paired (fun (e : DictEntry) (kv : Str × V) => (∃ t, e.key = .str kv.1 t) ∧ RelV kv.2 e.val) es.toList kvs
def lookS {α : Type} (kvs : List (Str × α)) (z : Str) : Option α := (kvs.find? fun kv => decide (kv.1 = z)).map (·.2)
theorem tab_find {kvs : List (Str × V)} {es : List DictEntry} (h : Paired (fun (e : DictEntry) (kv : Str × V) => (∃ t, e.key = .str kv.1 t) ∧ RelV kv.2 e.val) es kvs) (z : Str) :
    (es.any (·.refKey) = false) ∧ ((lookS kvs z = none ∧ es.find? (·.key.isStr z) = none) ∨ ∃ v e, lookS kvs z = some v ∧ es.find? (·.key.isStr z) = some e ∧ RelV v e.val) := by
  induction h with
  | nil => exact ⟨rfl, .inl ⟨rfl, rfl⟩⟩
  | @cons e kv es kvs h t ih =>
    obtain ⟨⟨tk, hk⟩, hv⟩ := h
    obtain ⟨ih1, ih2⟩ := ih
    refine ⟨by rw [List.any_cons, ih1, Bool.or_false]; unfold DictEntry.refKey; rw [hk], ?_⟩
    by_cases hz : kv.1 = z
    · refine .inr ⟨kv.2, e, ?_, ?_, hv⟩
      · unfold lookS; rw [List.find?_cons_of_pos (by simpa using hz)]; rfl
      · rw [List.find?_cons_of_pos (by rw [hk]; subst hz; unfold Value.isStr; simp)]
    · have e1 : lookS (kv :: kvs) z = lookS kvs z := by unfold lookS; rw [List.find?_cons_of_neg (by simpa using hz)]
      have e2 : (e :: es).find? (·.key.isStr z) = es.find? (·.key.isStr z) := List.find?_cons_of_neg (by rw [hk]; unfold Value.isStr; simpa using hz)
      rw [e1, e2]; exact ih2
theorem tab_ns {K : PySem.W.Frag} {w : World} {a : Addr} {kvs : List (Str × V)} (h : KTab K w a kvs) (z : Str) :
    (lookS kvs z = none ∧ PySem.W.nsIn K a z = some none) ∨ ∃ v u, lookS kvs z = some v ∧ PySem.W.nsIn K a z = some (some u) ∧ RelV v u := by
  obtain ⟨es, n, hl, hk, hs, hp⟩ := h
  obtain ⟨h1, h2⟩ := tab_find hp z
  unfold PySem.W.nsIn
  rw [hl]
  rcases h2 with ⟨e1, e2⟩ | ⟨v, e, e1, e2, r⟩
  · refine .inl ⟨e1, ?_⟩
    simp only [e2, h1]
    rfl
  · refine .inr ⟨v, e.val, e1, ?_, r⟩
    simp only [e2]
def rInTab (K : PySem.W.Frag) (w : World) (neg : Bool) : R2 := fun x y H Q => ∃ p z kvs, x = .str z ∧ y = .ref p ∧ KTab K w p kvs ∧ Q (.bl (if neg then !(lookS kvs z).isSome else (lookS kvs z).isSome)) H
def rIxTab (K : PySem.W.Frag) (w : World) : R2 := fun x y H Q => ∃ p z kvs v, x = .ref p ∧ y = .str z ∧ KTab K w p kvs ∧ lookS kvs z = some v ∧ Q v H
section
variable {X : Cx}
theorem op_inTab (K : PySem.W.Frag) (w : World) (hK : X.K = K := by rfl) (hw : X.w = w := by rfl) : OpR X (compareOp .In) (rInTab K w false) := by
  subst hK; subst hw
  intro pins s σ H x y v u Q I rx ry ⟨p, z, kvs, ex, ey, ht, q⟩
  subst ex; subst ey
  obtain ⟨t, rfl⟩ := rx
  obtain rfl : u = Value.ref p := ry
  have hn := tab_ns ht z
  obtain ⟨es, n, hl, hk, hs, hp⟩ := ht
  have hm := PySem.W.mapOf_K (prog := X.prog) (w := X.w) I.kIn hl hk
  refine wpAny_in_of (strKind_is X.prog X.w z t) hs hm ?_
  rcases hn with ⟨e1, e2⟩ | ⟨v, u, e1, e2, r⟩
  · rw [PySem.W.find_K hl e2]
    rw [e1] at q
    exact ⟨.bl false, H, I.tok _, rfl, q⟩
  · rw [PySem.W.find_K hl e2]
    rw [e1] at q
    exact ⟨.bl true, H, I.tok _, rfl, q⟩
theorem op_niTab (K : PySem.W.Frag) (w : World) (hK : X.K = K := by rfl) (hw : X.w = w := by rfl) : OpR X (compareOp .NotIn) (rInTab K w true) := by
  subst hK; subst hw
  intro pins s σ H x y v u Q I rx ry ⟨p, z, kvs, ex, ey, ht, q⟩
  subst ex; subst ey
  obtain ⟨t, rfl⟩ := rx
  obtain rfl : u = Value.ref p := ry
  have hn := tab_ns ht z
  obtain ⟨es, n, hl, hk, hs, hp⟩ := ht
  have hm := PySem.W.mapOf_K (prog := X.prog) (w := X.w) I.kIn hl hk
  refine wpAny_notIn_of (strKind_is X.prog X.w z t) hs hm ?_
  rcases hn with ⟨e1, e2⟩ | ⟨v, u, e1, e2, r⟩
  · rw [PySem.W.find_K hl e2]
    rw [e1] at q
    exact ⟨.bl true, H, I.tok _, rfl, q⟩
  · rw [PySem.W.find_K hl e2]
    rw [e1] at q
    exact ⟨.bl false, H, I.tok _, rfl, q⟩
theorem ix_tab (K : PySem.W.Frag) (w : World) (hK : X.K = K := by rfl) (hw : X.w = w := by rfl) : IxR X (rIxTab K w) := by
  subst hK; subst hw
  intro value slice pins s σ H x y v u Q I rx ry ⟨p, z, kvs, r, ex, ey, ht, e, q⟩ hs
  have hn := tab_ns ht z
  obtain ⟨es, n, hl, hk, hs', hp⟩ := ht
  rcases hn with ⟨e1, e2⟩ | ⟨v', u', e1, e2, rv⟩
  · rw [e1] at e; cases e
  · rw [e1] at e
    cases e
    exact ix_kdict value slice pins s σ H x y v u Q I rx ry ⟨p, z, _, ex, ey, ⟨es, n, u', hl, hk, e2, rv⟩, q⟩ hs
end
section
variable {K : PySem.W.Frag} {w : World} {H : Hp} {Q : VK} {p : Addr} {z : Str} {kvs : List (Str × V)}
theorem x_inTab (h : KTab K w p kvs) (q : Q (.bl (lookS kvs z).isSome) H) : rInTab K w false (.str z) (.ref p) H Q := ⟨p, z, kvs, rfl, rfl, h, q⟩
theorem x_niTab (h : KTab K w p kvs) (q : Q (.bl (!(lookS kvs z).isSome)) H) : rInTab K w true (.str z) (.ref p) H Q := ⟨p, z, kvs, rfl, rfl, h, q⟩
theorem x_ixTab {v : V} (h : KTab K w p kvs) (e : lookS kvs z = some v) (q : Q v H) : rIxTab K w (.ref p) (.str z) H Q := ⟨p, z, kvs, v, rfl, rfl, h, e, q⟩
end
/-- a tuple of the module -/
def KTup (K : PySem.W.Frag) (a : Addr) (xs : List V) : Prop := ∃ (o : Obj) (its : Array Value) (n : Nat), K.lookup a = some o ∧ o.cls = .type "tuple" ∧ o.data = .seq its n ∧ its.size ≤ sizeLine ∧ Vals xs its.toList
theorem KTup.sq {K : PySem.W.Frag} {a : Addr} {xs : List V} (h : KTup K a xs) {H : Hp} : SqT K H a xs := .inr h
/-! truths as numbers, as texts -/
def b01 (b : Bool) : Int := if b = true then 1 else 0
def rNegN : V → Hp → VK → Prop := fun x H Q => (∃ i : Int, x = .int i ∧ Q (.int (-i)) H) ∨ ∃ b, x = .bl b ∧ Q (.int (-(b01 b))) H
def rSubN : R2 := fun x y H Q => ∃ j : Int, y = .int j ∧ ((∃ i : Int, x = .int i ∧ Q (.int (i - j)) H) ∨ ∃ b, x = .bl b ∧ Q (.int (b01 b - j)) H)
def rStrN : List V → Hp → VK → Prop := fun xs H Q => (∃ i : Int, xs = [.int i] ∧ i.natAbs.log2 < 1920 ∧ Q (.str (toString i)) H) ∨ ∃ b : Bool, xs = [.bl b] ∧ Q (.str (if b then "True" else "False")) H
def rReprB : List V → Hp → VK → Prop := fun xs H Q => ∃ b : Bool, xs = [.bl b] ∧ Q (.str (if b then "True" else "False")) H
theorem gives_neg_bool (b : Bool) : Gives (Builtin.«int.__neg__» ⟨[.bool b], []⟩) (.int (-(b01 b))) := by
  cases b <;> exact .of_eq rfl
section
variable {X : Cx}
theorem un_negN : UnR X (unaryOp .USub) rNegN := by
  intro pins s σ H x v Q I rx h
  rcases h with ⟨i, ex, q⟩ | ⟨b, ex, q⟩
  · subst ex
    obtain ⟨t, rfl⟩ := rx
    exact neg_int ⟨.int (-i), H, I.tok _, ⟨_, rfl⟩, q⟩
  · subst ex
    obtain rfl : v = Value.bool b := rx
    exact unaryOp_gives (op := .USub) (PySem.typeIs_bool s b) rfl F.slot_bool_neg F.entry_int_neg (F.args_int_neg_1 _) (gives_neg_bool b) ⟨.int (-(b01 b)), H, I.tok _, ⟨_, rfl⟩, q⟩
theorem op_subN : OpR X (binaryOp .Sub) rSubN := by
  intro pins s σ H x y v u Q I rx ry ⟨j, ey, h⟩
  subst ey
  obtain ⟨t', rfl⟩ := ry
  rcases h with ⟨i, ex, q⟩ | ⟨b, ex, q⟩
  · subst ex
    obtain ⟨t, rfl⟩ := rx
    exact sub_int ⟨.int (i - j), H, I.tok _, ⟨_, rfl⟩, q⟩
  · subst ex
    obtain rfl : v = Value.bool b := rx
    exact PySem.IntBool.sub_bool_int ⟨.int (b01 b - j), H, I.tok _, ⟨_, rfl⟩, q⟩
theorem cl_strN : CallR X (.type "str") rStrN := by
  intro pins s σ H xs us Q I r h
  rcases h with ⟨i, ex, hz, q⟩ | ⟨b, ex, q⟩
  · exact call_str_int pins s σ H xs us Q I r ⟨i, ex, hz, q⟩
  · subst ex
    obtain ⟨u, rfl, rx⟩ := vals1 r
    obtain rfl : u = Value.bool b := rx
    exact PySem.P.str_of_bool ⟨.str _, H, I.tok _, ⟨_, rfl⟩, q⟩
theorem cl_reprB : CallR X (.builtin "repr") rReprB := by
  intro pins s σ H xs us Q I r ⟨b, ex, q⟩
  subst ex
  obtain ⟨u, rfl, rx⟩ := vals1 r
  obtain rfl : u = Value.bool b := rx
  exact PySem.P.repr_of_bool ⟨.str _, H, I.tok _, ⟨_, rfl⟩, q⟩
end
theorem x_negI {H : Hp} {Q : VK} {i : Int} (q : Q (.int (-i)) H) : rNegN (.int i) H Q := .inl ⟨i, rfl, q⟩
theorem x_negB {H : Hp} {Q : VK} {b : Bool} (q : Q (.int (-(b01 b))) H) : rNegN (.bl b) H Q := .inr ⟨b, rfl, q⟩
theorem x_subI {H : Hp} {Q : VK} {i j : Int} (q : Q (.int (i - j)) H) : rSubN (.int i) (.int j) H Q := ⟨j, rfl, .inl ⟨i, rfl, q⟩⟩
theorem x_subB {H : Hp} {Q : VK} {b : Bool} {j : Int} (q : Q (.int (b01 b - j)) H) : rSubN (.bl b) (.int j) H Q := ⟨j, rfl, .inr ⟨b, rfl, q⟩⟩
theorem x_strNI {H : Hp} {Q : VK} {i : Int} (h : i.natAbs < 10 ^ 500) (q : Q (.str (Str.ofString (toString i))) H) : rStrN [.int i] H Q := .inl ⟨i, rfl, log_big h, q⟩
theorem x_strNB {H : Hp} {Q : VK} {b : Bool} (q : ∀ s : Str, s.length ≤ 5 → Q (.str s) H) : rStrN [.bl b] H Q := .inr ⟨b, rfl, q _ (by cases b <;> exact Nat.le_of_ble_eq_true rfl)⟩
theorem x_reprB {H : Hp} {Q : VK} {b : Bool} (q : Q (.str (if b then "True" else "False")) H) : rReprB [.bl b] H Q := ⟨b, rfl, q⟩
theorem b01_le (b : Bool) : 0 ≤ b01 b ∧ b01 b ≤ 1 := by cases b <;> decide
end G

set_option linter.all false
set_option maxRecDepth 100000
set_option maxHeartbeats 4000000
/-! what a frame is, as functions of data -/
namespace G
open PySem PySem.Spec PyProof.Rows L2
def sortsT : List (Str × List Str) := [("clock", ["any"]), ("past", ["one", "one"]), ("ask", ["one", "one", "one", "name", "any", "any"]), ("stop", ["one", "one", "one"]), ("told", ["one", "one", "word", "any", "nought"]), ("piece", ["one", "one", "way", "nought", "any"]), ("shut", ["one", "one", "nought"]), ("room", ["one", "one", "way", "nought", "nought"])]
def sortsOf (k : Str) : Option (List Str) := lookS sortsT k
def wayL : List Str := ["in", "out"]
def wordL : List Str := ["done", "never", "stopped", "late"]
def sortL : List Str := ["name", "way", "word", "any", "one", "nought"]
theorem sorts_in {k : Str} {ss : List Str} (h : sortsOf k = some ss) : ∀ s ∈ ss, s ∈ sortL := by
  unfold sortsOf lookS at h
  obtain ⟨kv, hk, rfl⟩ := Option.map_eq_some_iff.mp h
  have hm := List.mem_of_find?_eq_some hk
  have all : ∀ kv ∈ sortsT, ∀ s ∈ kv.2, s ∈ sortL := by decide +kernel
  exact all kv hm
def isIn (ss : List Str) : PyData → Bool
  | .str s => decide (s ∈ ss)
  | _ => false
def isLeast (any : Bool) (n : Int) : PyData → Bool
  | .int i => any || decide (n ≤ i)
  | _ => false
def isPart (s : Str) (d : PyData) : Bool :=
  if s = "name" then isName d
  else if s = "way" then isIn wayL d
  else if s = "word" then isIn wordL d
  else isLeast (decide (s = "any")) (if s = "one" then 1 else 0) d
def sameS : PyData → PyData → Bool
  | .str x, .str y => decide (x = y)
  | _, _ => false
def isFrame3 (k : Str) (a b : PyData) (r : List PyData) : Bool :=
  match sortsOf k with
  | none => false
  | some ss => isName a && (isName b && (!(sameS a b) && (decide (r.length = ss.length) && (ss.zip r).all fun p => isPart p.1 p.2)))
def isFrame : PyData → Bool
  | .tuple (.str k :: a :: b :: r) => isFrame3 k a b r
  | _ => false
theorem isFrame_k (k : Str) (a b : PyData) (r : List PyData) : isFrame (.tuple (.str k :: a :: b :: r)) = isFrame3 k a b r := rfl
theorem frame_noT {d : PyData} (h : isTupD d = false) : isFrame d = false := by cases d <;> first | rfl | cases h
theorem frame_lt {ds : List PyData} {xs : List V} (e : xs.length = ds.length) (h : (xs.length : Int) < 3) : isFrame (.tuple ds) = false := by
  rcases ds with _ | ⟨a, _ | ⟨b, _ | ⟨c, r⟩⟩⟩
  · rfl
  · cases a <;> rfl
  · cases a <;> rfl
  · simp only [List.length_cons] at e; omega
theorem frame_noS {a b c : PyData} {r : List PyData} (h : isStrD a = false) : isFrame (.tuple (a :: b :: c :: r)) = false := by cases a <;> first | rfl | cases h
theorem fr_none {k : Str} {a b : PyData} {r : List PyData} (h : sortsOf k = none) : isFrame (.tuple (.str k :: a :: b :: r)) = false := by rw [isFrame_k]; unfold isFrame3; rw [h]
theorem fr_some {k : Str} {a b : PyData} {r : List PyData} {ss : List Str} (h : sortsOf k = some ss) : isFrame (.tuple (.str k :: a :: b :: r)) = (isName a && (isName b && (!(sameS a b) && (decide (r.length = ss.length) && (ss.zip r).all fun p => isPart p.1 p.2)))) := by rw [isFrame_k]; unfold isFrame3; rw [h]
theorem fr_a {k : Str} {a b : PyData} {r : List PyData} {ss : List Str} (h : sortsOf k = some ss) (h1 : isName a = false) : isFrame (.tuple (.str k :: a :: b :: r)) = false := by rw [fr_some h, h1]; rfl
theorem fr_b {k : Str} {a b : PyData} {r : List PyData} {ss : List Str} (h : sortsOf k = some ss) (h1 : isName b = false) : isFrame (.tuple (.str k :: a :: b :: r)) = false := by rw [fr_some h, h1, Bool.false_and, Bool.and_false]
theorem fr_ab {k x y : Str} {r : List PyData} {ss : List Str} (h : sortsOf k = some ss) (h1 : V.str x = V.str y) : isFrame (.tuple (.str k :: .str x :: .str y :: r)) = false := by
  rw [fr_some h, show sameS (.str x) (.str y) = true from decide_eq_true (V.str.inj h1), Bool.not_true, Bool.false_and, Bool.and_false, Bool.and_false]
theorem fr_len {k : Str} {a b : PyData} {r : List PyData} {ss : List Str} (h : sortsOf k = some ss) (h1 : r.length ≠ ss.length) : isFrame (.tuple (.str k :: a :: b :: r)) = false := by
  rw [fr_some h, decide_eq_false h1, Bool.false_and, Bool.and_false, Bool.and_false, Bool.and_false]
theorem fr_all {k x y : Str} {r : List PyData} {ss : List Str} (h : sortsOf k = some ss) (h1 : isName (.str x) = true) (h2 : isName (.str y) = true) (h3 : ¬ V.str x = V.str y) (h4 : r.length = ss.length) : isFrame (.tuple (.str k :: .str x :: .str y :: r)) = ((ss.zip r).map fun p => isPart p.1 p.2).all id := by
  rw [fr_some h, h1, h2, show sameS (.str x) (.str y) = false from decide_eq_false fun e => h3 (by rw [e]), decide_eq_true h4, all_map]
  rfl
theorem name_str {d : PyData} (h : isName d = true) : ∃ s, d = .str s := by cases d <;> first | exact ⟨_, rfl⟩ | cases h
theorem DH.name {H : Hp} {v : V} {d : PyData} (h : DH H v d) (c : isName d = true) : ∃ s, v = .str s ∧ d = .str s ∧ s.length ≤ 100000 := by
  obtain ⟨s, rfl⟩ := name_str c
  exact ⟨s, h.str1.1, rfl, h.str1.2⟩
def spPart : Sp := fun vs H Q _ => ∃ v d s, vs = [v, .str s] ∧ DH H v d ∧ s ∈ sortL ∧ ∀ b H', isPart s d = b → Le H H' → Q (.bl b) H'
theorem c_part {H0 H : Hp} {ft : List Addr} {l : List Cell} {v : V} {d : PyData} {s : Str} {Q : VK} {E : XK} (S : Sep H0 ft H l) (h : DH H v d) (hs : s ∈ sortL) (k : ∀ H', Sep H0 ft H' l → Q (.bl (isPart s d)) H') : spPart [v, .str s] H Q E :=
  ⟨v, d, s, rfl, h, hs, fun b H' e F => by subst e; exact k H' (S.stay F)⟩
theorem part_name {s : Str} {d : PyData} (h : s = "name") : isPart s d = isName d := by unfold isPart; rw [if_pos h]
theorem part_way {s : Str} {d : PyData} (h0 : ¬ s = "name") (h : s = "way") : isPart s d = isIn wayL d := by unfold isPart; rw [if_neg h0, if_pos h]
theorem part_word {s : Str} {d : PyData} (h0 : ¬ s = "name") (h1 : ¬ s = "way") (h : s = "word") : isPart s d = isIn wordL d := by unfold isPart; rw [if_neg h0, if_neg h1, if_pos h]
theorem part_num {s : Str} {d : PyData} (h0 : ¬ s = "name") (h1 : ¬ s = "way") (h : ¬ s = "word") : isPart s d = isLeast (decide (s = "any")) (if s = "one" then 1 else 0) d := by unfold isPart; rw [if_neg h0, if_neg h1, if_neg h]
theorem in_noS {ss : List Str} {d : PyData} (h : isStrD d = false) : isIn ss d = false := by cases d <;> first | rfl | cases h
theorem least_noI {a : Bool} {n : Int} {d : PyData} (h : isIntD d = false) : isLeast a n d = false := by cases d <;> first | rfl | cases h
theorem zip_get {α β : Type} {xs : List α} {ys : List β} {j : Nat} {x : α} {y : β} (h1 : xs[j]? = some x) (h2 : ys[j]? = some y) : (xs.zip ys)[j]? = some (x, y) := by
  rw [List.getElem?_zip_eq_some]
  exact ⟨h1, h2⟩
theorem zip_all {α β : Type} {xs : List α} {ys : List β} {n : Nat} (h : min xs.length ys.length ≤ n) : (xs.zip ys).take n = xs.zip ys := List.take_of_length_le (by rw [List.length_zip]; exact h)
theorem inV_false : ∀ bs : List Bool, (!inV (.bl false) (bs.map V.bl)) = bs.all id
  | [] => rfl
  | b :: bs => by
    have ih := inV_false bs
    unfold inV at ih ⊢
    rw [List.map_cons, List.any_cons, List.all_cons, Bool.not_or, ih]
    cases b <;> rfl
/-- the program's table of parts -/
def KParts (K : PySem.W.Frag) (w : World) (PA : Addr) : Prop := ∃ kvs : List (Str × V), KTab K w PA kvs ∧ Paired (fun (kv : Str × V) (ks : Str × List Str) => kv.1 = ks.1 ∧ ∃ a, kv.2 = .ref a ∧ KTup K a (ks.2.map V.str)) kvs sortsT
theorem look_pair {K : PySem.W.Frag} {kvs : List (Str × V)} {t : List (Str × List Str)} (h : Paired (fun (kv : Str × V) (ks : Str × List Str) => kv.1 = ks.1 ∧ ∃ a, kv.2 = .ref a ∧ KTup K a (ks.2.map V.str)) kvs t) (k : Str) :
    (lookS kvs k = none ∧ lookS t k = none) ∨ ∃ a ss, lookS kvs k = some (.ref a) ∧ lookS t k = some ss ∧ KTup K a (ss.map V.str) := by
  induction h with
  | nil => exact .inl ⟨rfl, rfl⟩
  | @cons kv ks kvs t h r ih =>
    obtain ⟨e1, a, e2, ht⟩ := h
    by_cases hz : kv.1 = k
    · refine .inr ⟨a, ks.2, ?_, ?_, ht⟩
      · unfold lookS; rw [List.find?_cons_of_pos (by simpa using hz), ← e2]; rfl
      · unfold lookS; rw [List.find?_cons_of_pos (by rw [← e1]; simpa using hz)]; rfl
    · have a1 : lookS (kv :: kvs) k = lookS kvs k := by unfold lookS; rw [List.find?_cons_of_neg (by simpa using hz)]
      have a2 : lookS (ks :: t) k = lookS t k := by unfold lookS; rw [List.find?_cons_of_neg (by rw [← e1]; simpa using hz)]
      rw [a1, a2]; exact ih
theorem x_slN {H0 H : Hp} {ft : List Addr} {l : List Cell} {K : PySem.W.Frag} {Q : VK} {p : Addr} {a b c : V} {xs : List V} (S : Sep H0 ft H l) (h : SqT K H p (a :: b :: c :: xs)) (q : ∀ r H', Sep H0 ft H' ((2, r, .tup xs) :: l) → Q (.ref r) H') : rSlA K (.ref p) (some 3) none H Q := by
  refine ⟨p, _, rfl, h, fun hw => ?_, fun _ r hr => ?_⟩
  · have h1 := hw.1
    have e : HT.sIx (a :: b :: c :: xs).length 0 (some 3) = min 3 (a :: b :: c :: xs).length := HT.sIx_nat _ _ 3
    rw [e] at h1
    simp only [List.length_cons] at h1
    omega
  · have e : cutV (a :: b :: c :: xs) (some 3) none = xs := cutV_from (by decide)
    rw [e]
    exact q r _ (S.new hr _)
theorem sorts_len {k : Str} {ss : List Str} (h : sortsOf k = some ss) : ss.length ≤ 6 := by
  unfold sortsOf lookS at h
  obtain ⟨kv, hk, rfl⟩ := Option.map_eq_some_iff.mp h
  have hm := List.mem_of_find?_eq_some hk
  have all : ∀ kv ∈ sortsT, kv.2.length ≤ 6 := by decide +kernel
  exact all kv hm
/-! "a" * n -/
def rMulS1 : R2 := fun x y H Q => ∃ (z : Str) (n : Int), x = .str z ∧ y = .int n ∧ z.length = 1 ∧ n ≤ 9 ∧ -200000 ≤ n ∧ ∀ r : Str, r.length ≤ 9 → Q (.str r) H
theorem fold_size : ∀ (l : List (Array Nat)) (a : Array Nat), (l.foldl (· ++ ·) a).size = a.size + (l.map (·.size)).sum
  | [], a => by simp
  | x :: l, a => by rw [List.foldl_cons, fold_size l, Array.size_append, List.map_cons, List.sum_cons]; omega
theorem op_mulS1 {X : Cx} : OpR X (binaryOp .Mult) rMulS1 := by
  intro pins s σ H x y v u Q I rx ry ⟨z, n, ex, ey, hz, h9, h0, q⟩
  subst ex; subst ey
  obtain ⟨t, rfl⟩ := rx
  obtain ⟨t', rfl⟩ := ry
  refine PySem.P.mul_str ?_ (fun h1 _ => ?_) (fun h1 _ => ?_) ?_
  · rw [decide_eq_false (show ¬ n < -(2 ^ 63 : Int) by omega), decide_eq_false (show ¬ n ≥ 2 ^ 63 by omega)]; rfl
  · rw [hz]
    have : (1 : Int) ≤ (2 ^ 63 - 1) / n := by
      rw [Int.le_ediv_iff_mul_le (by omega)]; omega
    omega
  · rw [hz]
    have e : 1 * n.toNat = n.toNat := Nat.one_mul _
    rw [e]
    have : n.toNat ≤ 9 := by omega
    have all : ∀ k : Fin 10, Builtin.Str.tooLong k.1 = false := by decide +kernel
    exact all ⟨n.toNat, by omega⟩
  · by_cases h1 : n < 1
    · rw [if_pos h1]
      exact ⟨by decide, .str _, H, I.tok _, ⟨_, rfl⟩, q _ (by decide)⟩
    · rw [if_neg h1]
      by_cases h2 : (n == 1 || z.length == 0) = true
      · rw [if_pos h2]
        exact ⟨.str z, H, I, ⟨_, rfl⟩, q z (by omega)⟩
      · rw [if_neg h2]
        have hs : (⟨(List.replicate n.toNat z.cps).foldl (· ++ ·) #[]⟩ : Str).length ≤ 9 := by
          show ((List.replicate n.toNat z.cps).foldl (· ++ ·) #[]).size ≤ 9
          rw [fold_size, List.map_replicate, List.sum_replicate_nat]
          show 0 + n.toNat * z.length ≤ 9
          rw [hz]; omega
        exact ⟨Nat.le_trans hs (by decide), .str _, H, I.tok _, ⟨_, rfl⟩, q _ hs⟩
end G

set_option linter.all false
set_option maxRecDepth 100000
set_option maxHeartbeats 4000000
namespace G
open PySem PySem.Spec PyProof.Rows L2
def topS (i : Nat) : Stmt := PySem.Challenge.pw_farasked_k01_frames_known.main.body.getD i (.Pass ⟨0, 0, 0, 0⟩)
section
variable {P : Program} {w : World} {K : PySem.W.Frag} {mg : Str → Option Value} {base : Heap}
abbrev s_is_name : Stmt := (topS 6)
theorem sc_is_name : FnScope ["thing", "sign"] ["thing"] (defScope s_is_name) := ⟨rfl, rfl, rfl, by decide +kernel, rfl, by decide +kernel, by decide +kernel⟩
theorem ok_is_name {f : Addr} {fd : FuncData} (F : L2.Fun K "is_name" "is_name" s_is_name f fd) (z_isinstance : mg "isinstance" = none) (z_str : mg "str" = none) (z_len : mg "len" = none) (z_all : mg "all" = none) {tkLETTERS : Tok} (g_LETTERS : mg "LETTERS" = some (.str abcS tkLETTERS)) {tkMOST_LETTERS : Tok} (g_MOST_LETTERS : mg "MOST_LETTERS" = some (.int 8 tkMOST_LETTERS)) : FnOk P w K mg base CX0 1 f fd ["thing"] (spPure isName) := by
  refine F.ok sc_is_name (fun vs H Q E h => ?_) (fun cdv A outer s H0 vs Q E hr h => ?_)
  · obtain ⟨v, d, rfl, h, k⟩ := h
    rfl
  · obtain ⟨v, d, rfl, h, k⟩ := h
    have hu := hu_of hr
    have S := Sep.of0 (H := H0)
    refine ⟨_, pss_cons (ps_if ((pw_or (pt_not (pt_val (pe_callB (cl_isiK K) (by rfl) z_isinstance (by decide +kernel) (pa_cons (pv 0) (pa_cons (pe_bltn (v := .ty "str") (by rfl) z_str (by decide +kernel) rfl) pa_nil))))) (pw_or1 (pt_not (pt_chain op_le op_le (pe_int) (pe_callB (cl_lenX K) (by rfl) z_len PySem.boot_len (pa_cons (pv 0) pa_nil)) (pe_glob (v := .int 8) (by rfl) g_MOST_LETTERS ⟨_, rfl⟩))))).pt) (pss_one (ps_ret (pe_bl))) (pss_nil))
      (pss_one (ps_ret (pe_callB (cl_allK K rfl) (by rfl) z_all (by decide +kernel) (pa_cons (pe_lc (own := [("sign", 1)]) (g := gName 1) rfl sc_is_name.nd (pi_str1 (pv 0)) (blkOk_by (N := ["thing", "sign"]) (sc := defScope s_is_name) (by decide +kernel)) (fun _ _ _ _ _ => pg_name (i := 1) sc_is_name.nd rfl (.inl rfl)) (fun _ _ _ _ _ => pts_nil) (fun _ _ _ _ _ => pe_cmpR op_inS (pv 1) (pe_glob (v := .str abcS) (by rfl) g_LETTERS ⟨_, rfl⟩) rfl)) pa_nil)))), ?_⟩
    rw [show start ["thing", "sign"] [v] = [some (v), none] from rfl]
    try dsimp only [tMethS1, tMethKS1, WE, tSeq, tAsg, gName, tOp, tUn, tCB, tCons, tNil, tCall, tMethK1, tCallK1, tPar3, tRet, tRetN, tDrop, tTest, tB, tC, tNext, tAugS, tAug, sFld1, sFldAug1, tMeth1, tMake, tMakeK1, tSl, tPart, tNoPart, sDPut1, tDPop, tBM, tBM0, tPar, gSub, tChain, tNot, tNotV, tDG1, tDG2, tDNewT1, iKeys1, iEnum1, iList1, iTup1, iRng1, iRng2, List.set_cons_zero, List.set_cons_succ]
    refine x_if ?_
    try dsimp only [tMethS1, tMethKS1, WE, tSeq, tAsg, gName, tOp, tUn, tCB, tCons, tNil, tCall, tMethK1, tCallK1, tPar3, tRet, tRetN, tDrop, tTest, tB, tC, tNext, tAugS, tAug, sFld1, sFldAug1, tMeth1, tMake, tMakeK1, tSl, tPart, tNoPart, sDPut1, tDPop, tBM, tBM0, tPar, gSub, tChain, tNot, tNotV, tDG1, tDG2, tDNewT1, iKeys1, iEnum1, iList1, iTup1, iRng1, iRng2, List.set_cons_zero, List.set_cons_succ]
    refine x_or ?_
    try dsimp only [tMethS1, tMethKS1, WE, tSeq, tAsg, gName, tOp, tUn, tCB, tCons, tNil, tCall, tMethK1, tCallK1, tPar3, tRet, tRetN, tDrop, tTest, tB, tC, tNext, tAugS, tAug, sFld1, sFldAug1, tMeth1, tMake, tMakeK1, tSl, tPart, tNoPart, sDPut1, tDPop, tBM, tBM0, tPar, gSub, tChain, tNot, tNotV, tDG1, tDG2, tDNewT1, iKeys1, iEnum1, iList1, iTup1, iRng1, iRng2, List.set_cons_zero, List.set_cons_succ]
    refine x_var (by exact rfl) ?_
    refine (h.mono S.out0).isStr ?_
    refine ⟨_, rfl, ?_⟩
    refine itnb (fun c1 => ?_) (fun c1 => ?_)
    · refine iteT ?_
      try dsimp only [tMethS1, tMethKS1, WE, tSeq, tAsg, gName, tOp, tUn, tCB, tCons, tNil, tCall, tMethK1, tCallK1, tPar3, tRet, tRetN, tDrop, tTest, tB, tC, tNext, tAugS, tAug, sFld1, sFldAug1, tMeth1, tMake, tMakeK1, tSl, tPart, tNoPart, sDPut1, tDPop, tBM, tBM0, tPar, gSub, tChain, tNot, tNotV, tDG1, tDG2, tDNewT1, iKeys1, iEnum1, iList1, iTup1, iRng1, iRng2, List.set_cons_zero, List.set_cons_succ]
      exact k _ _ (by first | exact strN (by assumption) | exact name_lo (by omega) | exact name_hi (by omega) | exact name_in (by omega) (by omega) | exact name_in2 (by omega) (by omega) hyn) S.out0
    · obtain ⟨s1, rfl, rfl, hls1⟩ := h.str_of c1
      refine x_var (by exact rfl) ?_
      refine x_lenXs hls1 ?_
      refine x_I0 ?_
      refine ⟨_, rfl, ?_⟩
      refine ited (fun c2 => ?_) (fun c2 => ?_)
      · refine x_I0 ?_
        refine ⟨_, rfl, ?_⟩
        refine itend (fun c3 => ?_) (fun c3 => ?_)
        · try dsimp only [tMethS1, tMethKS1, WE, tSeq, tAsg, gName, tOp, tUn, tCB, tCons, tNil, tCall, tMethK1, tCallK1, tPar3, tRet, tRetN, tDrop, tTest, tB, tC, tNext, tAugS, tAug, sFld1, sFldAug1, tMeth1, tMake, tMakeK1, tSl, tPart, tNoPart, sDPut1, tDPop, tBM, tBM0, tPar, gSub, tChain, tNot, tNotV, tDG1, tDG2, tDNewT1, iKeys1, iEnum1, iList1, iTup1, iRng1, iRng2, List.set_cons_zero, List.set_cons_succ]
          exact k _ _ (by first | exact strN (by assumption) | exact name_lo (by omega) | exact name_hi (by omega) | exact name_in (by omega) (by omega) | exact name_in2 (by omega) (by omega) hyn) S.out0
        · try dsimp only [tMethS1, tMethKS1, WE, tSeq, tAsg, gName, tOp, tUn, tCB, tCons, tNil, tCall, tMethK1, tCallK1, tPar3, tRet, tRetN, tDrop, tTest, tB, tC, tNext, tAugS, tAug, sFld1, sFldAug1, tMeth1, tMake, tMakeK1, tSl, tPart, tNoPart, sDPut1, tDPop, tBM, tBM0, tPar, gSub, tChain, tNot, tNotV, tDG1, tDG2, tDNewT1, iKeys1, iEnum1, iList1, iTup1, iRng1, iRng2, List.set_cons_zero, List.set_cons_succ]
          refine x_lc ?_
          try dsimp only [tMethS1, tMethKS1, tOp, tUn, tCB, tCons, tNil, tCall, tMethK1, tCallK1, tC, tMeth1, tMake, tMakeK1, tSl, tPart, tNoPart, tDPop, tChain, tNotV, tBM, tBM0, tDG1, tDG2, tDNewT1, iKeys1, iEnum1, iList1, iTup1, iRng1, iRng2]
          refine x_var (by exact rfl) ?_
          refine x_istr ?_
          refine lcW (walk_str (z := s1)) S (fun al1 H S => ⟨fun j H1 => Sep H0 [] H1 [(2, al1, .lst (((s1.cps.toList.take j).map (fun c => decide (c ∈ abcL))).map V.bl))], ?_, ?_, ?_, ?_⟩)
          · exact S.sub [0]
          · rintro j H hi S
            trivial
          · rintro j y H H9 hi S hy
            obtain ⟨rfl, c, hc, rfl⟩ := hy
            have hz : s1.cps.toList[j]? = some c := by rw [Array.getElem?_toList]; exact hc
            have hlj : s1.cps.size ≤ 100000 := hls1
            refine ⟨rfl, ?_⟩
            try dsimp only [tMethS1, tMethKS1, WE, wipe, tYes, tSeq, tAsg, gName, tOp, tUn, tCB, tCons, tNil, tCall, tMethK1, tCallK1, tPar3, tRet, tRetN, tDrop, tTest, tB, tC, tNext, tAugS, tAug, sFld1, sFldAug1, tMeth1, tMake, tMakeK1, tSl, tPart, tNoPart, sDPut1, tDPop, tBM, tBM0, tPar, gSub, tChain, tNot, tNotV, tDG1, tDG2, tDNewT1, iKeys1, iEnum1, iList1, iTup1, iRng1, iRng2, List.set_cons_zero, List.set_cons_succ]
            refine iteT ?_
            refine x_var (by exact rfl) ?_
            refine x_inAbc ?_
            have S := S.sub [0]
            refine x_lcappB S 0 (by exact rfl) (by rw [List.length_map, List.length_take]; omega) (fun H S => ?_)
            rw [all_take (p := (fun c => decide (c ∈ abcL))) hz] at S
            exact S
          · rintro H S
            rw [show s1.cps.toList.take s1.cps.size = s1.cps.toList from by rw [← Array.length_toList, List.take_length]] at S
            refine x_all S 0 (by exact rfl) ?_
            exact k _ _ (by first | exact strN (by assumption) | exact name_lo (by omega) | exact name_hi (by omega) | exact name_in (by omega) (by omega) | exact name_in2 (by omega) (by omega) hyn) S.out0
      · refine ⟨_, rfl, ?_⟩
        refine iteT ?_
        try dsimp only [tMethS1, tMethKS1, WE, tSeq, tAsg, gName, tOp, tUn, tCB, tCons, tNil, tCall, tMethK1, tCallK1, tPar3, tRet, tRetN, tDrop, tTest, tB, tC, tNext, tAugS, tAug, sFld1, sFldAug1, tMeth1, tMake, tMakeK1, tSl, tPart, tNoPart, sDPut1, tDPop, tBM, tBM0, tPar, gSub, tChain, tNot, tNotV, tDG1, tDG2, tDNewT1, iKeys1, iEnum1, iList1, iTup1, iRng1, iRng2, List.set_cons_zero, List.set_cons_succ]
        exact k _ _ (by first | exact strN (by assumption) | exact name_lo (by omega) | exact name_hi (by omega) | exact name_in (by omega) (by omega) | exact name_in2 (by omega) (by omega) hyn) S.out0
end
theorem x_inKT {K : PySem.W.Frag} {H : Hp} {a : Addr} {s : Str} {ss : List Str} {Q : VK} (h : KTup K a (ss.map V.str)) (q : Q (.bl (decide (s ∈ ss))) H) : rIn K false (.str s) (.ref a) H Q :=
  ⟨a, _, rfl, .inr h.sq, rfl, flat_strs ss, by rw [inV_str]; exact q⟩
theorem least_any {s : Str} {n i : Int} (h : s = "any") : isLeast (decide (s = "any")) n (.int i) = true := by show (decide _ || decide _) = true; rw [decide_eq_true h]; rfl
theorem least_one {s : Str} {i : Int} (h : ¬ s = "any") : isLeast (decide (s = "any")) (if s = "one" then 1 else 0) (.int i) = decide ((if decide (V.str s = V.str "one") = true then (1 : Int) else 0) ≤ i) := by
  show (decide _ || decide _) = _
  rw [decide_eq_false h, Bool.false_or]
  by_cases e : s = "one"
  · rw [if_pos e, if_pos (by rw [e]; exact decide_eq_true rfl)]
  · rw [if_neg e, if_neg (by rw [decide_eq_false fun z => e (V.str.inj z)]; exact Bool.false_ne_true)]
theorem part_one {i : Int} : isPart "one" (.int i) = decide (1 ≤ i) := by
  rw [part_num (by decide) (by decide) (by decide)]
  show (decide ("one" = ("any" : Str)) || decide ((if ("one" : Str) = "one" then (1 : Int) else 0) ≤ i)) = _
  rw [decide_eq_false (by decide), Bool.false_or, if_pos rfl]
theorem part_nought {i : Int} : isPart "nought" (.int i) = decide (0 ≤ i) := by
  rw [part_num (by decide) (by decide) (by decide)]
  show (decide ("nought" = ("any" : Str)) || decide ((if ("nought" : Str) = "one" then (1 : Int) else 0) ≤ i)) = _
  rw [decide_eq_false (by decide), Bool.false_or, if_neg (by decide)]
theorem not_two {s a b : Str} (h : ¬ s ∈ [a, b]) : (¬ V.str s = V.str a) ∧ ¬ V.str s = V.str b :=
  ⟨fun e => h (by rw [V.str.inj e]; exact List.mem_cons_self), fun e => h (by rw [V.str.inj e]; exact List.mem_cons_of_mem _ List.mem_cons_self)⟩
theorem two_of {s a b : Str} (h : s ∈ [a, b]) : V.str s = V.str a ∨ V.str s = V.str b := by
  rcases List.mem_cons.mp h with e | e
  · exact .inl (by rw [e])
  · exact .inr (by rw [List.mem_singleton.mp e])
theorem sort_two {s : Str} (h : s ∈ sortL) (h1 : ¬ V.str s = V.str "name") (h2 : ¬ s ∈ (["way", "word"] : List Str)) (h3 : ¬ V.str s = V.str "any") (h4 : True) (h5 : True) : s = "one" ∨ s = "nought" := by
  unfold sortL at h
  simp only [List.mem_cons, List.not_mem_nil, or_false] at h h2
  rcases h with e | e | e | e | e | e
  · exact absurd (by rw [e]) h1
  · exact absurd (.inl e) h2
  · exact absurd (.inr e) h2
  · exact absurd (by rw [e]) h3
  · exact .inl e
  · exact .inr e
section
variable {P : Program} {w : World} {K : PySem.W.Frag} {mg : Str → Option Value} {base : Heap}
abbrev s_is_part : Stmt := (topS 7)
theorem sc_is_part : FnScope ["thing", "sort"] ["thing", "sort"] (defScope s_is_part) := ⟨rfl, rfl, rfl, by decide +kernel, rfl, by decide +kernel, by decide +kernel⟩
theorem ok_is_part {f : Addr} {fd : FuncData} (F : L2.Fun K "is_part" "is_part" s_is_part f fd) (z_isinstance : mg "isinstance" = none) (z_str : mg "str" = none) (z_int : mg "int" = none) (z_bool : mg "bool" = none) (cname : Cal P w K mg base CX0 1 "is_name" (spPure isName)) {aW : Addr} (g_WAYS : mg "WAYS" = some (.ref aW)) (hW : KTup K aW (wayL.map V.str)) {aO : Addr} (g_WORDS : mg "WORDS" = some (.ref aO)) (hO : KTup K aO (wordL.map V.str)) : FnOk P w K mg base CX0 2 f fd ["thing", "sort"] spPart := by
  refine F.ok sc_is_part (fun vs H Q E h => ?_) (fun cdv A outer s H0 vs Q E hr h => ?_)
  · obtain ⟨v, d, s, rfl, h, hs, k⟩ := h
    rfl
  · obtain ⟨v, d, s, rfl, h, hs, k⟩ := h
    have hu := hu_of hr
    have S := Sep.of0 (H := H0)
    refine ⟨_, pss_cons (ps_if (pt_cmpR op_eq (pv 1) (pe_str) (nomark _)) (pss_one (ps_ret (pe_c cname hr (by decide) (by rfl) pass0 (pa_cons (pv 0) pa_nil)))) (pss_nil))
      (pss_cons (ps_if (pt_cmpR op_eq (pv 1) (pe_str) (nomark _)) (pss_one (ps_ret (pe_and (pe_callB (cl_isiK K) (by rfl) z_isinstance (by decide +kernel) (pa_cons (pv 0) (pa_cons (pe_bltn (v := .ty "str") (by rfl) z_str (by decide +kernel) rfl) pa_nil))) (pe_one (pe_cmpR (op_inK K) (pv 0) (pe_glob (v := .ref aW) (by rfl) g_WAYS rfl) rfl))))) (pss_nil))
      (pss_cons (ps_if (pt_cmpR op_eq (pv 1) (pe_str) (nomark _)) (pss_one (ps_ret (pe_and (pe_callB (cl_isiK K) (by rfl) z_isinstance (by decide +kernel) (pa_cons (pv 0) (pa_cons (pe_bltn (v := .ty "str") (by rfl) z_str (by decide +kernel) rfl) pa_nil))) (pe_one (pe_cmpR (op_inK K) (pv 0) (pe_glob (v := .ref aO) (by rfl) g_WORDS rfl) rfl))))) (pss_nil))
      (pss_cons (ps_if ((pw_or (pt_not (pt_val (pe_callB (cl_isiK K) (by rfl) z_isinstance (by decide +kernel) (pa_cons (pv 0) (pa_cons (pe_bltn (v := .ty "int") (by rfl) z_int (by decide +kernel) rfl) pa_nil))))) (pw_or1 (pt_val (pe_callB (cl_isiK K) (by rfl) z_isinstance (by decide +kernel) (pa_cons (pv 0) (pa_cons (pe_bltn (v := .ty "bool") (by rfl) z_bool (by decide +kernel) rfl) pa_nil)))))).pt) (pss_one (ps_ret (pe_bl))) (pss_nil))
      (pss_one (ps_ret (pe_or (pe_cmpR op_eq (pv 1) (pe_str) (nomark _)) (pe_one (pe_cmpR op_ge (pv 0) (pe_callTy cl_int1 (by rfl) z_int (by decide +kernel) (pa_cons (pe_cmpR op_eq (pv 1) (pe_str) (nomark _)) pa_nil)) (nomark _))))))))), ?_⟩
    rw [show start ["thing", "sort"] [v, V.str s] = [some (v), some (V.str s)] from rfl]
    try dsimp only [tMethS1, tMethKS1, WE, tSeq, tAsg, gName, tOp, tUn, tCB, tCons, tNil, tCall, tMethK1, tCallK1, tPar3, tRet, tRetN, tDrop, tTest, tB, tC, tNext, tAugS, tAug, sFld1, sFldAug1, tMeth1, tMake, tMakeK1, tSl, tPart, tNoPart, sDPut1, tDPop, tBM, tBM0, tPar, gSub, tChain, tNot, tNotV, tDG1, tDG2, tDNewT1, iKeys1, iEnum1, iList1, iTup1, iRng1, iRng2, List.set_cons_zero, List.set_cons_succ]
    refine x_if ?_
    try dsimp only [tMethS1, tMethKS1, WE, tSeq, tAsg, gName, tOp, tUn, tCB, tCons, tNil, tCall, tMethK1, tCallK1, tPar3, tRet, tRetN, tDrop, tTest, tB, tC, tNext, tAugS, tAug, sFld1, sFldAug1, tMeth1, tMake, tMakeK1, tSl, tPart, tNoPart, sDPut1, tDPop, tBM, tBM0, tPar, gSub, tChain, tNot, tNotV, tDG1, tDG2, tDNewT1, iKeys1, iEnum1, iList1, iTup1, iRng1, iRng2, List.set_cons_zero, List.set_cons_succ]
    refine x_var (by exact rfl) ?_
    refine x_eq ?_
    refine ⟨_, rfl, ?_⟩
    refine ited (fun c1 => ?_) (fun c1 => ?_)
    · try dsimp only [tMethS1, tMethKS1, WE, tSeq, tAsg, gName, tOp, tUn, tCB, tCons, tNil, tCall, tMethK1, tCallK1, tPar3, tRet, tRetN, tDrop, tTest, tB, tC, tNext, tAugS, tAug, sFld1, sFldAug1, tMeth1, tMake, tMakeK1, tSl, tPart, tNoPart, sDPut1, tDPop, tBM, tBM0, tPar, gSub, tChain, tNot, tNotV, tDG1, tDG2, tDNewT1, iKeys1, iEnum1, iList1, iTup1, iRng1, iRng2, List.set_cons_zero, List.set_cons_succ]
      refine x_var (by exact rfl) ?_
      refine c_pure S (h.mono S.out0) (fun H S => ?_)
      exact k _ _ (by first | exact absurd h8 (by assumption) | exact absurd ((show V.str s = V.str "way" by assumption).symm.trans h8) (by decide +kernel) | exact part_one | exact part_nought | exact part_name (V.str.inj (by assumption)) | (rw [part_way (fun e => absurd (congrArg V.str e) (by assumption)) (V.str.inj (by assumption))] <;> first | exact in_noS (by assumption) | rfl) | (rw [part_word (fun e => absurd (congrArg V.str e) (by assumption)) (fun e => absurd (congrArg V.str e) (by assumption)) (V.str.inj (by assumption))] <;> first | exact in_noS (by assumption) | rfl) | (rw [part_num (fun e => absurd (congrArg V.str e) (by assumption)) (fun e => absurd (congrArg V.str e) (by assumption)) (fun e => absurd (congrArg V.str e) (by assumption))] <;> first | exact least_noI (by assumption) | rfl | exact least_any (V.str.inj (by assumption)) | exact least_one (fun e => absurd (congrArg V.str e) (by assumption)) | exact least_one (fun e => absurd (congrArg V.str e) (by assumption)))) S.out0
    · try dsimp only [tMethS1, tMethKS1, WE, tSeq, tAsg, gName, tOp, tUn, tCB, tCons, tNil, tCall, tMethK1, tCallK1, tPar3, tRet, tRetN, tDrop, tTest, tB, tC, tNext, tAugS, tAug, sFld1, sFldAug1, tMeth1, tMake, tMakeK1, tSl, tPart, tNoPart, sDPut1, tDPop, tBM, tBM0, tPar, gSub, tChain, tNot, tNotV, tDG1, tDG2, tDNewT1, iKeys1, iEnum1, iList1, iTup1, iRng1, iRng2, List.set_cons_zero, List.set_cons_succ]
      refine x_if ?_
      try dsimp only [tMethS1, tMethKS1, WE, tSeq, tAsg, gName, tOp, tUn, tCB, tCons, tNil, tCall, tMethK1, tCallK1, tPar3, tRet, tRetN, tDrop, tTest, tB, tC, tNext, tAugS, tAug, sFld1, sFldAug1, tMeth1, tMake, tMakeK1, tSl, tPart, tNoPart, sDPut1, tDPop, tBM, tBM0, tPar, gSub, tChain, tNot, tNotV, tDG1, tDG2, tDNewT1, iKeys1, iEnum1, iList1, iTup1, iRng1, iRng2, List.set_cons_zero, List.set_cons_succ]
      refine x_var (by exact rfl) ?_
      refine x_eq ?_
      refine ⟨_, rfl, ?_⟩
      refine ited (fun c2 => ?_) (fun c2 => ?_)
      · try dsimp only [tMethS1, tMethKS1, WE, tSeq, tAsg, gName, tOp, tUn, tCB, tCons, tNil, tCall, tMethK1, tCallK1, tPar3, tRet, tRetN, tDrop, tTest, tB, tC, tNext, tAugS, tAug, sFld1, sFldAug1, tMeth1, tMake, tMakeK1, tSl, tPart, tNoPart, sDPut1, tDPop, tBM, tBM0, tPar, gSub, tChain, tNot, tNotV, tDG1, tDG2, tDNewT1, iKeys1, iEnum1, iList1, iTup1, iRng1, iRng2, List.set_cons_zero, List.set_cons_succ]
        refine x_andV ?_
        try dsimp only [tMethS1, tMethKS1, WE, tSeq, tAsg, gName, tOp, tUn, tCB, tCons, tNil, tCall, tMethK1, tCallK1, tPar3, tRet, tRetN, tDrop, tTest, tB, tC, tNext, tAugS, tAug, sFld1, sFldAug1, tMeth1, tMake, tMakeK1, tSl, tPart, tNoPart, sDPut1, tDPop, tBM, tBM0, tPar, gSub, tChain, tNot, tNotV, tDG1, tDG2, tDNewT1, iKeys1, iEnum1, iList1, iTup1, iRng1, iRng2, List.set_cons_zero, List.set_cons_succ]
        refine x_var (by exact rfl) ?_
        refine (h.mono S.out0).isStr ?_
        refine ⟨_, rfl, ?_⟩
        refine iteb (fun c3 => ?_) (fun c3 => ?_)
        · obtain ⟨s1, rfl, rfl, hls1⟩ := h.str_of c3
          refine x_var (by exact rfl) ?_
          refine x_inKT hW ?_
          exact k _ _ (by first | exact absurd h8 (by assumption) | exact absurd ((show V.str s = V.str "way" by assumption).symm.trans h8) (by decide +kernel) | exact part_one | exact part_nought | exact part_name (V.str.inj (by assumption)) | (rw [part_way (fun e => absurd (congrArg V.str e) (by assumption)) (V.str.inj (by assumption))] <;> first | exact in_noS (by assumption) | rfl) | (rw [part_word (fun e => absurd (congrArg V.str e) (by assumption)) (fun e => absurd (congrArg V.str e) (by assumption)) (V.str.inj (by assumption))] <;> first | exact in_noS (by assumption) | rfl) | (rw [part_num (fun e => absurd (congrArg V.str e) (by assumption)) (fun e => absurd (congrArg V.str e) (by assumption)) (fun e => absurd (congrArg V.str e) (by assumption))] <;> first | exact least_noI (by assumption) | rfl | exact least_any (V.str.inj (by assumption)) | exact least_one (fun e => absurd (congrArg V.str e) (by assumption)) | exact least_one (fun e => absurd (congrArg V.str e) (by assumption)))) S.out0
        · exact k _ _ (by first | exact absurd h8 (by assumption) | exact absurd ((show V.str s = V.str "way" by assumption).symm.trans h8) (by decide +kernel) | exact part_one | exact part_nought | exact part_name (V.str.inj (by assumption)) | (rw [part_way (fun e => absurd (congrArg V.str e) (by assumption)) (V.str.inj (by assumption))] <;> first | exact in_noS (by assumption) | rfl) | (rw [part_word (fun e => absurd (congrArg V.str e) (by assumption)) (fun e => absurd (congrArg V.str e) (by assumption)) (V.str.inj (by assumption))] <;> first | exact in_noS (by assumption) | rfl) | (rw [part_num (fun e => absurd (congrArg V.str e) (by assumption)) (fun e => absurd (congrArg V.str e) (by assumption)) (fun e => absurd (congrArg V.str e) (by assumption))] <;> first | exact least_noI (by assumption) | rfl | exact least_any (V.str.inj (by assumption)) | exact least_one (fun e => absurd (congrArg V.str e) (by assumption)) | exact least_one (fun e => absurd (congrArg V.str e) (by assumption)))) S.out0
      · try dsimp only [tMethS1, tMethKS1, WE, tSeq, tAsg, gName, tOp, tUn, tCB, tCons, tNil, tCall, tMethK1, tCallK1, tPar3, tRet, tRetN, tDrop, tTest, tB, tC, tNext, tAugS, tAug, sFld1, sFldAug1, tMeth1, tMake, tMakeK1, tSl, tPart, tNoPart, sDPut1, tDPop, tBM, tBM0, tPar, gSub, tChain, tNot, tNotV, tDG1, tDG2, tDNewT1, iKeys1, iEnum1, iList1, iTup1, iRng1, iRng2, List.set_cons_zero, List.set_cons_succ]
        refine x_if ?_
        try dsimp only [tMethS1, tMethKS1, WE, tSeq, tAsg, gName, tOp, tUn, tCB, tCons, tNil, tCall, tMethK1, tCallK1, tPar3, tRet, tRetN, tDrop, tTest, tB, tC, tNext, tAugS, tAug, sFld1, sFldAug1, tMeth1, tMake, tMakeK1, tSl, tPart, tNoPart, sDPut1, tDPop, tBM, tBM0, tPar, gSub, tChain, tNot, tNotV, tDG1, tDG2, tDNewT1, iKeys1, iEnum1, iList1, iTup1, iRng1, iRng2, List.set_cons_zero, List.set_cons_succ]
        refine x_var (by exact rfl) ?_
        refine x_eq ?_
        refine ⟨_, rfl, ?_⟩
        refine ited (fun c4 => ?_) (fun c4 => ?_)
        · try dsimp only [tMethS1, tMethKS1, WE, tSeq, tAsg, gName, tOp, tUn, tCB, tCons, tNil, tCall, tMethK1, tCallK1, tPar3, tRet, tRetN, tDrop, tTest, tB, tC, tNext, tAugS, tAug, sFld1, sFldAug1, tMeth1, tMake, tMakeK1, tSl, tPart, tNoPart, sDPut1, tDPop, tBM, tBM0, tPar, gSub, tChain, tNot, tNotV, tDG1, tDG2, tDNewT1, iKeys1, iEnum1, iList1, iTup1, iRng1, iRng2, List.set_cons_zero, List.set_cons_succ]
          refine x_andV ?_
          try dsimp only [tMethS1, tMethKS1, WE, tSeq, tAsg, gName, tOp, tUn, tCB, tCons, tNil, tCall, tMethK1, tCallK1, tPar3, tRet, tRetN, tDrop, tTest, tB, tC, tNext, tAugS, tAug, sFld1, sFldAug1, tMeth1, tMake, tMakeK1, tSl, tPart, tNoPart, sDPut1, tDPop, tBM, tBM0, tPar, gSub, tChain, tNot, tNotV, tDG1, tDG2, tDNewT1, iKeys1, iEnum1, iList1, iTup1, iRng1, iRng2, List.set_cons_zero, List.set_cons_succ]
          refine x_var (by exact rfl) ?_
          refine (h.mono S.out0).isStr ?_
          refine ⟨_, rfl, ?_⟩
          refine iteb (fun c5 => ?_) (fun c5 => ?_)
          · obtain ⟨s2, rfl, rfl, hls2⟩ := h.str_of c5
            refine x_var (by exact rfl) ?_
            refine x_inKT hO ?_
            exact k _ _ (by first | exact absurd h8 (by assumption) | exact absurd ((show V.str s = V.str "way" by assumption).symm.trans h8) (by decide +kernel) | exact part_one | exact part_nought | exact part_name (V.str.inj (by assumption)) | (rw [part_way (fun e => absurd (congrArg V.str e) (by assumption)) (V.str.inj (by assumption))] <;> first | exact in_noS (by assumption) | rfl) | (rw [part_word (fun e => absurd (congrArg V.str e) (by assumption)) (fun e => absurd (congrArg V.str e) (by assumption)) (V.str.inj (by assumption))] <;> first | exact in_noS (by assumption) | rfl) | (rw [part_num (fun e => absurd (congrArg V.str e) (by assumption)) (fun e => absurd (congrArg V.str e) (by assumption)) (fun e => absurd (congrArg V.str e) (by assumption))] <;> first | exact least_noI (by assumption) | rfl | exact least_any (V.str.inj (by assumption)) | exact least_one (fun e => absurd (congrArg V.str e) (by assumption)) | exact least_one (fun e => absurd (congrArg V.str e) (by assumption)))) S.out0
          · exact k _ _ (by first | exact absurd h8 (by assumption) | exact absurd ((show V.str s = V.str "way" by assumption).symm.trans h8) (by decide +kernel) | exact part_one | exact part_nought | exact part_name (V.str.inj (by assumption)) | (rw [part_way (fun e => absurd (congrArg V.str e) (by assumption)) (V.str.inj (by assumption))] <;> first | exact in_noS (by assumption) | rfl) | (rw [part_word (fun e => absurd (congrArg V.str e) (by assumption)) (fun e => absurd (congrArg V.str e) (by assumption)) (V.str.inj (by assumption))] <;> first | exact in_noS (by assumption) | rfl) | (rw [part_num (fun e => absurd (congrArg V.str e) (by assumption)) (fun e => absurd (congrArg V.str e) (by assumption)) (fun e => absurd (congrArg V.str e) (by assumption))] <;> first | exact least_noI (by assumption) | rfl | exact least_any (V.str.inj (by assumption)) | exact least_one (fun e => absurd (congrArg V.str e) (by assumption)) | exact least_one (fun e => absurd (congrArg V.str e) (by assumption)))) S.out0
        · try dsimp only [tMethS1, tMethKS1, WE, tSeq, tAsg, gName, tOp, tUn, tCB, tCons, tNil, tCall, tMethK1, tCallK1, tPar3, tRet, tRetN, tDrop, tTest, tB, tC, tNext, tAugS, tAug, sFld1, sFldAug1, tMeth1, tMake, tMakeK1, tSl, tPart, tNoPart, sDPut1, tDPop, tBM, tBM0, tPar, gSub, tChain, tNot, tNotV, tDG1, tDG2, tDNewT1, iKeys1, iEnum1, iList1, iTup1, iRng1, iRng2, List.set_cons_zero, List.set_cons_succ]
          refine x_if ?_
          try dsimp only [tMethS1, tMethKS1, WE, tSeq, tAsg, gName, tOp, tUn, tCB, tCons, tNil, tCall, tMethK1, tCallK1, tPar3, tRet, tRetN, tDrop, tTest, tB, tC, tNext, tAugS, tAug, sFld1, sFldAug1, tMeth1, tMake, tMakeK1, tSl, tPart, tNoPart, sDPut1, tDPop, tBM, tBM0, tPar, gSub, tChain, tNot, tNotV, tDG1, tDG2, tDNewT1, iKeys1, iEnum1, iList1, iTup1, iRng1, iRng2, List.set_cons_zero, List.set_cons_succ]
          refine x_or ?_
          try dsimp only [tMethS1, tMethKS1, WE, tSeq, tAsg, gName, tOp, tUn, tCB, tCons, tNil, tCall, tMethK1, tCallK1, tPar3, tRet, tRetN, tDrop, tTest, tB, tC, tNext, tAugS, tAug, sFld1, sFldAug1, tMeth1, tMake, tMakeK1, tSl, tPart, tNoPart, sDPut1, tDPop, tBM, tBM0, tPar, gSub, tChain, tNot, tNotV, tDG1, tDG2, tDNewT1, iKeys1, iEnum1, iList1, iTup1, iRng1, iRng2, List.set_cons_zero, List.set_cons_succ]
          refine x_var (by exact rfl) ?_
          refine (h.mono S.out0).isInt ?_
          refine ⟨_, rfl, ?_⟩
          refine itnb (fun c6 => ?_) (fun c6 => ?_)
          · refine iteT ?_
            try dsimp only [tMethS1, tMethKS1, WE, tSeq, tAsg, gName, tOp, tUn, tCB, tCons, tNil, tCall, tMethK1, tCallK1, tPar3, tRet, tRetN, tDrop, tTest, tB, tC, tNext, tAugS, tAug, sFld1, sFldAug1, tMeth1, tMake, tMakeK1, tSl, tPart, tNoPart, sDPut1, tDPop, tBM, tBM0, tPar, gSub, tChain, tNot, tNotV, tDG1, tDG2, tDNewT1, iKeys1, iEnum1, iList1, iTup1, iRng1, iRng2, List.set_cons_zero, List.set_cons_succ]
            exact k _ _ (by first | exact absurd h8 (by assumption) | exact absurd ((show V.str s = V.str "way" by assumption).symm.trans h8) (by decide +kernel) | exact part_one | exact part_nought | exact part_name (V.str.inj (by assumption)) | (rw [part_way (fun e => absurd (congrArg V.str e) (by assumption)) (V.str.inj (by assumption))] <;> first | exact in_noS (by assumption) | rfl) | (rw [part_word (fun e => absurd (congrArg V.str e) (by assumption)) (fun e => absurd (congrArg V.str e) (by assumption)) (V.str.inj (by assumption))] <;> first | exact in_noS (by assumption) | rfl) | (rw [part_num (fun e => absurd (congrArg V.str e) (by assumption)) (fun e => absurd (congrArg V.str e) (by assumption)) (fun e => absurd (congrArg V.str e) (by assumption))] <;> first | exact least_noI (by assumption) | rfl | exact least_any (V.str.inj (by assumption)) | exact least_one (fun e => absurd (congrArg V.str e) (by assumption)) | exact least_one (fun e => absurd (congrArg V.str e) (by assumption)))) S.out0
          · rcases h.int_of c6 with ⟨i1, rfl, rfl⟩ | ⟨b1, rfl, rfl⟩
            · refine x_var (by exact rfl) ?_
              refine x_isi ty_int (by decide +kernel : kitB "int" "bool" = some false) ?_
              refine ⟨_, rfl, ?_⟩
              refine iteF ?_
              try dsimp only [tMethS1, tMethKS1, WE, tSeq, tAsg, gName, tOp, tUn, tCB, tCons, tNil, tCall, tMethK1, tCallK1, tPar3, tRet, tRetN, tDrop, tTest, tB, tC, tNext, tAugS, tAug, sFld1, sFldAug1, tMeth1, tMake, tMakeK1, tSl, tPart, tNoPart, sDPut1, tDPop, tBM, tBM0, tPar, gSub, tChain, tNot, tNotV, tDG1, tDG2, tDNewT1, iKeys1, iEnum1, iList1, iTup1, iRng1, iRng2, List.set_cons_zero, List.set_cons_succ]
              refine x_orV ?_
              try dsimp only [tMethS1, tMethKS1, WE, tSeq, tAsg, gName, tOp, tUn, tCB, tCons, tNil, tCall, tMethK1, tCallK1, tPar3, tRet, tRetN, tDrop, tTest, tB, tC, tNext, tAugS, tAug, sFld1, sFldAug1, tMeth1, tMake, tMakeK1, tSl, tPart, tNoPart, sDPut1, tDPop, tBM, tBM0, tPar, gSub, tChain, tNot, tNotV, tDG1, tDG2, tDNewT1, iKeys1, iEnum1, iList1, iTup1, iRng1, iRng2, List.set_cons_zero, List.set_cons_succ]
              refine x_var (by exact rfl) ?_
              refine x_eq ?_
              refine ⟨_, rfl, ?_⟩
              refine ited (fun c7 => ?_) (fun c7 => ?_)
              · exact k _ _ (by first | exact absurd h8 (by assumption) | exact absurd ((show V.str s = V.str "way" by assumption).symm.trans h8) (by decide +kernel) | exact part_one | exact part_nought | exact part_name (V.str.inj (by assumption)) | (rw [part_way (fun e => absurd (congrArg V.str e) (by assumption)) (V.str.inj (by assumption))] <;> first | exact in_noS (by assumption) | rfl) | (rw [part_word (fun e => absurd (congrArg V.str e) (by assumption)) (fun e => absurd (congrArg V.str e) (by assumption)) (V.str.inj (by assumption))] <;> first | exact in_noS (by assumption) | rfl) | (rw [part_num (fun e => absurd (congrArg V.str e) (by assumption)) (fun e => absurd (congrArg V.str e) (by assumption)) (fun e => absurd (congrArg V.str e) (by assumption))] <;> first | exact least_noI (by assumption) | rfl | exact least_any (V.str.inj (by assumption)) | exact least_one (fun e => absurd (congrArg V.str e) (by assumption)) | exact least_one (fun e => absurd (congrArg V.str e) (by assumption)))) S.out0
              · refine x_var (by exact rfl) ?_
                refine x_var (by exact rfl) ?_
                refine x_eq ?_
                refine x_int1 ?_
                refine x_I0 ?_
                exact k _ _ (by first | exact absurd h8 (by assumption) | exact absurd ((show V.str s = V.str "way" by assumption).symm.trans h8) (by decide +kernel) | exact part_one | exact part_nought | exact part_name (V.str.inj (by assumption)) | (rw [part_way (fun e => absurd (congrArg V.str e) (by assumption)) (V.str.inj (by assumption))] <;> first | exact in_noS (by assumption) | rfl) | (rw [part_word (fun e => absurd (congrArg V.str e) (by assumption)) (fun e => absurd (congrArg V.str e) (by assumption)) (V.str.inj (by assumption))] <;> first | exact in_noS (by assumption) | rfl) | (rw [part_num (fun e => absurd (congrArg V.str e) (by assumption)) (fun e => absurd (congrArg V.str e) (by assumption)) (fun e => absurd (congrArg V.str e) (by assumption))] <;> first | exact least_noI (by assumption) | rfl | exact least_any (V.str.inj (by assumption)) | exact least_one (fun e => absurd (congrArg V.str e) (by assumption)) | exact least_one (fun e => absurd (congrArg V.str e) (by assumption)))) S.out0
            · refine x_var (by exact rfl) ?_
              refine x_isi ty_bl (by decide +kernel : kitB "bool" "bool" = some true) ?_
              refine ⟨_, rfl, ?_⟩
              refine iteT ?_
              try dsimp only [tMethS1, tMethKS1, WE, tSeq, tAsg, gName, tOp, tUn, tCB, tCons, tNil, tCall, tMethK1, tCallK1, tPar3, tRet, tRetN, tDrop, tTest, tB, tC, tNext, tAugS, tAug, sFld1, sFldAug1, tMeth1, tMake, tMakeK1, tSl, tPart, tNoPart, sDPut1, tDPop, tBM, tBM0, tPar, gSub, tChain, tNot, tNotV, tDG1, tDG2, tDNewT1, iKeys1, iEnum1, iList1, iTup1, iRng1, iRng2, List.set_cons_zero, List.set_cons_succ]
              exact k _ _ (by first | exact absurd h8 (by assumption) | exact absurd ((show V.str s = V.str "way" by assumption).symm.trans h8) (by decide +kernel) | exact part_one | exact part_nought | exact part_name (V.str.inj (by assumption)) | (rw [part_way (fun e => absurd (congrArg V.str e) (by assumption)) (V.str.inj (by assumption))] <;> first | exact in_noS (by assumption) | rfl) | (rw [part_word (fun e => absurd (congrArg V.str e) (by assumption)) (fun e => absurd (congrArg V.str e) (by assumption)) (V.str.inj (by assumption))] <;> first | exact in_noS (by assumption) | rfl) | (rw [part_num (fun e => absurd (congrArg V.str e) (by assumption)) (fun e => absurd (congrArg V.str e) (by assumption)) (fun e => absurd (congrArg V.str e) (by assumption))] <;> first | exact least_noI (by assumption) | rfl | exact least_any (V.str.inj (by assumption)) | exact least_one (fun e => absurd (congrArg V.str e) (by assumption)) | exact least_one (fun e => absurd (congrArg V.str e) (by assumption)))) S.out0
end
end G

set_option linter.all false
set_option maxRecDepth 100000
set_option maxHeartbeats 4000000
namespace G
open PySem PySem.Spec PyProof.Rows L2
section
variable {P : Program} {w : World} {K : PySem.W.Frag} {mg : Str → Option Value} {base : Heap}
abbrev s_law_is_name : Stmt := (topS 19)
theorem sc_law_is_name : FnScope ["_law_matter", "_law_sign"] ["_law_matter"] (defScope s_law_is_name) := ⟨rfl, rfl, rfl, by decide +kernel, rfl, by decide +kernel, by decide +kernel⟩
theorem ok_law_is_name {f : Addr} {fd : FuncData} (F : L2.Fun K "_law_is_name" "_law_is_name" s_law_is_name f fd) (z_isinstance : mg "isinstance" = none) (z_str : mg "str" = none) (z_len : mg "len" = none) : FnOk P w K mg base CX0 1 f fd ["_law_matter"] (spPure isName) := by
  refine F.ok sc_law_is_name (fun vs H Q E h => ?_) (fun cdv A outer s H0 vs Q E hr h => ?_)
  · obtain ⟨v, d, rfl, h, k⟩ := h
    rfl
  · obtain ⟨v, d, rfl, h, k⟩ := h
    have hu := hu_of hr
    have S := Sep.of0 (H := H0)
    refine ⟨_, pss_cons (ps_if ((pw_or (pt_not (pt_val (pe_callB (cl_isiK K) (by rfl) z_isinstance (by decide +kernel) (pa_cons (pv 0) (pa_cons (pe_bltn (v := .ty "str") (by rfl) z_str (by decide +kernel) rfl) pa_nil))))) (pw_or1 (pt_not (pt_chain op_le op_le (pe_int) (pe_callB (cl_lenX K) (by rfl) z_len PySem.boot_len (pa_cons (pv 0) pa_nil)) (pe_int))))).pt) (pss_one (ps_ret (pe_bl))) (pss_nil))
      (pss_one (ps_ret (pe_cmpR (op_eqNil K (Nat.lt_of_succ_lt hu)) (pe_lc (own := [("_law_sign", 1)]) (g := gName 1) rfl sc_law_is_name.nd (pi_str1 (pv 0)) (blkOk_by (N := ["_law_matter", "_law_sign"]) (sc := defScope s_law_is_name) (by decide +kernel)) (fun _ _ _ _ _ => pg_name (i := 1) sc_law_is_name.nd rfl (.inl rfl)) (fun _ _ _ _ _ => pts_one (pt_cmpR op_notInS (pv 1) (pe_str) rfl)) (fun _ _ _ _ _ => pv 1)) (pe_lst1 pa_nil) (nomark _)))), ?_⟩
    rw [show start ["_law_matter", "_law_sign"] [v] = [some (v), none] from rfl]
    try dsimp only [tMethS1, tMethKS1, WE, tSeq, tAsg, gName, tOp, tUn, tCB, tCons, tNil, tCall, tMethK1, tCallK1, tPar3, tRet, tRetN, tDrop, tTest, tB, tC, tNext, tAugS, tAug, sFld1, sFldAug1, tMeth1, tMake, tMakeK1, tSl, tPart, tNoPart, sDPut1, tDPop, tBM, tBM0, tPar, gSub, tChain, tNot, tNotV, tDG1, tDG2, tDNewT1, iKeys1, iEnum1, iList1, iTup1, iRng1, iRng2, List.set_cons_zero, List.set_cons_succ]
    refine x_if ?_
    try dsimp only [tMethS1, tMethKS1, WE, tSeq, tAsg, gName, tOp, tUn, tCB, tCons, tNil, tCall, tMethK1, tCallK1, tPar3, tRet, tRetN, tDrop, tTest, tB, tC, tNext, tAugS, tAug, sFld1, sFldAug1, tMeth1, tMake, tMakeK1, tSl, tPart, tNoPart, sDPut1, tDPop, tBM, tBM0, tPar, gSub, tChain, tNot, tNotV, tDG1, tDG2, tDNewT1, iKeys1, iEnum1, iList1, iTup1, iRng1, iRng2, List.set_cons_zero, List.set_cons_succ]
    refine x_or ?_
    try dsimp only [tMethS1, tMethKS1, WE, tSeq, tAsg, gName, tOp, tUn, tCB, tCons, tNil, tCall, tMethK1, tCallK1, tPar3, tRet, tRetN, tDrop, tTest, tB, tC, tNext, tAugS, tAug, sFld1, sFldAug1, tMeth1, tMake, tMakeK1, tSl, tPart, tNoPart, sDPut1, tDPop, tBM, tBM0, tPar, gSub, tChain, tNot, tNotV, tDG1, tDG2, tDNewT1, iKeys1, iEnum1, iList1, iTup1, iRng1, iRng2, List.set_cons_zero, List.set_cons_succ]
    refine x_var (by exact rfl) ?_
    refine (h.mono S.out0).isStr ?_
    refine ⟨_, rfl, ?_⟩
    refine itnb (fun c1 => ?_) (fun c1 => ?_)
    · refine iteT ?_
      try dsimp only [tMethS1, tMethKS1, WE, tSeq, tAsg, gName, tOp, tUn, tCB, tCons, tNil, tCall, tMethK1, tCallK1, tPar3, tRet, tRetN, tDrop, tTest, tB, tC, tNext, tAugS, tAug, sFld1, sFldAug1, tMeth1, tMake, tMakeK1, tSl, tPart, tNoPart, sDPut1, tDPop, tBM, tBM0, tPar, gSub, tChain, tNot, tNotV, tDG1, tDG2, tDNewT1, iKeys1, iEnum1, iList1, iTup1, iRng1, iRng2, List.set_cons_zero, List.set_cons_succ]
      exact k _ _ (by first | exact strN (by assumption) | exact name_lo (by omega) | exact name_hi (by omega) | exact name_in (by omega) (by omega) | exact name_in2 (by omega) (by omega) hyn) S.out0
    · obtain ⟨s1, rfl, rfl, hls1⟩ := h.str_of c1
      refine x_var (by exact rfl) ?_
      refine x_lenXs hls1 ?_
      refine x_I0 ?_
      refine ⟨_, rfl, ?_⟩
      refine ited (fun c2 => ?_) (fun c2 => ?_)
      · refine x_I0 ?_
        refine ⟨_, rfl, ?_⟩
        refine itend (fun c3 => ?_) (fun c3 => ?_)
        · try dsimp only [tMethS1, tMethKS1, WE, tSeq, tAsg, gName, tOp, tUn, tCB, tCons, tNil, tCall, tMethK1, tCallK1, tPar3, tRet, tRetN, tDrop, tTest, tB, tC, tNext, tAugS, tAug, sFld1, sFldAug1, tMeth1, tMake, tMakeK1, tSl, tPart, tNoPart, sDPut1, tDPop, tBM, tBM0, tPar, gSub, tChain, tNot, tNotV, tDG1, tDG2, tDNewT1, iKeys1, iEnum1, iList1, iTup1, iRng1, iRng2, List.set_cons_zero, List.set_cons_succ]
          exact k _ _ (by first | exact strN (by assumption) | exact name_lo (by omega) | exact name_hi (by omega) | exact name_in (by omega) (by omega) | exact name_in2 (by omega) (by omega) hyn) S.out0
        · try dsimp only [tMethS1, tMethKS1, WE, tSeq, tAsg, gName, tOp, tUn, tCB, tCons, tNil, tCall, tMethK1, tCallK1, tPar3, tRet, tRetN, tDrop, tTest, tB, tC, tNext, tAugS, tAug, sFld1, sFldAug1, tMeth1, tMake, tMakeK1, tSl, tPart, tNoPart, sDPut1, tDPop, tBM, tBM0, tPar, gSub, tChain, tNot, tNotV, tDG1, tDG2, tDNewT1, iKeys1, iEnum1, iList1, iTup1, iRng1, iRng2, List.set_cons_zero, List.set_cons_succ]
          refine x_lc ?_
          try dsimp only [tMethS1, tMethKS1, tOp, tUn, tCB, tCons, tNil, tCall, tMethK1, tCallK1, tC, tMeth1, tMake, tMakeK1, tSl, tPart, tNoPart, tDPop, tChain, tNotV, tBM, tBM0, tDG1, tDG2, tDNewT1, iKeys1, iEnum1, iList1, iTup1, iRng1, iRng2]
          refine x_var (by exact rfl) ?_
          refine x_istr ?_
          refine lcW (walk_str (z := s1)) S (fun al1 H S => ⟨fun j H1 => ∃ ys : List V, ys.length ≤ j ∧ (ys = [] ↔ (s1.cps.toList.take j).all (fun c => decide (c ∈ abcL)) = true) ∧ Sep H0 [] H1 [(2, al1, .lst ys)], ?_, ?_, ?_, ?_⟩)
          · exact ⟨[], Nat.le_refl _, ⟨fun _ => rfl, fun _ => rfl⟩, S.sub [0]⟩
          · rintro j H hi ⟨ys, hyl, hyn, S⟩
            trivial
          · rintro j y H H9 hi ⟨ys, hyl, hyn, S⟩ hy
            obtain ⟨rfl, c, hc, rfl⟩ := hy
            have hz : s1.cps.toList[j]? = some c := by rw [Array.getElem?_toList]; exact hc
            have hlj : s1.cps.size ≤ 100000 := hls1
            refine ⟨rfl, ?_⟩
            try dsimp only [tMethS1, tMethKS1, WE, wipe, tYes, tSeq, tAsg, gName, tOp, tUn, tCB, tCons, tNil, tCall, tMethK1, tCallK1, tPar3, tRet, tRetN, tDrop, tTest, tB, tC, tNext, tAugS, tAug, sFld1, sFldAug1, tMeth1, tMake, tMakeK1, tSl, tPart, tNoPart, sDPut1, tDPop, tBM, tBM0, tPar, gSub, tChain, tNot, tNotV, tDG1, tDG2, tDNewT1, iKeys1, iEnum1, iList1, iTup1, iRng1, iRng2, List.set_cons_zero, List.set_cons_succ]
            refine x_var (by exact rfl) ?_
            refine x_niAbc ?_
            refine ⟨_, rfl, ?_⟩
            refine itend (fun c4 => ?_) (fun c4 => ?_)
            · refine x_var (by exact rfl) ?_
              have S := S.sub [0]
              refine x_lcapp S 0 (by exact rfl) (by omega) (fun H S => ?_)
              exact ⟨_, by rw [List.length_append]; exact Nat.add_le_add_right hyl 1, none_neg hz (by first | exact decide_eq_false c4 | exact c4), S⟩
            · exact ⟨ys, by omega, none_pos hz (by first | exact decide_eq_true c4 | exact c4) hyn, S.sub [0]⟩
          · rintro H ⟨ys, hyl, hyn, S⟩
            rw [show s1.cps.toList.take s1.cps.size = s1.cps.toList from by rw [← Array.length_toList, List.take_length]] at hyn
            refine x_lst S (by exact Nat.le_of_ble_eq_true rfl) (fun L1 H S => ?_)
            refine x_eqNilL S 0 (by exact (by exact rfl)) (S.sl 1 (by exact rfl)) ?_
            exact k _ _ (by first | exact strN (by assumption) | exact name_lo (by omega) | exact name_hi (by omega) | exact name_in (by omega) (by omega) | exact name_in2 (by omega) (by omega) hyn) S.out0
      · refine ⟨_, rfl, ?_⟩
        refine iteT ?_
        try dsimp only [tMethS1, tMethKS1, WE, tSeq, tAsg, gName, tOp, tUn, tCB, tCons, tNil, tCall, tMethK1, tCallK1, tPar3, tRet, tRetN, tDrop, tTest, tB, tC, tNext, tAugS, tAug, sFld1, sFldAug1, tMeth1, tMake, tMakeK1, tSl, tPart, tNoPart, sDPut1, tDPop, tBM, tBM0, tPar, gSub, tChain, tNot, tNotV, tDG1, tDG2, tDNewT1, iKeys1, iEnum1, iList1, iTup1, iRng1, iRng2, List.set_cons_zero, List.set_cons_succ]
        exact k _ _ (by first | exact strN (by assumption) | exact name_lo (by omega) | exact name_hi (by omega) | exact name_in (by omega) (by omega) | exact name_in2 (by omega) (by omega) hyn) S.out0
end
section
variable {P : Program} {w : World} {K : PySem.W.Frag} {mg : Str → Option Value} {base : Heap}
abbrev s_law_is_part : Stmt := (topS 20)
theorem sc_law_is_part : FnScope ["_law_matter", "_law_sort", "_law_some"] ["_law_matter", "_law_sort"] (defScope s_law_is_part) := ⟨rfl, rfl, rfl, by decide +kernel, rfl, by decide +kernel, by decide +kernel⟩
theorem ok_law_is_part {f : Addr} {fd : FuncData} (F : L2.Fun K "_law_is_part" "_law_is_part" s_law_is_part f fd) (z_isinstance : mg "isinstance" = none) (z_str : mg "str" = none) (z_int : mg "int" = none) (z_bool : mg "bool" = none) (cname : Cal P w K mg base CX0 1 "_law_is_name" (spPure isName)) : FnOk P w K mg base CX0 2 f fd ["_law_matter", "_law_sort"] spPart := by
  refine F.ok sc_law_is_part (fun vs H Q E h => ?_) (fun cdv A outer s H0 vs Q E hr h => ?_)
  · obtain ⟨v, d, s, rfl, h, hs, k⟩ := h
    rfl
  · obtain ⟨v, d, s, rfl, h, hs, k⟩ := h
    have hu := hu_of hr
    have S := Sep.of0 (H := H0)
    refine ⟨_, pss_cons (ps_if (pt_cmpR op_eq (pv 1) (pe_str) (nomark _)) (pss_one (ps_ret (pe_c cname hr (by decide) (by rfl) pass0 (pa_cons (pv 0) pa_nil)))) (pss_nil))
      (pss_cons (ps_if (pt_cmpR (op_inK K) (pv 1) (pe_tup1 (pa_cons (pe_str) (pa_cons (pe_str) pa_nil))) rfl) (pss_cons (ps_set (i := 2) sc_law_is_part.nd rfl (.inl rfl) (pe_ifExp (pt_cmpR op_eq (pv 1) (pe_str) (nomark _)) (pe_lst1 (pa_cons (pe_str) (pa_cons (pe_str) pa_nil))) (pe_lst1 (pa_cons (pe_str) (pa_cons (pe_str) (pa_cons (pe_str) (pa_cons (pe_str) pa_nil)))))))
      (pss_one (ps_ret (pe_and (pe_callB (cl_isiK K) (by rfl) z_isinstance (by decide +kernel) (pa_cons (pv 0) (pa_cons (pe_bltn (v := .ty "str") (by rfl) z_str (by decide +kernel) rfl) pa_nil))) (pe_one (pe_cmpR (op_inK K) (pv 0) (pv 2) rfl)))))) (pss_nil))
      (pss_cons (ps_if ((pw_or (pt_not (pt_val (pe_callB (cl_isiK K) (by rfl) z_isinstance (by decide +kernel) (pa_cons (pv 0) (pa_cons (pe_bltn (v := .ty "int") (by rfl) z_int (by decide +kernel) rfl) pa_nil))))) (pw_or1 (pt_val (pe_callB (cl_isiK K) (by rfl) z_isinstance (by decide +kernel) (pa_cons (pv 0) (pa_cons (pe_bltn (v := .ty "bool") (by rfl) z_bool (by decide +kernel) rfl) pa_nil)))))).pt) (pss_one (ps_ret (pe_bl))) (pss_nil))
      (pss_one (ps_ret (pe_or (pe_cmpR op_eq (pv 1) (pe_str) (nomark _)) (pe_one (pe_cmpR op_ge (pv 0) (pe_dget1v hu (pe_disp (pps_cons pe_str (pe_int) (pps_cons pe_str (pe_int) pps_nil)) rfl rfl (by simp) (by decide)) (pv 1) (fun _ _ => rfl)) (nomark _)))))))), ?_⟩
    rw [show start ["_law_matter", "_law_sort", "_law_some"] [v, V.str s] = [some (v), some (V.str s), none] from rfl]
    try dsimp only [tMethS1, tMethKS1, WE, tSeq, tAsg, gName, tOp, tUn, tCB, tCons, tNil, tCall, tMethK1, tCallK1, tPar3, tRet, tRetN, tDrop, tTest, tB, tC, tNext, tAugS, tAug, sFld1, sFldAug1, tMeth1, tMake, tMakeK1, tSl, tPart, tNoPart, sDPut1, tDPop, tBM, tBM0, tPar, gSub, tChain, tNot, tNotV, tDG1, tDG2, tDNewT1, iKeys1, iEnum1, iList1, iTup1, iRng1, iRng2, List.set_cons_zero, List.set_cons_succ]
    refine x_if ?_
    try dsimp only [tMethS1, tMethKS1, WE, tSeq, tAsg, gName, tOp, tUn, tCB, tCons, tNil, tCall, tMethK1, tCallK1, tPar3, tRet, tRetN, tDrop, tTest, tB, tC, tNext, tAugS, tAug, sFld1, sFldAug1, tMeth1, tMake, tMakeK1, tSl, tPart, tNoPart, sDPut1, tDPop, tBM, tBM0, tPar, gSub, tChain, tNot, tNotV, tDG1, tDG2, tDNewT1, iKeys1, iEnum1, iList1, iTup1, iRng1, iRng2, List.set_cons_zero, List.set_cons_succ]
    refine x_var (by exact rfl) ?_
    refine x_eq ?_
    refine ⟨_, rfl, ?_⟩
    refine ited (fun c1 => ?_) (fun c1 => ?_)
    · try dsimp only [tMethS1, tMethKS1, WE, tSeq, tAsg, gName, tOp, tUn, tCB, tCons, tNil, tCall, tMethK1, tCallK1, tPar3, tRet, tRetN, tDrop, tTest, tB, tC, tNext, tAugS, tAug, sFld1, sFldAug1, tMeth1, tMake, tMakeK1, tSl, tPart, tNoPart, sDPut1, tDPop, tBM, tBM0, tPar, gSub, tChain, tNot, tNotV, tDG1, tDG2, tDNewT1, iKeys1, iEnum1, iList1, iTup1, iRng1, iRng2, List.set_cons_zero, List.set_cons_succ]
      refine x_var (by exact rfl) ?_
      refine c_pure S (h.mono S.out0) (fun H S => ?_)
      exact k _ _ (by first | exact absurd h8 (by assumption) | exact absurd ((show V.str s = V.str "way" by assumption).symm.trans h8) (by decide +kernel) | exact part_one | exact part_nought | exact part_name (V.str.inj (by assumption)) | (rw [part_way (fun e => absurd (congrArg V.str e) (by assumption)) (V.str.inj (by assumption))] <;> first | exact in_noS (by assumption) | rfl) | (rw [part_word (fun e => absurd (congrArg V.str e) (by assumption)) (fun e => absurd (congrArg V.str e) (by assumption)) (V.str.inj (by assumption))] <;> first | exact in_noS (by assumption) | rfl) | (rw [part_num (fun e => absurd (congrArg V.str e) (by assumption)) (fun e => absurd (congrArg V.str e) (by assumption)) (fun e => absurd (congrArg V.str e) (by assumption))] <;> first | exact least_noI (by assumption) | rfl | exact least_any (V.str.inj (by assumption)) | exact least_one (fun e => absurd (congrArg V.str e) (by assumption)) | exact least_one (fun e => absurd (congrArg V.str e) (by assumption)))) S.out0
    · try dsimp only [tMethS1, tMethKS1, WE, tSeq, tAsg, gName, tOp, tUn, tCB, tCons, tNil, tCall, tMethK1, tCallK1, tPar3, tRet, tRetN, tDrop, tTest, tB, tC, tNext, tAugS, tAug, sFld1, sFldAug1, tMeth1, tMake, tMakeK1, tSl, tPart, tNoPart, sDPut1, tDPop, tBM, tBM0, tPar, gSub, tChain, tNot, tNotV, tDG1, tDG2, tDNewT1, iKeys1, iEnum1, iList1, iTup1, iRng1, iRng2, List.set_cons_zero, List.set_cons_succ]
      refine x_if ?_
      try dsimp only [tMethS1, tMethKS1, WE, tSeq, tAsg, gName, tOp, tUn, tCB, tCons, tNil, tCall, tMethK1, tCallK1, tPar3, tRet, tRetN, tDrop, tTest, tB, tC, tNext, tAugS, tAug, sFld1, sFldAug1, tMeth1, tMake, tMakeK1, tSl, tPart, tNoPart, sDPut1, tDPop, tBM, tBM0, tPar, gSub, tChain, tNot, tNotV, tDG1, tDG2, tDNewT1, iKeys1, iEnum1, iList1, iTup1, iRng1, iRng2, List.set_cons_zero, List.set_cons_succ]
      refine x_var (by exact rfl) ?_
      refine x_tup S (by exact Nat.le_of_ble_eq_true rfl) (fun U1 H S => ?_)
      refine x_inT (ss := ["way", "word"]) S 0 (by exact rfl) ?_
      refine ⟨_, rfl, ?_⟩
      refine ited (fun c2 => ?_) (fun c2 => ?_)
      · rcases two_of c2 with h8 | h8
        · try dsimp only [tMethS1, tMethKS1, WE, tSeq, tAsg, gName, tOp, tUn, tCB, tCons, tNil, tCall, tMethK1, tCallK1, tPar3, tRet, tRetN, tDrop, tTest, tB, tC, tNext, tAugS, tAug, sFld1, sFldAug1, tMeth1, tMake, tMakeK1, tSl, tPart, tNoPart, sDPut1, tDPop, tBM, tBM0, tPar, gSub, tChain, tNot, tNotV, tDG1, tDG2, tDNewT1, iKeys1, iEnum1, iList1, iTup1, iRng1, iRng2, List.set_cons_zero, List.set_cons_succ]
          refine x_ifE ?_
          try dsimp only [tMethS1, tMethKS1, WE, tSeq, tAsg, gName, tOp, tUn, tCB, tCons, tNil, tCall, tMethK1, tCallK1, tPar3, tRet, tRetN, tDrop, tTest, tB, tC, tNext, tAugS, tAug, sFld1, sFldAug1, tMeth1, tMake, tMakeK1, tSl, tPart, tNoPart, sDPut1, tDPop, tBM, tBM0, tPar, gSub, tChain, tNot, tNotV, tDG1, tDG2, tDNewT1, iKeys1, iEnum1, iList1, iTup1, iRng1, iRng2, List.set_cons_zero, List.set_cons_succ]
          refine x_var (by exact rfl) ?_
          refine x_eq ?_
          refine ⟨_, rfl, ?_⟩
          refine ited (fun c3 => ?_) (fun c3 => ?_)
          · refine x_lst S (by exact Nat.le_of_ble_eq_true rfl) (fun L1 H S => ?_)
            try dsimp only [tMethS1, tMethKS1, WE, tSeq, tAsg, gName, tOp, tUn, tCB, tCons, tNil, tCall, tMethK1, tCallK1, tPar3, tRet, tRetN, tDrop, tTest, tB, tC, tNext, tAugS, tAug, sFld1, sFldAug1, tMeth1, tMake, tMakeK1, tSl, tPart, tNoPart, sDPut1, tDPop, tBM, tBM0, tPar, gSub, tChain, tNot, tNotV, tDG1, tDG2, tDNewT1, iKeys1, iEnum1, iList1, iTup1, iRng1, iRng2, List.set_cons_zero, List.set_cons_succ]
            refine x_andV ?_
            try dsimp only [tMethS1, tMethKS1, WE, tSeq, tAsg, gName, tOp, tUn, tCB, tCons, tNil, tCall, tMethK1, tCallK1, tPar3, tRet, tRetN, tDrop, tTest, tB, tC, tNext, tAugS, tAug, sFld1, sFldAug1, tMeth1, tMake, tMakeK1, tSl, tPart, tNoPart, sDPut1, tDPop, tBM, tBM0, tPar, gSub, tChain, tNot, tNotV, tDG1, tDG2, tDNewT1, iKeys1, iEnum1, iList1, iTup1, iRng1, iRng2, List.set_cons_zero, List.set_cons_succ]
            refine x_var (by exact rfl) ?_
            refine (h.mono S.out0).isStr ?_
            refine ⟨_, rfl, ?_⟩
            refine iteb (fun c4 => ?_) (fun c4 => ?_)
            · obtain ⟨s1, rfl, rfl, hls1⟩ := h.str_of c4
              refine x_var (by exact rfl) ?_
              refine x_var (by exact rfl) ?_
              refine x_inS (ss := (["in", "out"] : List Str)) S 0 (by exact rfl) ?_
              exact k _ _ (by first | exact absurd h8 (by assumption) | exact absurd ((show V.str s = V.str "way" by assumption).symm.trans h8) (by decide +kernel) | exact part_one | exact part_nought | exact part_name (V.str.inj (by assumption)) | (rw [part_way (fun e => absurd (congrArg V.str e) (by assumption)) (V.str.inj (by assumption))] <;> first | exact in_noS (by assumption) | rfl) | (rw [part_word (fun e => absurd (congrArg V.str e) (by assumption)) (fun e => absurd (congrArg V.str e) (by assumption)) (V.str.inj (by assumption))] <;> first | exact in_noS (by assumption) | rfl) | (rw [part_num (fun e => absurd (congrArg V.str e) (by assumption)) (fun e => absurd (congrArg V.str e) (by assumption)) (fun e => absurd (congrArg V.str e) (by assumption))] <;> first | exact least_noI (by assumption) | rfl | exact least_any (V.str.inj (by assumption)) | exact least_one (fun e => absurd (congrArg V.str e) (by assumption)) | exact least_one (fun e => absurd (congrArg V.str e) (by assumption)))) S.out0
            · exact k _ _ (by first | exact absurd h8 (by assumption) | exact absurd ((show V.str s = V.str "way" by assumption).symm.trans h8) (by decide +kernel) | exact part_one | exact part_nought | exact part_name (V.str.inj (by assumption)) | (rw [part_way (fun e => absurd (congrArg V.str e) (by assumption)) (V.str.inj (by assumption))] <;> first | exact in_noS (by assumption) | rfl) | (rw [part_word (fun e => absurd (congrArg V.str e) (by assumption)) (fun e => absurd (congrArg V.str e) (by assumption)) (V.str.inj (by assumption))] <;> first | exact in_noS (by assumption) | rfl) | (rw [part_num (fun e => absurd (congrArg V.str e) (by assumption)) (fun e => absurd (congrArg V.str e) (by assumption)) (fun e => absurd (congrArg V.str e) (by assumption))] <;> first | exact least_noI (by assumption) | rfl | exact least_any (V.str.inj (by assumption)) | exact least_one (fun e => absurd (congrArg V.str e) (by assumption)) | exact least_one (fun e => absurd (congrArg V.str e) (by assumption)))) S.out0
          · refine x_lst S (by exact Nat.le_of_ble_eq_true rfl) (fun L2 H S => ?_)
            try dsimp only [tMethS1, tMethKS1, WE, tSeq, tAsg, gName, tOp, tUn, tCB, tCons, tNil, tCall, tMethK1, tCallK1, tPar3, tRet, tRetN, tDrop, tTest, tB, tC, tNext, tAugS, tAug, sFld1, sFldAug1, tMeth1, tMake, tMakeK1, tSl, tPart, tNoPart, sDPut1, tDPop, tBM, tBM0, tPar, gSub, tChain, tNot, tNotV, tDG1, tDG2, tDNewT1, iKeys1, iEnum1, iList1, iTup1, iRng1, iRng2, List.set_cons_zero, List.set_cons_succ]
            refine x_andV ?_
            try dsimp only [tMethS1, tMethKS1, WE, tSeq, tAsg, gName, tOp, tUn, tCB, tCons, tNil, tCall, tMethK1, tCallK1, tPar3, tRet, tRetN, tDrop, tTest, tB, tC, tNext, tAugS, tAug, sFld1, sFldAug1, tMeth1, tMake, tMakeK1, tSl, tPart, tNoPart, sDPut1, tDPop, tBM, tBM0, tPar, gSub, tChain, tNot, tNotV, tDG1, tDG2, tDNewT1, iKeys1, iEnum1, iList1, iTup1, iRng1, iRng2, List.set_cons_zero, List.set_cons_succ]
            refine x_var (by exact rfl) ?_
            refine (h.mono S.out0).isStr ?_
            refine ⟨_, rfl, ?_⟩
            refine iteb (fun c5 => ?_) (fun c5 => ?_)
            · obtain ⟨s2, rfl, rfl, hls2⟩ := h.str_of c5
              refine x_var (by exact rfl) ?_
              refine x_var (by exact rfl) ?_
              refine x_inS (ss := (["done", "never", "stopped", "late"] : List Str)) S 0 (by exact rfl) ?_
              exact k _ _ (by first | exact absurd h8 (by assumption) | exact absurd ((show V.str s = V.str "way" by assumption).symm.trans h8) (by decide +kernel) | exact part_one | exact part_nought | exact part_name (V.str.inj (by assumption)) | (rw [part_way (fun e => absurd (congrArg V.str e) (by assumption)) (V.str.inj (by assumption))] <;> first | exact in_noS (by assumption) | rfl) | (rw [part_word (fun e => absurd (congrArg V.str e) (by assumption)) (fun e => absurd (congrArg V.str e) (by assumption)) (V.str.inj (by assumption))] <;> first | exact in_noS (by assumption) | rfl) | (rw [part_num (fun e => absurd (congrArg V.str e) (by assumption)) (fun e => absurd (congrArg V.str e) (by assumption)) (fun e => absurd (congrArg V.str e) (by assumption))] <;> first | exact least_noI (by assumption) | rfl | exact least_any (V.str.inj (by assumption)) | exact least_one (fun e => absurd (congrArg V.str e) (by assumption)) | exact least_one (fun e => absurd (congrArg V.str e) (by assumption)))) S.out0
            · exact k _ _ (by first | exact absurd h8 (by assumption) | exact absurd ((show V.str s = V.str "way" by assumption).symm.trans h8) (by decide +kernel) | exact part_one | exact part_nought | exact part_name (V.str.inj (by assumption)) | (rw [part_way (fun e => absurd (congrArg V.str e) (by assumption)) (V.str.inj (by assumption))] <;> first | exact in_noS (by assumption) | rfl) | (rw [part_word (fun e => absurd (congrArg V.str e) (by assumption)) (fun e => absurd (congrArg V.str e) (by assumption)) (V.str.inj (by assumption))] <;> first | exact in_noS (by assumption) | rfl) | (rw [part_num (fun e => absurd (congrArg V.str e) (by assumption)) (fun e => absurd (congrArg V.str e) (by assumption)) (fun e => absurd (congrArg V.str e) (by assumption))] <;> first | exact least_noI (by assumption) | rfl | exact least_any (V.str.inj (by assumption)) | exact least_one (fun e => absurd (congrArg V.str e) (by assumption)) | exact least_one (fun e => absurd (congrArg V.str e) (by assumption)))) S.out0
        · try dsimp only [tMethS1, tMethKS1, WE, tSeq, tAsg, gName, tOp, tUn, tCB, tCons, tNil, tCall, tMethK1, tCallK1, tPar3, tRet, tRetN, tDrop, tTest, tB, tC, tNext, tAugS, tAug, sFld1, sFldAug1, tMeth1, tMake, tMakeK1, tSl, tPart, tNoPart, sDPut1, tDPop, tBM, tBM0, tPar, gSub, tChain, tNot, tNotV, tDG1, tDG2, tDNewT1, iKeys1, iEnum1, iList1, iTup1, iRng1, iRng2, List.set_cons_zero, List.set_cons_succ]
          refine x_ifE ?_
          try dsimp only [tMethS1, tMethKS1, WE, tSeq, tAsg, gName, tOp, tUn, tCB, tCons, tNil, tCall, tMethK1, tCallK1, tPar3, tRet, tRetN, tDrop, tTest, tB, tC, tNext, tAugS, tAug, sFld1, sFldAug1, tMeth1, tMake, tMakeK1, tSl, tPart, tNoPart, sDPut1, tDPop, tBM, tBM0, tPar, gSub, tChain, tNot, tNotV, tDG1, tDG2, tDNewT1, iKeys1, iEnum1, iList1, iTup1, iRng1, iRng2, List.set_cons_zero, List.set_cons_succ]
          refine x_var (by exact rfl) ?_
          refine x_eq ?_
          refine ⟨_, rfl, ?_⟩
          refine ited (fun c6 => ?_) (fun c6 => ?_)
          · refine x_lst S (by exact Nat.le_of_ble_eq_true rfl) (fun L3 H S => ?_)
            try dsimp only [tMethS1, tMethKS1, WE, tSeq, tAsg, gName, tOp, tUn, tCB, tCons, tNil, tCall, tMethK1, tCallK1, tPar3, tRet, tRetN, tDrop, tTest, tB, tC, tNext, tAugS, tAug, sFld1, sFldAug1, tMeth1, tMake, tMakeK1, tSl, tPart, tNoPart, sDPut1, tDPop, tBM, tBM0, tPar, gSub, tChain, tNot, tNotV, tDG1, tDG2, tDNewT1, iKeys1, iEnum1, iList1, iTup1, iRng1, iRng2, List.set_cons_zero, List.set_cons_succ]
            refine x_andV ?_
            try dsimp only [tMethS1, tMethKS1, WE, tSeq, tAsg, gName, tOp, tUn, tCB, tCons, tNil, tCall, tMethK1, tCallK1, tPar3, tRet, tRetN, tDrop, tTest, tB, tC, tNext, tAugS, tAug, sFld1, sFldAug1, tMeth1, tMake, tMakeK1, tSl, tPart, tNoPart, sDPut1, tDPop, tBM, tBM0, tPar, gSub, tChain, tNot, tNotV, tDG1, tDG2, tDNewT1, iKeys1, iEnum1, iList1, iTup1, iRng1, iRng2, List.set_cons_zero, List.set_cons_succ]
            refine x_var (by exact rfl) ?_
            refine (h.mono S.out0).isStr ?_
            refine ⟨_, rfl, ?_⟩
            refine iteb (fun c7 => ?_) (fun c7 => ?_)
            · obtain ⟨s3, rfl, rfl, hls3⟩ := h.str_of c7
              refine x_var (by exact rfl) ?_
              refine x_var (by exact rfl) ?_
              refine x_inS (ss := (["in", "out"] : List Str)) S 0 (by exact rfl) ?_
              exact k _ _ (by first | exact absurd h8 (by assumption) | exact absurd ((show V.str s = V.str "way" by assumption).symm.trans h8) (by decide +kernel) | exact part_one | exact part_nought | exact part_name (V.str.inj (by assumption)) | (rw [part_way (fun e => absurd (congrArg V.str e) (by assumption)) (V.str.inj (by assumption))] <;> first | exact in_noS (by assumption) | rfl) | (rw [part_word (fun e => absurd (congrArg V.str e) (by assumption)) (fun e => absurd (congrArg V.str e) (by assumption)) (V.str.inj (by assumption))] <;> first | exact in_noS (by assumption) | rfl) | (rw [part_num (fun e => absurd (congrArg V.str e) (by assumption)) (fun e => absurd (congrArg V.str e) (by assumption)) (fun e => absurd (congrArg V.str e) (by assumption))] <;> first | exact least_noI (by assumption) | rfl | exact least_any (V.str.inj (by assumption)) | exact least_one (fun e => absurd (congrArg V.str e) (by assumption)) | exact least_one (fun e => absurd (congrArg V.str e) (by assumption)))) S.out0
            · exact k _ _ (by first | exact absurd h8 (by assumption) | exact absurd ((show V.str s = V.str "way" by assumption).symm.trans h8) (by decide +kernel) | exact part_one | exact part_nought | exact part_name (V.str.inj (by assumption)) | (rw [part_way (fun e => absurd (congrArg V.str e) (by assumption)) (V.str.inj (by assumption))] <;> first | exact in_noS (by assumption) | rfl) | (rw [part_word (fun e => absurd (congrArg V.str e) (by assumption)) (fun e => absurd (congrArg V.str e) (by assumption)) (V.str.inj (by assumption))] <;> first | exact in_noS (by assumption) | rfl) | (rw [part_num (fun e => absurd (congrArg V.str e) (by assumption)) (fun e => absurd (congrArg V.str e) (by assumption)) (fun e => absurd (congrArg V.str e) (by assumption))] <;> first | exact least_noI (by assumption) | rfl | exact least_any (V.str.inj (by assumption)) | exact least_one (fun e => absurd (congrArg V.str e) (by assumption)) | exact least_one (fun e => absurd (congrArg V.str e) (by assumption)))) S.out0
          · refine x_lst S (by exact Nat.le_of_ble_eq_true rfl) (fun L4 H S => ?_)
            try dsimp only [tMethS1, tMethKS1, WE, tSeq, tAsg, gName, tOp, tUn, tCB, tCons, tNil, tCall, tMethK1, tCallK1, tPar3, tRet, tRetN, tDrop, tTest, tB, tC, tNext, tAugS, tAug, sFld1, sFldAug1, tMeth1, tMake, tMakeK1, tSl, tPart, tNoPart, sDPut1, tDPop, tBM, tBM0, tPar, gSub, tChain, tNot, tNotV, tDG1, tDG2, tDNewT1, iKeys1, iEnum1, iList1, iTup1, iRng1, iRng2, List.set_cons_zero, List.set_cons_succ]
            refine x_andV ?_
            try dsimp only [tMethS1, tMethKS1, WE, tSeq, tAsg, gName, tOp, tUn, tCB, tCons, tNil, tCall, tMethK1, tCallK1, tPar3, tRet, tRetN, tDrop, tTest, tB, tC, tNext, tAugS, tAug, sFld1, sFldAug1, tMeth1, tMake, tMakeK1, tSl, tPart, tNoPart, sDPut1, tDPop, tBM, tBM0, tPar, gSub, tChain, tNot, tNotV, tDG1, tDG2, tDNewT1, iKeys1, iEnum1, iList1, iTup1, iRng1, iRng2, List.set_cons_zero, List.set_cons_succ]
            refine x_var (by exact rfl) ?_
            refine (h.mono S.out0).isStr ?_
            refine ⟨_, rfl, ?_⟩
            refine iteb (fun c8 => ?_) (fun c8 => ?_)
            · obtain ⟨s4, rfl, rfl, hls4⟩ := h.str_of c8
              refine x_var (by exact rfl) ?_
              refine x_var (by exact rfl) ?_
              refine x_inS (ss := (["done", "never", "stopped", "late"] : List Str)) S 0 (by exact rfl) ?_
              exact k _ _ (by first | exact absurd h8 (by assumption) | exact absurd ((show V.str s = V.str "way" by assumption).symm.trans h8) (by decide +kernel) | exact part_one | exact part_nought | exact part_name (V.str.inj (by assumption)) | (rw [part_way (fun e => absurd (congrArg V.str e) (by assumption)) (V.str.inj (by assumption))] <;> first | exact in_noS (by assumption) | rfl) | (rw [part_word (fun e => absurd (congrArg V.str e) (by assumption)) (fun e => absurd (congrArg V.str e) (by assumption)) (V.str.inj (by assumption))] <;> first | exact in_noS (by assumption) | rfl) | (rw [part_num (fun e => absurd (congrArg V.str e) (by assumption)) (fun e => absurd (congrArg V.str e) (by assumption)) (fun e => absurd (congrArg V.str e) (by assumption))] <;> first | exact least_noI (by assumption) | rfl | exact least_any (V.str.inj (by assumption)) | exact least_one (fun e => absurd (congrArg V.str e) (by assumption)) | exact least_one (fun e => absurd (congrArg V.str e) (by assumption)))) S.out0
            · exact k _ _ (by first | exact absurd h8 (by assumption) | exact absurd ((show V.str s = V.str "way" by assumption).symm.trans h8) (by decide +kernel) | exact part_one | exact part_nought | exact part_name (V.str.inj (by assumption)) | (rw [part_way (fun e => absurd (congrArg V.str e) (by assumption)) (V.str.inj (by assumption))] <;> first | exact in_noS (by assumption) | rfl) | (rw [part_word (fun e => absurd (congrArg V.str e) (by assumption)) (fun e => absurd (congrArg V.str e) (by assumption)) (V.str.inj (by assumption))] <;> first | exact in_noS (by assumption) | rfl) | (rw [part_num (fun e => absurd (congrArg V.str e) (by assumption)) (fun e => absurd (congrArg V.str e) (by assumption)) (fun e => absurd (congrArg V.str e) (by assumption))] <;> first | exact least_noI (by assumption) | rfl | exact least_any (V.str.inj (by assumption)) | exact least_one (fun e => absurd (congrArg V.str e) (by assumption)) | exact least_one (fun e => absurd (congrArg V.str e) (by assumption)))) S.out0
      · obtain ⟨n8, n9⟩ := not_two c2
        try dsimp only [tMethS1, tMethKS1, WE, tSeq, tAsg, gName, tOp, tUn, tCB, tCons, tNil, tCall, tMethK1, tCallK1, tPar3, tRet, tRetN, tDrop, tTest, tB, tC, tNext, tAugS, tAug, sFld1, sFldAug1, tMeth1, tMake, tMakeK1, tSl, tPart, tNoPart, sDPut1, tDPop, tBM, tBM0, tPar, gSub, tChain, tNot, tNotV, tDG1, tDG2, tDNewT1, iKeys1, iEnum1, iList1, iTup1, iRng1, iRng2, List.set_cons_zero, List.set_cons_succ]
        refine x_if ?_
        try dsimp only [tMethS1, tMethKS1, WE, tSeq, tAsg, gName, tOp, tUn, tCB, tCons, tNil, tCall, tMethK1, tCallK1, tPar3, tRet, tRetN, tDrop, tTest, tB, tC, tNext, tAugS, tAug, sFld1, sFldAug1, tMeth1, tMake, tMakeK1, tSl, tPart, tNoPart, sDPut1, tDPop, tBM, tBM0, tPar, gSub, tChain, tNot, tNotV, tDG1, tDG2, tDNewT1, iKeys1, iEnum1, iList1, iTup1, iRng1, iRng2, List.set_cons_zero, List.set_cons_succ]
        refine x_or ?_
        try dsimp only [tMethS1, tMethKS1, WE, tSeq, tAsg, gName, tOp, tUn, tCB, tCons, tNil, tCall, tMethK1, tCallK1, tPar3, tRet, tRetN, tDrop, tTest, tB, tC, tNext, tAugS, tAug, sFld1, sFldAug1, tMeth1, tMake, tMakeK1, tSl, tPart, tNoPart, sDPut1, tDPop, tBM, tBM0, tPar, gSub, tChain, tNot, tNotV, tDG1, tDG2, tDNewT1, iKeys1, iEnum1, iList1, iTup1, iRng1, iRng2, List.set_cons_zero, List.set_cons_succ]
        refine x_var (by exact rfl) ?_
        refine (h.mono S.out0).isInt ?_
        refine ⟨_, rfl, ?_⟩
        refine itnb (fun c9 => ?_) (fun c9 => ?_)
        · refine iteT ?_
          try dsimp only [tMethS1, tMethKS1, WE, tSeq, tAsg, gName, tOp, tUn, tCB, tCons, tNil, tCall, tMethK1, tCallK1, tPar3, tRet, tRetN, tDrop, tTest, tB, tC, tNext, tAugS, tAug, sFld1, sFldAug1, tMeth1, tMake, tMakeK1, tSl, tPart, tNoPart, sDPut1, tDPop, tBM, tBM0, tPar, gSub, tChain, tNot, tNotV, tDG1, tDG2, tDNewT1, iKeys1, iEnum1, iList1, iTup1, iRng1, iRng2, List.set_cons_zero, List.set_cons_succ]
          exact k _ _ (by first | exact absurd h8 (by assumption) | exact absurd ((show V.str s = V.str "way" by assumption).symm.trans h8) (by decide +kernel) | exact part_one | exact part_nought | exact part_name (V.str.inj (by assumption)) | (rw [part_way (fun e => absurd (congrArg V.str e) (by assumption)) (V.str.inj (by assumption))] <;> first | exact in_noS (by assumption) | rfl) | (rw [part_word (fun e => absurd (congrArg V.str e) (by assumption)) (fun e => absurd (congrArg V.str e) (by assumption)) (V.str.inj (by assumption))] <;> first | exact in_noS (by assumption) | rfl) | (rw [part_num (fun e => absurd (congrArg V.str e) (by assumption)) (fun e => absurd (congrArg V.str e) (by assumption)) (fun e => absurd (congrArg V.str e) (by assumption))] <;> first | exact least_noI (by assumption) | rfl | exact least_any (V.str.inj (by assumption)) | exact least_one (fun e => absurd (congrArg V.str e) (by assumption)) | exact least_one (fun e => absurd (congrArg V.str e) (by assumption)))) S.out0
        · rcases h.int_of c9 with ⟨i1, rfl, rfl⟩ | ⟨b1, rfl, rfl⟩
          · refine x_var (by exact rfl) ?_
            refine x_isi ty_int (by decide +kernel : kitB "int" "bool" = some false) ?_
            refine ⟨_, rfl, ?_⟩
            refine iteF ?_
            try dsimp only [tMethS1, tMethKS1, WE, tSeq, tAsg, gName, tOp, tUn, tCB, tCons, tNil, tCall, tMethK1, tCallK1, tPar3, tRet, tRetN, tDrop, tTest, tB, tC, tNext, tAugS, tAug, sFld1, sFldAug1, tMeth1, tMake, tMakeK1, tSl, tPart, tNoPart, sDPut1, tDPop, tBM, tBM0, tPar, gSub, tChain, tNot, tNotV, tDG1, tDG2, tDNewT1, iKeys1, iEnum1, iList1, iTup1, iRng1, iRng2, List.set_cons_zero, List.set_cons_succ]
            refine x_orV ?_
            try dsimp only [tMethS1, tMethKS1, WE, tSeq, tAsg, gName, tOp, tUn, tCB, tCons, tNil, tCall, tMethK1, tCallK1, tPar3, tRet, tRetN, tDrop, tTest, tB, tC, tNext, tAugS, tAug, sFld1, sFldAug1, tMeth1, tMake, tMakeK1, tSl, tPart, tNoPart, sDPut1, tDPop, tBM, tBM0, tPar, gSub, tChain, tNot, tNotV, tDG1, tDG2, tDNewT1, iKeys1, iEnum1, iList1, iTup1, iRng1, iRng2, List.set_cons_zero, List.set_cons_succ]
            refine x_var (by exact rfl) ?_
            refine x_eq ?_
            refine ⟨_, rfl, ?_⟩
            refine ited (fun c10 => ?_) (fun c10 => ?_)
            · exact k _ _ (by first | exact absurd h8 (by assumption) | exact absurd ((show V.str s = V.str "way" by assumption).symm.trans h8) (by decide +kernel) | exact part_one | exact part_nought | exact part_name (V.str.inj (by assumption)) | (rw [part_way (fun e => absurd (congrArg V.str e) (by assumption)) (V.str.inj (by assumption))] <;> first | exact in_noS (by assumption) | rfl) | (rw [part_word (fun e => absurd (congrArg V.str e) (by assumption)) (fun e => absurd (congrArg V.str e) (by assumption)) (V.str.inj (by assumption))] <;> first | exact in_noS (by assumption) | rfl) | (rw [part_num (fun e => absurd (congrArg V.str e) (by assumption)) (fun e => absurd (congrArg V.str e) (by assumption)) (fun e => absurd (congrArg V.str e) (by assumption))] <;> first | exact least_noI (by assumption) | rfl | exact least_any (V.str.inj (by assumption)) | exact least_one (fun e => absurd (congrArg V.str e) (by assumption)) | exact least_one (fun e => absurd (congrArg V.str e) (by assumption)))) S.out0
            · refine x_var (by exact rfl) ?_
              refine x_disp S (fun rd1 H S => ?_)
              try dsimp only [tPairs, tC]
              refine x_dispE (kvs := [(.inr "one", .int 1), (.inr "nought", .int 0)]) S 0 (by exact (by exact rfl)) (by exact (by exact rfl)) (by exact Nat.le_of_ble_eq_true (by exact rfl)) (by exact rfl) (fun H S => ?_)
              simp only [List.set_cons_zero, List.set_cons_succ] at S
              refine x_var (by exact rfl) ?_
              rcases sort_two hs (by assumption) (by assumption) (by assumption) trivial trivial with rfl | rfl
              · refine x_dget (k := Sum.inr _) S 0 (by exact (by exact rfl)) (v := .int 1) (by kernel_rfl) ?_
                refine x_I0 ?_
                exact k _ _ (by first | exact absurd h8 (by assumption) | exact absurd ((show V.str s = V.str "way" by assumption).symm.trans h8) (by decide +kernel) | exact part_one | exact part_nought | exact part_name (V.str.inj (by assumption)) | (rw [part_way (fun e => absurd (congrArg V.str e) (by assumption)) (V.str.inj (by assumption))] <;> first | exact in_noS (by assumption) | rfl) | (rw [part_word (fun e => absurd (congrArg V.str e) (by assumption)) (fun e => absurd (congrArg V.str e) (by assumption)) (V.str.inj (by assumption))] <;> first | exact in_noS (by assumption) | rfl) | (rw [part_num (fun e => absurd (congrArg V.str e) (by assumption)) (fun e => absurd (congrArg V.str e) (by assumption)) (fun e => absurd (congrArg V.str e) (by assumption))] <;> first | exact least_noI (by assumption) | rfl | exact least_any (V.str.inj (by assumption)) | exact least_one (fun e => absurd (congrArg V.str e) (by assumption)) | exact least_one (fun e => absurd (congrArg V.str e) (by assumption)))) S.out0
              · refine x_dget (k := Sum.inr _) S 0 (by exact (by exact rfl)) (v := .int 0) (by kernel_rfl) ?_
                refine x_I0 ?_
                exact k _ _ (by first | exact absurd h8 (by assumption) | exact absurd ((show V.str s = V.str "way" by assumption).symm.trans h8) (by decide +kernel) | exact part_one | exact part_nought | exact part_name (V.str.inj (by assumption)) | (rw [part_way (fun e => absurd (congrArg V.str e) (by assumption)) (V.str.inj (by assumption))] <;> first | exact in_noS (by assumption) | rfl) | (rw [part_word (fun e => absurd (congrArg V.str e) (by assumption)) (fun e => absurd (congrArg V.str e) (by assumption)) (V.str.inj (by assumption))] <;> first | exact in_noS (by assumption) | rfl) | (rw [part_num (fun e => absurd (congrArg V.str e) (by assumption)) (fun e => absurd (congrArg V.str e) (by assumption)) (fun e => absurd (congrArg V.str e) (by assumption))] <;> first | exact least_noI (by assumption) | rfl | exact least_any (V.str.inj (by assumption)) | exact least_one (fun e => absurd (congrArg V.str e) (by assumption)) | exact least_one (fun e => absurd (congrArg V.str e) (by assumption)))) S.out0
          · refine x_var (by exact rfl) ?_
            refine x_isi ty_bl (by decide +kernel : kitB "bool" "bool" = some true) ?_
            refine ⟨_, rfl, ?_⟩
            refine iteT ?_
            try dsimp only [tMethS1, tMethKS1, WE, tSeq, tAsg, gName, tOp, tUn, tCB, tCons, tNil, tCall, tMethK1, tCallK1, tPar3, tRet, tRetN, tDrop, tTest, tB, tC, tNext, tAugS, tAug, sFld1, sFldAug1, tMeth1, tMake, tMakeK1, tSl, tPart, tNoPart, sDPut1, tDPop, tBM, tBM0, tPar, gSub, tChain, tNot, tNotV, tDG1, tDG2, tDNewT1, iKeys1, iEnum1, iList1, iTup1, iRng1, iRng2, List.set_cons_zero, List.set_cons_succ]
            exact k _ _ (by first | exact absurd h8 (by assumption) | exact absurd ((show V.str s = V.str "way" by assumption).symm.trans h8) (by decide +kernel) | exact part_one | exact part_nought | exact part_name (V.str.inj (by assumption)) | (rw [part_way (fun e => absurd (congrArg V.str e) (by assumption)) (V.str.inj (by assumption))] <;> first | exact in_noS (by assumption) | rfl) | (rw [part_word (fun e => absurd (congrArg V.str e) (by assumption)) (fun e => absurd (congrArg V.str e) (by assumption)) (V.str.inj (by assumption))] <;> first | exact in_noS (by assumption) | rfl) | (rw [part_num (fun e => absurd (congrArg V.str e) (by assumption)) (fun e => absurd (congrArg V.str e) (by assumption)) (fun e => absurd (congrArg V.str e) (by assumption))] <;> first | exact least_noI (by assumption) | rfl | exact least_any (V.str.inj (by assumption)) | exact least_one (fun e => absurd (congrArg V.str e) (by assumption)) | exact least_one (fun e => absurd (congrArg V.str e) (by assumption)))) S.out0
end
end G

set_option linter.all false
set_option maxRecDepth 100000
set_option maxHeartbeats 4000000
namespace G
open PySem PySem.Spec PyProof.Rows L2
theorem len_no {xs : List V} {ds : List PyData} {ss : List Str} (e : xs.length = ds.length) (h : ((xs.length : Nat) : Int) ≠ (((ss.map V.str).length : Nat) : Int)) : ds.length ≠ ss.length := by rw [List.length_map] at h; omega
theorem len_ok {xs : List V} {ds : List PyData} {ss : List Str} (e : xs.length = ds.length) (h : ((xs.length : Nat) : Int) = (((ss.map V.str).length : Nat) : Int)) : ds.length = ss.length := by rw [List.length_map] at h; omega
theorem len_no3 {a b c : V} {xs : List V} {ds : List PyData} {ss : List Str} (e : xs.length = ds.length) (h : (((a :: b :: c :: xs).length : Nat) : Int) ≠ 3 + (((ss.map V.str).length : Nat) : Int)) : ds.length ≠ ss.length := by rw [List.length_map] at h; simp only [List.length_cons] at h; omega
theorem len_ok3 {a b c : V} {xs : List V} {ds : List PyData} {ss : List Str} (e : xs.length = ds.length) (h : (((a :: b :: c :: xs).length : Nat) : Int) = 3 + (((ss.map V.str).length : Nat) : Int)) : ds.length = ss.length := by rw [List.length_map] at h; simp only [List.length_cons] at h; omega
theorem flat_bls : ∀ bs : List Bool, (bs.map V.bl).all flatV = true
  | [] => rfl
  | b :: bs => by rw [List.map_cons, List.all_cons, flat_bls bs]; rfl
theorem tab_none {K : PySem.W.Frag} {kvs : List (Str × V)} (h : Paired (fun (kv : Str × V) (ks : Str × List Str) => kv.1 = ks.1 ∧ ∃ a, kv.2 = .ref a ∧ KTup K a (ks.2.map V.str)) kvs sortsT) {k : Str} (e : lookS kvs k = none) : sortsOf k = none := by
  rcases look_pair h k with ⟨_, e'⟩ | ⟨_, _, e', _, _⟩
  · exact e'
  · rw [e] at e'; cases e'
theorem tab_some {K : PySem.W.Frag} {kvs : List (Str × V)} (h : Paired (fun (kv : Str × V) (ks : Str × List Str) => kv.1 = ks.1 ∧ ∃ a, kv.2 = .ref a ∧ KTup K a (ks.2.map V.str)) kvs sortsT) {k : Str} {v : V} (e : lookS kvs k = some v) : ∃ a ss, lookS kvs k = some (.ref a) ∧ sortsOf k = some ss ∧ KTup K a (ss.map V.str) := by
  rcases look_pair h k with ⟨e', _⟩ | h9
  · rw [e] at e'; cases e'
  · exact h9
section
variable {P : Program} {w : World} {K : PySem.W.Frag} {mg : Str → Option Value} {base : Heap}
abbrev s_is_frame : Stmt := (topS 8)
theorem sc_is_frame : FnScope ["thing", "kind", "to", "of", "rest", "part", "sort"] ["thing"] (defScope s_is_frame) := ⟨rfl, rfl, rfl, by decide +kernel, rfl, by decide +kernel, by decide +kernel⟩
theorem ok_is_frame {f : Addr} {fd : FuncData} (F : L2.Fun K "is_frame" "is_frame" s_is_frame f fd) (z_isinstance : mg "isinstance" = none) (z_tuple : mg "tuple" = none) (z_str : mg "str" = none) (z_len : mg "len" = none) (z_zip : mg "zip" = none) (z_all : mg "all" = none) (cname : Cal P w K mg base CX0 1 "is_name" (spPure isName)) (cpart : Cal P w K mg base CX0 2 "is_part" spPart) {PA : Addr} (g_PARTS : mg "PARTS" = some (.ref PA)) (hP : KParts K w PA) : FnOk P w K mg base CX0 3 f fd ["thing"] (spPure isFrame) := by
  refine F.ok sc_is_frame (fun vs H Q E h => ?_) (fun cdv A outer s H0 vs Q E hr h => ?_)
  · obtain ⟨v, d, rfl, h, k⟩ := h
    rfl
  · obtain ⟨v, d, rfl, h, k⟩ := h
    have hu := hu_of hr
    have S := Sep.of0 (H := H0)
    obtain ⟨kvP, hPt, hPp⟩ := hP
    refine ⟨_, pss_cons (ps_if ((pw_or (pt_not (pt_val (pe_callB (cl_isiK K) (by rfl) z_isinstance (by decide +kernel) (pa_cons (pv 0) (pa_cons (pe_bltn (v := .ty "tuple") (by rfl) z_tuple (by decide +kernel) rfl) pa_nil))))) (pw_or1 (pt_cmpR op_lt (pe_callB (cl_lenX K) (by rfl) z_len PySem.boot_len (pa_cons (pv 0) pa_nil)) (pe_int) (nomark _)))).pt) (pss_one (ps_ret (pe_bl))) (pss_nil))
      (pss_cons (ps_asg (pv 0) (pg_star K 3 rfl (pgs_cons (pg_name (i := 1) sc_is_frame.nd rfl (.inl rfl)) (pgs_cons (pg_name (i := 2) sc_is_frame.nd rfl (.inl rfl)) (pgs_cons (pg_name (i := 3) sc_is_frame.nd rfl (.inl rfl)) (pgs_star (pg_name (i := 4) sc_is_frame.nd rfl (.inl rfl))))))))
      (pss_cons (ps_if ((pw_or (pt_not (pt_val (pe_callB (cl_isiK K) (by rfl) z_isinstance (by decide +kernel) (pa_cons (pv 1) (pa_cons (pe_bltn (v := .ty "str") (by rfl) z_str (by decide +kernel) rfl) pa_nil))))) (pw_or (pt_cmpR (op_niTab K w) (pv 1) (pe_glob (v := .ref PA) (by rfl) g_PARTS rfl) rfl) (pw_or (pt_not (pt_val (pe_c cname hr (by decide) (by rfl) pass0 (pa_cons (pv 2) pa_nil)))) (pw_or (pt_not (pt_val (pe_c cname hr (by decide) (by rfl) pass0 (pa_cons (pv 3) pa_nil)))) (pw_or1 (pt_cmpR op_eq (pv 2) (pv 3) (nomark _))))))).pt) (pss_one (ps_ret (pe_bl))) (pss_nil))
      (pss_cons (ps_if (pt_cmpR op_ne (pe_callB (cl_lenX K) (by rfl) z_len PySem.boot_len (pa_cons (pv 4) pa_nil)) (pe_callB (cl_lenX K) (by rfl) z_len PySem.boot_len (pa_cons (pe_ix (ix_tab K w) (pe_glob (v := .ref PA) (by rfl) g_PARTS rfl) (pv 1) (fun _ _ => rfl)) pa_nil)) (nomark _)) (pss_one (ps_ret (pe_bl))) (pss_nil))
      (pss_one (ps_ret (pe_callB (cl_allK K rfl) (by rfl) z_all (by decide +kernel) (pa_cons (pe_lc (own := [("part", 5), ("sort", 6)]) (g := gTup K 2 (gCons (gName 5) (gCons (gName 6) gNil))) rfl sc_is_frame.nd (ZM.pi_zipM K true false (by rfl) z_zip (pa_cons (pv 4) (pa_cons (pe_ix (ix_tab K w) (pe_glob (v := .ref PA) (by rfl) g_PARTS rfl) (pv 1) (fun _ _ => rfl)) pa_nil))) (blkOk_by (N := ["thing", "kind", "to", "of", "rest", "part", "sort"]) (sc := defScope s_is_frame) (by decide +kernel)) (fun _ _ _ _ _ => pg_tupK K 2 rfl (pgs_cons (pg_name (i := 5) sc_is_frame.nd rfl (.inl rfl)) (pgs_cons (pg_name (i := 6) sc_is_frame.nd rfl (.inl rfl)) (pgs_nil)))) (fun _ _ _ _ _ => pts_nil) (fun _ _ _ _ _ => pe_c cpart hr (by decide) (by rfl) pass0 (pa_cons (pv 5) (pa_cons (pv 6) pa_nil)))) pa_nil))))))), ?_⟩
    rw [show start ["thing", "kind", "to", "of", "rest", "part", "sort"] [v] = [some (v), none, none, none, none, none, none] from rfl]
    try dsimp only [tMethS1, tMethKS1, WE, tSeq, tAsg, gName, tOp, tUn, tCB, tCons, tNil, tCall, tMethK1, tCallK1, tPar3, tRet, tRetN, tDrop, tTest, tB, tC, tNext, tAugS, tAug, sFld1, sFldAug1, tMeth1, tMake, tMakeK1, tSl, tPart, tNoPart, sDPut1, tDPop, tBM, tBM0, tPar, gSub, tChain, tNot, tNotV, tDG1, tDG2, tDNewT1, iKeys1, iEnum1, iList1, iTup1, iRng1, iRng2, List.set_cons_zero, List.set_cons_succ]
    refine x_if ?_
    try dsimp only [tMethS1, tMethKS1, WE, tSeq, tAsg, gName, tOp, tUn, tCB, tCons, tNil, tCall, tMethK1, tCallK1, tPar3, tRet, tRetN, tDrop, tTest, tB, tC, tNext, tAugS, tAug, sFld1, sFldAug1, tMeth1, tMake, tMakeK1, tSl, tPart, tNoPart, sDPut1, tDPop, tBM, tBM0, tPar, gSub, tChain, tNot, tNotV, tDG1, tDG2, tDNewT1, iKeys1, iEnum1, iList1, iTup1, iRng1, iRng2, List.set_cons_zero, List.set_cons_succ]
    refine x_or ?_
    try dsimp only [tMethS1, tMethKS1, WE, tSeq, tAsg, gName, tOp, tUn, tCB, tCons, tNil, tCall, tMethK1, tCallK1, tPar3, tRet, tRetN, tDrop, tTest, tB, tC, tNext, tAugS, tAug, sFld1, sFldAug1, tMeth1, tMake, tMakeK1, tSl, tPart, tNoPart, sDPut1, tDPop, tBM, tBM0, tPar, gSub, tChain, tNot, tNotV, tDG1, tDG2, tDNewT1, iKeys1, iEnum1, iList1, iTup1, iRng1, iRng2, List.set_cons_zero, List.set_cons_succ]
    refine x_var (by exact rfl) ?_
    refine (h.mono S.out0).isTup ?_
    refine ⟨_, rfl, ?_⟩
    refine itnb (fun c1 => ?_) (fun c1 => ?_)
    · refine iteT ?_
      try dsimp only [tMethS1, tMethKS1, WE, tSeq, tAsg, gName, tOp, tUn, tCB, tCons, tNil, tCall, tMethK1, tCallK1, tPar3, tRet, tRetN, tDrop, tTest, tB, tC, tNext, tAugS, tAug, sFld1, sFldAug1, tMeth1, tMake, tMakeK1, tSl, tPart, tNoPart, sDPut1, tDPop, tBM, tBM0, tPar, gSub, tChain, tNot, tNotV, tDG1, tDG2, tDNewT1, iKeys1, iEnum1, iList1, iTup1, iRng1, iRng2, List.set_cons_zero, List.set_cons_succ]
      exact k _ _ (by first | exact frame_noT (by assumption) | exact frame_lt (by assumption) (by assumption) | exact frame_noS (by assumption) | exact fr_none hso | exact fr_a hso (by assumption) | exact fr_b hso (by assumption) | exact fr_ab hso (by assumption) | exact fr_len hso (by assumption) | exact fr_all hso hna hnb (by assumption) hlen) S.out0
    · obtain ⟨a1, xs1, ds1, rfl, rfl, ha1, hds1⟩ := h.tup_of c1
      have hlds1 := hds1.len
      refine x_var (by exact rfl) ?_
      refine x_lenXt (.of (S.out0 _ _ ha1)) ?_
      refine x_I0 ?_
      refine ⟨_, rfl, ?_⟩
      refine ited (fun c2 => ?_) (fun c2 => ?_)
      · try dsimp only [tMethS1, tMethKS1, WE, tSeq, tAsg, gName, tOp, tUn, tCB, tCons, tNil, tCall, tMethK1, tCallK1, tPar3, tRet, tRetN, tDrop, tTest, tB, tC, tNext, tAugS, tAug, sFld1, sFldAug1, tMeth1, tMake, tMakeK1, tSl, tPart, tNoPart, sDPut1, tDPop, tBM, tBM0, tPar, gSub, tChain, tNot, tNotV, tDG1, tDG2, tDNewT1, iKeys1, iEnum1, iList1, iTup1, iRng1, iRng2, List.set_cons_zero, List.set_cons_succ]
        exact k _ _ (by first | exact frame_noT (by assumption) | exact frame_lt (by assumption) (by assumption) | exact frame_noS (by assumption) | exact fr_none hso | exact fr_a hso (by assumption) | exact fr_b hso (by assumption) | exact fr_ab hso (by assumption) | exact fr_len hso (by assumption) | exact fr_all hso hna hnb (by assumption) hlen) S.out0
      · obtain ⟨x1, xs2, d1, ds2, rfl, rfl, hd1, hds2⟩ := hds1.unc (by first | omega | (simp only [List.length_cons] at c2; omega))
        have hlds2 := hds2.len
        obtain ⟨x2, xs3, d2, ds3, rfl, rfl, hd2, hds3⟩ := hds2.unc (by first | omega | (simp only [List.length_cons] at c2; omega))
        have hlds3 := hds3.len
        obtain ⟨x3, xs4, d3, ds4, rfl, rfl, hd3, hds4⟩ := hds3.unc (by first | omega | (simp only [List.length_cons] at c2; omega))
        have hlds4 := hds4.len
        try dsimp only [tMethS1, tMethKS1, WE, tSeq, tAsg, gName, tOp, tUn, tCB, tCons, tNil, tCall, tMethK1, tCallK1, tPar3, tRet, tRetN, tDrop, tTest, tB, tC, tNext, tAugS, tAug, sFld1, sFldAug1, tMeth1, tMake, tMakeK1, tSl, tPart, tNoPart, sDPut1, tDPop, tBM, tBM0, tPar, gSub, tChain, tNot, tNotV, tDG1, tDG2, tDNewT1, iKeys1, iEnum1, iList1, iTup1, iRng1, iRng2, List.set_cons_zero, List.set_cons_succ]
        refine x_var (by exact rfl) ?_
        refine x_star S (.of (S.out0 _ _ ha1)) (by first | exact Nat.zero_le _ | (simp only [List.length_cons]; omega)) (fun rs1 H S => ?_)
        simp only [List.drop_succ_cons, List.drop_zero] at S
        refine ⟨_, _, rfl, _, _, rfl, _, _, rfl, _, _, rfl, rfl, ?_⟩
        try dsimp only [tMethS1, tMethKS1, WE, tSeq, tAsg, gName, tOp, tUn, tCB, tCons, tNil, tCall, tMethK1, tCallK1, tPar3, tRet, tRetN, tDrop, tTest, tB, tC, tNext, tAugS, tAug, sFld1, sFldAug1, tMeth1, tMake, tMakeK1, tSl, tPart, tNoPart, sDPut1, tDPop, tBM, tBM0, tPar, gSub, tChain, tNot, tNotV, tDG1, tDG2, tDNewT1, iKeys1, iEnum1, iList1, iTup1, iRng1, iRng2, List.set_cons_zero, List.set_cons_succ]
        refine x_if ?_
        try dsimp only [tMethS1, tMethKS1, WE, tSeq, tAsg, gName, tOp, tUn, tCB, tCons, tNil, tCall, tMethK1, tCallK1, tPar3, tRet, tRetN, tDrop, tTest, tB, tC, tNext, tAugS, tAug, sFld1, sFldAug1, tMeth1, tMake, tMakeK1, tSl, tPart, tNoPart, sDPut1, tDPop, tBM, tBM0, tPar, gSub, tChain, tNot, tNotV, tDG1, tDG2, tDNewT1, iKeys1, iEnum1, iList1, iTup1, iRng1, iRng2, List.set_cons_zero, List.set_cons_succ]
        refine x_or ?_
        try dsimp only [tMethS1, tMethKS1, WE, tSeq, tAsg, gName, tOp, tUn, tCB, tCons, tNil, tCall, tMethK1, tCallK1, tPar3, tRet, tRetN, tDrop, tTest, tB, tC, tNext, tAugS, tAug, sFld1, sFldAug1, tMeth1, tMake, tMakeK1, tSl, tPart, tNoPart, sDPut1, tDPop, tBM, tBM0, tPar, gSub, tChain, tNot, tNotV, tDG1, tDG2, tDNewT1, iKeys1, iEnum1, iList1, iTup1, iRng1, iRng2, List.set_cons_zero, List.set_cons_succ]
        refine x_var (by exact rfl) ?_
        refine (hd1.mono S.out0).isStr ?_
        refine ⟨_, rfl, ?_⟩
        refine itnb (fun c3 => ?_) (fun c3 => ?_)
        · refine iteT ?_
          try dsimp only [tMethS1, tMethKS1, WE, tSeq, tAsg, gName, tOp, tUn, tCB, tCons, tNil, tCall, tMethK1, tCallK1, tPar3, tRet, tRetN, tDrop, tTest, tB, tC, tNext, tAugS, tAug, sFld1, sFldAug1, tMeth1, tMake, tMakeK1, tSl, tPart, tNoPart, sDPut1, tDPop, tBM, tBM0, tPar, gSub, tChain, tNot, tNotV, tDG1, tDG2, tDNewT1, iKeys1, iEnum1, iList1, iTup1, iRng1, iRng2, List.set_cons_zero, List.set_cons_succ]
          exact k _ _ (by first | exact frame_noT (by assumption) | exact frame_lt (by assumption) (by assumption) | exact frame_noS (by assumption) | exact fr_none hso | exact fr_a hso (by assumption) | exact fr_b hso (by assumption) | exact fr_ab hso (by assumption) | exact fr_len hso (by assumption) | exact fr_all hso hna hnb (by assumption) hlen) S.out0
        · obtain ⟨s1, rfl, rfl, hls1⟩ := hd1.str_of c3
          refine x_or ?_
          try dsimp only [tMethS1, tMethKS1, WE, tSeq, tAsg, gName, tOp, tUn, tCB, tCons, tNil, tCall, tMethK1, tCallK1, tPar3, tRet, tRetN, tDrop, tTest, tB, tC, tNext, tAugS, tAug, sFld1, sFldAug1, tMeth1, tMake, tMakeK1, tSl, tPart, tNoPart, sDPut1, tDPop, tBM, tBM0, tPar, gSub, tChain, tNot, tNotV, tDG1, tDG2, tDNewT1, iKeys1, iEnum1, iList1, iTup1, iRng1, iRng2, List.set_cons_zero, List.set_cons_succ]
          refine x_var (by exact rfl) ?_
          refine x_niTab hPt ?_
          refine ⟨_, rfl, ?_⟩
          refine iteNone (fun c4 => ?_) (fun wc4 c4 => ?_)
          · have hso := tab_none hPp c4
            refine iteT ?_
            try dsimp only [tMethS1, tMethKS1, WE, tSeq, tAsg, gName, tOp, tUn, tCB, tCons, tNil, tCall, tMethK1, tCallK1, tPar3, tRet, tRetN, tDrop, tTest, tB, tC, tNext, tAugS, tAug, sFld1, sFldAug1, tMeth1, tMake, tMakeK1, tSl, tPart, tNoPart, sDPut1, tDPop, tBM, tBM0, tPar, gSub, tChain, tNot, tNotV, tDG1, tDG2, tDNewT1, iKeys1, iEnum1, iList1, iTup1, iRng1, iRng2, List.set_cons_zero, List.set_cons_succ]
            exact k _ _ (by first | exact frame_noT (by assumption) | exact frame_lt (by assumption) (by assumption) | exact frame_noS (by assumption) | exact fr_none hso | exact fr_a hso (by assumption) | exact fr_b hso (by assumption) | exact fr_ab hso (by assumption) | exact fr_len hso (by assumption) | exact fr_all hso hna hnb (by assumption) hlen) S.out0
          · obtain ⟨ka, ss, hkv, hso, hkt⟩ := tab_some hPp c4
            refine x_or ?_
            try dsimp only [tMethS1, tMethKS1, WE, tSeq, tAsg, gName, tOp, tUn, tCB, tCons, tNil, tCall, tMethK1, tCallK1, tPar3, tRet, tRetN, tDrop, tTest, tB, tC, tNext, tAugS, tAug, sFld1, sFldAug1, tMeth1, tMake, tMakeK1, tSl, tPart, tNoPart, sDPut1, tDPop, tBM, tBM0, tPar, gSub, tChain, tNot, tNotV, tDG1, tDG2, tDNewT1, iKeys1, iEnum1, iList1, iTup1, iRng1, iRng2, List.set_cons_zero, List.set_cons_succ]
            refine x_var (by exact rfl) ?_
            refine c_pure S (hd2.mono S.out0) (fun H S => ?_)
            refine ⟨_, rfl, ?_⟩
            refine itnb (fun c5 => ?_) (fun c5 => ?_)
            · refine iteT ?_
              try dsimp only [tMethS1, tMethKS1, WE, tSeq, tAsg, gName, tOp, tUn, tCB, tCons, tNil, tCall, tMethK1, tCallK1, tPar3, tRet, tRetN, tDrop, tTest, tB, tC, tNext, tAugS, tAug, sFld1, sFldAug1, tMeth1, tMake, tMakeK1, tSl, tPart, tNoPart, sDPut1, tDPop, tBM, tBM0, tPar, gSub, tChain, tNot, tNotV, tDG1, tDG2, tDNewT1, iKeys1, iEnum1, iList1, iTup1, iRng1, iRng2, List.set_cons_zero, List.set_cons_succ]
              exact k _ _ (by first | exact frame_noT (by assumption) | exact frame_lt (by assumption) (by assumption) | exact frame_noS (by assumption) | exact fr_none hso | exact fr_a hso (by assumption) | exact fr_b hso (by assumption) | exact fr_ab hso (by assumption) | exact fr_len hso (by assumption) | exact fr_all hso hna hnb (by assumption) hlen) S.out0
            · obtain ⟨s2, rfl, rfl, hls2⟩ := hd2.name c5
              have hna := c5
              refine x_or ?_
              try dsimp only [tMethS1, tMethKS1, WE, tSeq, tAsg, gName, tOp, tUn, tCB, tCons, tNil, tCall, tMethK1, tCallK1, tPar3, tRet, tRetN, tDrop, tTest, tB, tC, tNext, tAugS, tAug, sFld1, sFldAug1, tMeth1, tMake, tMakeK1, tSl, tPart, tNoPart, sDPut1, tDPop, tBM, tBM0, tPar, gSub, tChain, tNot, tNotV, tDG1, tDG2, tDNewT1, iKeys1, iEnum1, iList1, iTup1, iRng1, iRng2, List.set_cons_zero, List.set_cons_succ]
              refine x_var (by exact rfl) ?_
              refine c_pure S (hd3.mono S.out0) (fun H S => ?_)
              refine ⟨_, rfl, ?_⟩
              refine itnb (fun c6 => ?_) (fun c6 => ?_)
              · refine iteT ?_
                try dsimp only [tMethS1, tMethKS1, WE, tSeq, tAsg, gName, tOp, tUn, tCB, tCons, tNil, tCall, tMethK1, tCallK1, tPar3, tRet, tRetN, tDrop, tTest, tB, tC, tNext, tAugS, tAug, sFld1, sFldAug1, tMeth1, tMake, tMakeK1, tSl, tPart, tNoPart, sDPut1, tDPop, tBM, tBM0, tPar, gSub, tChain, tNot, tNotV, tDG1, tDG2, tDNewT1, iKeys1, iEnum1, iList1, iTup1, iRng1, iRng2, List.set_cons_zero, List.set_cons_succ]
                exact k _ _ (by first | exact frame_noT (by assumption) | exact frame_lt (by assumption) (by assumption) | exact frame_noS (by assumption) | exact fr_none hso | exact fr_a hso (by assumption) | exact fr_b hso (by assumption) | exact fr_ab hso (by assumption) | exact fr_len hso (by assumption) | exact fr_all hso hna hnb (by assumption) hlen) S.out0
              · obtain ⟨s3, rfl, rfl, hls3⟩ := hd3.name c6
                have hnb := c6
                refine x_var (by exact rfl) ?_
                refine x_var (by exact rfl) ?_
                refine x_eq ?_
                refine ⟨_, rfl, ?_⟩
                refine ited (fun c7 => ?_) (fun c7 => ?_)
                · try dsimp only [tMethS1, tMethKS1, WE, tSeq, tAsg, gName, tOp, tUn, tCB, tCons, tNil, tCall, tMethK1, tCallK1, tPar3, tRet, tRetN, tDrop, tTest, tB, tC, tNext, tAugS, tAug, sFld1, sFldAug1, tMeth1, tMake, tMakeK1, tSl, tPart, tNoPart, sDPut1, tDPop, tBM, tBM0, tPar, gSub, tChain, tNot, tNotV, tDG1, tDG2, tDNewT1, iKeys1, iEnum1, iList1, iTup1, iRng1, iRng2, List.set_cons_zero, List.set_cons_succ]
                  exact k _ _ (by first | exact frame_noT (by assumption) | exact frame_lt (by assumption) (by assumption) | exact frame_noS (by assumption) | exact fr_none hso | exact fr_a hso (by assumption) | exact fr_b hso (by assumption) | exact fr_ab hso (by assumption) | exact fr_len hso (by assumption) | exact fr_all hso hna hnb (by assumption) hlen) S.out0
                · try dsimp only [tMethS1, tMethKS1, WE, tSeq, tAsg, gName, tOp, tUn, tCB, tCons, tNil, tCall, tMethK1, tCallK1, tPar3, tRet, tRetN, tDrop, tTest, tB, tC, tNext, tAugS, tAug, sFld1, sFldAug1, tMeth1, tMake, tMakeK1, tSl, tPart, tNoPart, sDPut1, tDPop, tBM, tBM0, tPar, gSub, tChain, tNot, tNotV, tDG1, tDG2, tDNewT1, iKeys1, iEnum1, iList1, iTup1, iRng1, iRng2, List.set_cons_zero, List.set_cons_succ]
                  refine x_if ?_
                  try dsimp only [tMethS1, tMethKS1, WE, tSeq, tAsg, gName, tOp, tUn, tCB, tCons, tNil, tCall, tMethK1, tCallK1, tPar3, tRet, tRetN, tDrop, tTest, tB, tC, tNext, tAugS, tAug, sFld1, sFldAug1, tMeth1, tMake, tMakeK1, tSl, tPart, tNoPart, sDPut1, tDPop, tBM, tBM0, tPar, gSub, tChain, tNot, tNotV, tDG1, tDG2, tDNewT1, iKeys1, iEnum1, iList1, iTup1, iRng1, iRng2, List.set_cons_zero, List.set_cons_succ]
                  refine x_var (by exact rfl) ?_
                  refine x_lenXl (S.sl 0 (by exact rfl)) ?_
                  refine x_var (by exact rfl) ?_
                  refine x_ixTab hPt hkv ?_
                  refine x_lenXt (hkt.sq) ?_
                  refine x_ne ?_
                  refine ⟨_, rfl, ?_⟩
                  refine itne (fun c8 => ?_) (fun c8 => ?_)
                  · have hnl := len_no hlds4 c8
                    try dsimp only [tMethS1, tMethKS1, WE, tSeq, tAsg, gName, tOp, tUn, tCB, tCons, tNil, tCall, tMethK1, tCallK1, tPar3, tRet, tRetN, tDrop, tTest, tB, tC, tNext, tAugS, tAug, sFld1, sFldAug1, tMeth1, tMake, tMakeK1, tSl, tPart, tNoPart, sDPut1, tDPop, tBM, tBM0, tPar, gSub, tChain, tNot, tNotV, tDG1, tDG2, tDNewT1, iKeys1, iEnum1, iList1, iTup1, iRng1, iRng2, List.set_cons_zero, List.set_cons_succ]
                    exact k _ _ (by first | exact frame_noT (by assumption) | exact frame_lt (by assumption) (by assumption) | exact frame_noS (by assumption) | exact fr_none hso | exact fr_a hso (by assumption) | exact fr_b hso (by assumption) | exact fr_ab hso (by assumption) | exact fr_len hso (by assumption) | exact fr_all hso hna hnb (by assumption) hlen) S.out0
                  · have hlen := len_ok hlds4 c8
                    try dsimp only [tMethS1, tMethKS1, WE, tSeq, tAsg, gName, tOp, tUn, tCB, tCons, tNil, tCall, tMethK1, tCallK1, tPar3, tRet, tRetN, tDrop, tTest, tB, tC, tNext, tAugS, tAug, sFld1, sFldAug1, tMeth1, tMake, tMakeK1, tSl, tPart, tNoPart, sDPut1, tDPop, tBM, tBM0, tPar, gSub, tChain, tNot, tNotV, tDG1, tDG2, tDNewT1, iKeys1, iEnum1, iList1, iTup1, iRng1, iRng2, List.set_cons_zero, List.set_cons_succ]
                    refine x_lc ?_
                    try dsimp only [tMethS1, tMethKS1, tOp, tUn, tCB, tCons, tNil, tCall, tMethK1, tCallK1, tC, tMeth1, tMake, tMakeK1, tSl, tPart, tNoPart, tDPop, tChain, tNotV, tBM, tBM0, tDG1, tDG2, tDNewT1, iKeys1, iEnum1, iList1, iTup1, iRng1, iRng2]
                    try dsimp only [ZM.iZipM, tCons, tNil, tOp, tC, tSl, tPart, tNoPart]
                    refine x_var (by exact rfl) ?_
                    refine x_var (by exact rfl) ?_
                    refine x_ixTab hPt hkv ?_
                    refine ⟨_, _, _, _, rfl, (S.sl 0 rfl), (hkt.sq), ?_⟩
                    refine lcW (ZM.walk_zipM (c1 := true) (c2 := false) (xs := xs4) (ys := ss.map V.str) rfl) S (fun al1 H S => ⟨fun j H1 => Sep H0 [] H1 [(2, al1, .lst ((((ss.zip ds4).take j).map (fun p => isPart p.1 p.2)).map V.bl)), (2, rs1, .lst xs4)], ?_, ?_, ?_, ?_⟩)
                    · exact S.sub [0, 1]
                    · rintro j H hi S
                      exact ⟨S.sl 1 rfl, hkt.sq⟩
                    · rintro j y H H9 hi S hy
                      obtain ⟨T9, xj, yj, rfl, hT9, rfl, hxj, hyj⟩ := hy
                      have S := S.new hT9 (.tup [xj, yj])
                      obtain ⟨dj, hdj, hdx⟩ := hds4.get hxj
                      obtain ⟨sj, hsj, rfl⟩ := elem_of hyj
                      have hz := zip_get hsj hdj
                      have hsl := sorts_in hso _ (List.mem_of_getElem? hsj)
                      have hsn := sorts_len hso
                      have hjl := lt_of_get hsj
                      refine ⟨_, _, rfl, S.st 0 rfl, rfl, _, _, rfl, _, _, rfl, rfl, ?_⟩
                      refine ⟨rfl, ?_⟩
                      try dsimp only [tMethS1, tMethKS1, WE, wipe, tYes, tSeq, tAsg, gName, tOp, tUn, tCB, tCons, tNil, tCall, tMethK1, tCallK1, tPar3, tRet, tRetN, tDrop, tTest, tB, tC, tNext, tAugS, tAug, sFld1, sFldAug1, tMeth1, tMake, tMakeK1, tSl, tPart, tNoPart, sDPut1, tDPop, tBM, tBM0, tPar, gSub, tChain, tNot, tNotV, tDG1, tDG2, tDNewT1, iKeys1, iEnum1, iList1, iTup1, iRng1, iRng2, List.set_cons_zero, List.set_cons_succ]
                      refine iteT ?_
                      refine x_var (by exact rfl) ?_
                      refine x_var (by exact rfl) ?_
                      refine c_part S (hdx.mono S.out0) hsl (fun H S => ?_)
                      have S := S.sub [1, 2]
                      refine x_lcappB S 0 (by exact rfl) (by rw [List.length_map, List.length_take]; have := lt_of_get hsj; omega) (fun H S => ?_)
                      rw [all_take (p := (fun p => isPart p.1 p.2)) hz] at S
                      exact S
                    · rintro H S
                      rw [zip_all (xs := ss) (ys := ds4) (by rw [List.length_map, hlds4]; omega)] at S
                      refine x_all S 0 (by exact rfl) ?_
                      exact k _ _ (by first | exact frame_noT (by assumption) | exact frame_lt (by assumption) (by assumption) | exact frame_noS (by assumption) | exact fr_none hso | exact fr_a hso (by assumption) | exact fr_b hso (by assumption) | exact fr_ab hso (by assumption) | exact fr_len hso (by assumption) | exact fr_all hso hna hnb (by assumption) hlen) S.out0
end
end G

set_option linter.all false
set_option maxRecDepth 100000
set_option maxHeartbeats 4000000
namespace G
open PySem PySem.Spec PyProof.Rows L2
def kindKV (a0 a1 a2 a3 a4 a5 a6 a7 : Addr) : List (Key × V) := [((.inr ("clock" : Str) : Key), V.ref a0), ((.inr ("past" : Str) : Key), V.ref a1), ((.inr ("ask" : Str) : Key), V.ref a2), ((.inr ("stop" : Str) : Key), V.ref a3), ((.inr ("told" : Str) : Key), V.ref a4), ((.inr ("piece" : Str) : Key), V.ref a5), ((.inr ("shut" : Str) : Key), V.ref a6), ((.inr ("room" : Str) : Key), V.ref a7)]
def kindC (p a0 a1 a2 a3 a4 a5 a6 a7 : Addr) : List Cell := [(2, p, .dK (kindKV a0 a1 a2 a3 a4 a5 a6 a7)), (2, a0, HO.tup ((["any"] : List Str).map V.str)), (2, a1, HO.tup ((["one", "one"] : List Str).map V.str)), (2, a2, HO.tup ((["one", "one", "one", "name", "any", "any"] : List Str).map V.str)), (2, a3, HO.tup ((["one", "one", "one"] : List Str).map V.str)), (2, a4, HO.tup ((["one", "one", "word", "any", "nought"] : List Str).map V.str)), (2, a5, HO.tup ((["one", "one", "way", "nought", "any"] : List Str).map V.str)), (2, a6, HO.tup ((["one", "one", "nought"] : List Str).map V.str)), (2, a7, HO.tup ((["one", "one", "way", "nought", "nought"] : List Str).map V.str))]
def spKinds : Sp := fun vs H Q _ => vs = [] ∧ ∀ (p a0 a1 a2 a3 a4 a5 a6 a7 : Addr) (H' : Hp), Sep H [] H' (kindC p a0 a1 a2 a3 a4 a5 a6 a7) → Q (.ref p) H'
theorem kind_new {p a0 a1 a2 a3 a4 a5 a6 a7 : Addr} : ∀ c ∈ kindC p a0 a1 a2 a3 a4 a5 a6 a7, c.1 = 2 := by
  unfold kindC
  simp
theorem c_kinds {H0 H : Hp} {ft : List Addr} {l : List Cell} {Q : VK} {E : XK} (S : Sep H0 ft H l) (k : ∀ (p a0 a1 a2 a3 a4 a5 a6 a7 : Addr) (H' : Hp), Sep H0 ft H' (kindC p a0 a1 a2 a3 a4 a5 a6 a7 ++ l) → Q (.ref p) H') : spKinds [] H Q E :=
  ⟨rfl, fun p a0 a1 a2 a3 a4 a5 a6 a7 H' S' => k p a0 a1 a2 a3 a4 a5 a6 a7 H' (S.callN S' kind_new)⟩
theorem kind_get {p a0 a1 a2 a3 a4 a5 a6 a7 : Addr} {k : Str} : (valV (kindKV a0 a1 a2 a3 a4 a5 a6 a7) (.inr k : Key) = none ∧ sortsOf k = none) ∨ ∃ ss a, valV (kindKV a0 a1 a2 a3 a4 a5 a6 a7) (.inr k : Key) = some (.ref a) ∧ sortsOf k = some ss ∧ (2, a, HO.tup (ss.map V.str)) ∈ kindC p a0 a1 a2 a3 a4 a5 a6 a7 := by
  by_cases h0 : k = "clock"
  · subst h0; exact .inr ⟨["any"], a0, by kernel_rfl, by decide +kernel, by simp [kindC]⟩
  by_cases h1 : k = "past"
  · subst h1; exact .inr ⟨["one", "one"], a1, by kernel_rfl, by decide +kernel, by simp [kindC]⟩
  by_cases h2 : k = "ask"
  · subst h2; exact .inr ⟨["one", "one", "one", "name", "any", "any"], a2, by kernel_rfl, by decide +kernel, by simp [kindC]⟩
  by_cases h3 : k = "stop"
  · subst h3; exact .inr ⟨["one", "one", "one"], a3, by kernel_rfl, by decide +kernel, by simp [kindC]⟩
  by_cases h4 : k = "told"
  · subst h4; exact .inr ⟨["one", "one", "word", "any", "nought"], a4, by kernel_rfl, by decide +kernel, by simp [kindC]⟩
  by_cases h5 : k = "piece"
  · subst h5; exact .inr ⟨["one", "one", "way", "nought", "any"], a5, by kernel_rfl, by decide +kernel, by simp [kindC]⟩
  by_cases h6 : k = "shut"
  · subst h6; exact .inr ⟨["one", "one", "nought"], a6, by kernel_rfl, by decide +kernel, by simp [kindC]⟩
  by_cases h7 : k = "room"
  · subst h7; exact .inr ⟨["one", "one", "way", "nought", "nought"], a7, by kernel_rfl, by decide +kernel, by simp [kindC]⟩
  refine .inl ⟨?_, ?_⟩
  · unfold valV kindKV
    simp [Ne.symm h0, Ne.symm h1, Ne.symm h2, Ne.symm h3, Ne.symm h4, Ne.symm h5, Ne.symm h6, Ne.symm h7]
  · unfold sortsOf lookS sortsT
    simp [Ne.symm h0, Ne.symm h1, Ne.symm h2, Ne.symm h3, Ne.symm h4, Ne.symm h5, Ne.symm h6, Ne.symm h7]
section
variable {P : Program} {w : World} {K : PySem.W.Frag} {mg : Str → Option Value} {base : Heap}
abbrev s_law_kinds : Stmt := (topS 13)
theorem sc_law_kinds : FnScope [] [] (defScope s_law_kinds) := ⟨rfl, rfl, rfl, by decide +kernel, rfl, by decide +kernel, by decide +kernel⟩
theorem ok_law_kinds {f : Addr} {fd : FuncData} (F : L2.Fun K "_law_kinds" "_law_kinds" s_law_kinds f fd) : FnOk P w K mg base CX0 1 f fd [] spKinds := by
  refine F.ok sc_law_kinds (fun vs H Q E h => ?_) (fun cdv A outer s H0 vs Q E hr h => ?_)
  · obtain ⟨rfl, k⟩ := h
    rfl
  · obtain ⟨rfl, k⟩ := h
    have hu := hu_of hr
    have S := Sep.of0 (H := H0)
    refine ⟨_, pss_one (ps_ret (pe_disp (pps_cons pe_str (pe_tup1 (pa_cons (pe_str) pa_nil)) (pps_cons pe_str (pe_tup1 (pa_cons (pe_str) (pa_cons (pe_str) pa_nil))) (pps_cons pe_str (pe_tup1 (pa_cons (pe_str) (pa_cons (pe_str) (pa_cons (pe_str) (pa_cons (pe_str) (pa_cons (pe_str) (pa_cons (pe_str) pa_nil))))))) (pps_cons pe_str (pe_tup1 (pa_cons (pe_str) (pa_cons (pe_str) (pa_cons (pe_str) pa_nil)))) (pps_cons pe_str (pe_tup1 (pa_cons (pe_str) (pa_cons (pe_str) (pa_cons (pe_str) (pa_cons (pe_str) (pa_cons (pe_str) pa_nil)))))) (pps_cons pe_str (pe_tup1 (pa_cons (pe_str) (pa_cons (pe_str) (pa_cons (pe_str) (pa_cons (pe_str) (pa_cons (pe_str) pa_nil)))))) (pps_cons pe_str (pe_tup1 (pa_cons (pe_str) (pa_cons (pe_str) (pa_cons (pe_str) pa_nil)))) (pps_cons pe_str (pe_tup1 (pa_cons (pe_str) (pa_cons (pe_str) (pa_cons (pe_str) (pa_cons (pe_str) (pa_cons (pe_str) pa_nil)))))) (pps_nil))))))))) rfl rfl (by simp) (by decide))), ?_⟩
    rw [show start [] [] = [] from rfl]
    try dsimp only [tSeq, tRet]
    refine x_disp S (fun p H S => ?_)
    try dsimp only [tPairs, tC, tCB, tCons, tNil]
    refine x_tup S (by exact Nat.le_of_ble_eq_true (by exact rfl)) (fun a0 H S => ?_)
    try dsimp only [tPairs, tC, tCB, tCons, tNil]
    refine x_tup S (by exact Nat.le_of_ble_eq_true (by exact rfl)) (fun a1 H S => ?_)
    try dsimp only [tPairs, tC, tCB, tCons, tNil]
    refine x_tup S (by exact Nat.le_of_ble_eq_true (by exact rfl)) (fun a2 H S => ?_)
    try dsimp only [tPairs, tC, tCB, tCons, tNil]
    refine x_tup S (by exact Nat.le_of_ble_eq_true (by exact rfl)) (fun a3 H S => ?_)
    try dsimp only [tPairs, tC, tCB, tCons, tNil]
    refine x_tup S (by exact Nat.le_of_ble_eq_true (by exact rfl)) (fun a4 H S => ?_)
    try dsimp only [tPairs, tC, tCB, tCons, tNil]
    refine x_tup S (by exact Nat.le_of_ble_eq_true (by exact rfl)) (fun a5 H S => ?_)
    try dsimp only [tPairs, tC, tCB, tCons, tNil]
    refine x_tup S (by exact Nat.le_of_ble_eq_true (by exact rfl)) (fun a6 H S => ?_)
    try dsimp only [tPairs, tC, tCB, tCons, tNil]
    refine x_tup S (by exact Nat.le_of_ble_eq_true (by exact rfl)) (fun a7 H S => ?_)
    try dsimp only [tPairs, tC, tCB, tCons, tNil]
    refine x_dispE (kvs := kindKV a0 a1 a2 a3 a4 a5 a6 a7) (kvs' := kindKV a0 a1 a2 a3 a4 a5 a6 a7) S 8 (by exact (by exact rfl)) (by exact (by exact rfl)) (by exact Nat.le_of_ble_eq_true (by exact rfl)) (by kernel_rfl) (fun H S => ?_)
    exact k p a0 a1 a2 a3 a4 a5 a6 a7 H (S.sub [8, 7, 6, 5, 4, 3, 2, 1, 0])
end
theorem kg_none {kvs : List (Key × V)} {k : Str} {C : List Cell} (h : (valV kvs (.inr k : Key) = none ∧ sortsOf k = none) ∨ ∃ ss a, valV kvs (.inr k : Key) = some (.ref a) ∧ sortsOf k = some ss ∧ (2, a, HO.tup (ss.map V.str)) ∈ C) (e : valV kvs (.inr k : Key) = none) : sortsOf k = none := by
  rcases h with ⟨_, h⟩ | ⟨_, _, h, _⟩
  · exact h
  · rw [e] at h; cases h
theorem kg_some {kvs : List (Key × V)} {k : Str} {C : List Cell} {v : V} (h : (valV kvs (.inr k : Key) = none ∧ sortsOf k = none) ∨ ∃ ss a, valV kvs (.inr k : Key) = some (.ref a) ∧ sortsOf k = some ss ∧ (2, a, HO.tup (ss.map V.str)) ∈ C) (e : valV kvs (.inr k : Key) = some v) : ∃ ss a, v = .ref a ∧ sortsOf k = some ss ∧ (2, a, HO.tup (ss.map V.str)) ∈ C := by
  rcases h with ⟨h, _⟩ | ⟨ss, a, h, h2, h3⟩
  · rw [e] at h; cases h
  · rw [e] at h; cases h; exact ⟨ss, a, rfl, h2, h3⟩
section
variable {P : Program} {w : World} {K : PySem.W.Frag} {mg : Str → Option Value} {base : Heap}
abbrev s_law_is_frame : Stmt := (topS 21)
theorem sc_law_is_frame : FnScope ["_law_matter", "_law_sorts", "_law_part_here", "_law_sort"] ["_law_matter"] (defScope s_law_is_frame) := ⟨rfl, rfl, rfl, by decide +kernel, rfl, by decide +kernel, by decide +kernel⟩
theorem ok_law_is_frame {f : Addr} {fd : FuncData} (F : L2.Fun K "_law_is_frame" "_law_is_frame" s_law_is_frame f fd) (z_isinstance : mg "isinstance" = none) (z_tuple : mg "tuple" = none) (z_str : mg "str" = none) (z_len : mg "len" = none) (z_zip : mg "zip" = none) (cname : Cal P w K mg base CX0 1 "_law_is_name" (spPure isName)) (cpart : Cal P w K mg base CX0 2 "_law_is_part" spPart) (ckinds : Cal P w K mg base CX0 1 "_law_kinds" spKinds) : FnOk P w K mg base CX0 3 f fd ["_law_matter"] (spPure isFrame) := by
  refine F.ok sc_law_is_frame (fun vs H Q E h => ?_) (fun cdv A outer s H0 vs Q E hr h => ?_)
  · obtain ⟨v, d, rfl, h, k⟩ := h
    rfl
  · obtain ⟨v, d, rfl, h, k⟩ := h
    have hu := hu_of hr
    have S := Sep.of0 (H := H0)
    refine ⟨_, pss_cons (ps_if ((pw_or (pt_not (pt_val (pe_callB (cl_isiK K) (by rfl) z_isinstance (by decide +kernel) (pa_cons (pv 0) (pa_cons (pe_bltn (v := .ty "tuple") (by rfl) z_tuple (by decide +kernel) rfl) pa_nil))))) (pw_or (pt_cmpR op_lt (pe_callB (cl_lenX K) (by rfl) z_len PySem.boot_len (pa_cons (pv 0) pa_nil)) (pe_int) (nomark _)) (pw_or1 (pt_not (pt_val (pe_callB (cl_isiK K) (by rfl) z_isinstance (by decide +kernel) (pa_cons (pe_ix (ix_tupK K) (pv 0) (pe_int) (fun _ _ => rfl)) (pa_cons (pe_bltn (v := .ty "str") (by rfl) z_str (by decide +kernel) rfl) pa_nil)))))))).pt) (pss_one (ps_ret (pe_bl))) (pss_nil))
      (pss_cons (ps_set (i := 1) sc_law_is_frame.nd rfl (.inl rfl) (pe_dg2 hu (pe_c0 ckinds hr (by decide) (by rfl) pass0) (pe_ix (ix_tupK K) (pv 0) (pe_int) (fun _ _ => rfl)) (pe_non) ⟨rfl, rfl, rfl, rfl⟩))
      (pss_cons (ps_if ((pw_or (pt_cmpR op_isN (pv 1) (pe_non) (nomark _)) (pw_or1 (pt_cmpR op_ne (pe_callB (cl_lenX K) (by rfl) z_len PySem.boot_len (pa_cons (pv 0) pa_nil)) (pe_op op_add (pe_int) (pe_callB (cl_lenX K) (by rfl) z_len PySem.boot_len (pa_cons (pv 1) pa_nil))) (nomark _)))).pt) (pss_one (ps_ret (pe_bl))) (pss_nil))
      (pss_cons (ps_if ((pw_or (pt_not (pt_val (pe_c cname hr (by decide) (by rfl) pass0 (pa_cons (pe_ix (ix_tupK K) (pv 0) (pe_int) (fun _ _ => rfl)) pa_nil)))) (pw_or (pt_not (pt_val (pe_c cname hr (by decide) (by rfl) pass0 (pa_cons (pe_ix (ix_tupK K) (pv 0) (pe_int) (fun _ _ => rfl)) pa_nil)))) (pw_or1 (pt_cmpR op_eq (pe_ix (ix_tupK K) (pv 0) (pe_int) (fun _ _ => rfl)) (pe_ix (ix_tupK K) (pv 0) (pe_int) (fun _ _ => rfl)) (nomark _))))).pt) (pss_one (ps_ret (pe_bl))) (pss_nil))
      (pss_one (ps_ret (pe_cmpR (op_niK K) (pe_bl) (pe_lc (own := [("_law_part_here", 2), ("_law_sort", 3)]) (g := gTup K 2 (gCons (gName 2) (gCons (gName 3) gNil))) rfl sc_law_is_frame.nd (ZM.pi_zipM K false false (by rfl) z_zip (pa_cons (pe_slice (sl_tupAK K) (pv 0) (po_some (pe_int)) (po_none)) (pa_cons (pv 1) pa_nil))) (blkOk_by (N := ["_law_matter", "_law_sorts", "_law_part_here", "_law_sort"]) (sc := defScope s_law_is_frame) (by decide +kernel)) (fun _ _ _ _ _ => pg_tupK K 2 rfl (pgs_cons (pg_name (i := 2) sc_law_is_frame.nd rfl (.inl rfl)) (pgs_cons (pg_name (i := 3) sc_law_is_frame.nd rfl (.inl rfl)) (pgs_nil)))) (fun _ _ _ _ _ => pts_nil) (fun _ _ _ _ _ => pe_c cpart hr (by decide) (by rfl) pass0 (pa_cons (pv 2) (pa_cons (pv 3) pa_nil)))) rfl)))))), ?_⟩
    rw [show start ["_law_matter", "_law_sorts", "_law_part_here", "_law_sort"] [v] = [some (v), none, none, none] from rfl]
    try dsimp only [tMethS1, tMethKS1, WE, tSeq, tAsg, gName, tOp, tUn, tCB, tCons, tNil, tCall, tMethK1, tCallK1, tPar3, tRet, tRetN, tDrop, tTest, tB, tC, tNext, tAugS, tAug, sFld1, sFldAug1, tMeth1, tMake, tMakeK1, tSl, tPart, tNoPart, sDPut1, tDPop, tBM, tBM0, tPar, gSub, tChain, tNot, tNotV, tDG1, tDG2, tDNewT1, iKeys1, iEnum1, iList1, iTup1, iRng1, iRng2, List.set_cons_zero, List.set_cons_succ]
    refine x_if ?_
    try dsimp only [tMethS1, tMethKS1, WE, tSeq, tAsg, gName, tOp, tUn, tCB, tCons, tNil, tCall, tMethK1, tCallK1, tPar3, tRet, tRetN, tDrop, tTest, tB, tC, tNext, tAugS, tAug, sFld1, sFldAug1, tMeth1, tMake, tMakeK1, tSl, tPart, tNoPart, sDPut1, tDPop, tBM, tBM0, tPar, gSub, tChain, tNot, tNotV, tDG1, tDG2, tDNewT1, iKeys1, iEnum1, iList1, iTup1, iRng1, iRng2, List.set_cons_zero, List.set_cons_succ]
    refine x_or ?_
    try dsimp only [tMethS1, tMethKS1, WE, tSeq, tAsg, gName, tOp, tUn, tCB, tCons, tNil, tCall, tMethK1, tCallK1, tPar3, tRet, tRetN, tDrop, tTest, tB, tC, tNext, tAugS, tAug, sFld1, sFldAug1, tMeth1, tMake, tMakeK1, tSl, tPart, tNoPart, sDPut1, tDPop, tBM, tBM0, tPar, gSub, tChain, tNot, tNotV, tDG1, tDG2, tDNewT1, iKeys1, iEnum1, iList1, iTup1, iRng1, iRng2, List.set_cons_zero, List.set_cons_succ]
    refine x_var (by exact rfl) ?_
    refine (h.mono S.out0).isTup ?_
    refine ⟨_, rfl, ?_⟩
    refine itnb (fun c1 => ?_) (fun c1 => ?_)
    · refine iteT ?_
      try dsimp only [tMethS1, tMethKS1, WE, tSeq, tAsg, gName, tOp, tUn, tCB, tCons, tNil, tCall, tMethK1, tCallK1, tPar3, tRet, tRetN, tDrop, tTest, tB, tC, tNext, tAugS, tAug, sFld1, sFldAug1, tMeth1, tMake, tMakeK1, tSl, tPart, tNoPart, sDPut1, tDPop, tBM, tBM0, tPar, gSub, tChain, tNot, tNotV, tDG1, tDG2, tDNewT1, iKeys1, iEnum1, iList1, iTup1, iRng1, iRng2, List.set_cons_zero, List.set_cons_succ]
      exact k _ _ (by first | exact frame_noT (by assumption) | exact frame_lt (by assumption) (by assumption) | exact frame_noS (by assumption) | exact fr_none hso | exact fr_a hso (by assumption) | exact fr_b hso (by assumption) | exact fr_ab hso (by assumption) | exact fr_len hso (by assumption) | exact fr_all hso hna hnb (by assumption) hlen) S.out0
    · obtain ⟨a1, xs1, ds1, rfl, rfl, ha1, hds1⟩ := h.tup_of c1
      have hlds1 := hds1.len
      refine x_or ?_
      try dsimp only [tMethS1, tMethKS1, WE, tSeq, tAsg, gName, tOp, tUn, tCB, tCons, tNil, tCall, tMethK1, tCallK1, tPar3, tRet, tRetN, tDrop, tTest, tB, tC, tNext, tAugS, tAug, sFld1, sFldAug1, tMeth1, tMake, tMakeK1, tSl, tPart, tNoPart, sDPut1, tDPop, tBM, tBM0, tPar, gSub, tChain, tNot, tNotV, tDG1, tDG2, tDNewT1, iKeys1, iEnum1, iList1, iTup1, iRng1, iRng2, List.set_cons_zero, List.set_cons_succ]
      refine x_var (by exact rfl) ?_
      refine x_lenXt (.of (S.out0 _ _ ha1)) ?_
      refine x_I0 ?_
      refine ⟨_, rfl, ?_⟩
      refine ited (fun c2 => ?_) (fun c2 => ?_)
      · refine iteT ?_
        try dsimp only [tMethS1, tMethKS1, WE, tSeq, tAsg, gName, tOp, tUn, tCB, tCons, tNil, tCall, tMethK1, tCallK1, tPar3, tRet, tRetN, tDrop, tTest, tB, tC, tNext, tAugS, tAug, sFld1, sFldAug1, tMeth1, tMake, tMakeK1, tSl, tPart, tNoPart, sDPut1, tDPop, tBM, tBM0, tPar, gSub, tChain, tNot, tNotV, tDG1, tDG2, tDNewT1, iKeys1, iEnum1, iList1, iTup1, iRng1, iRng2, List.set_cons_zero, List.set_cons_succ]
        exact k _ _ (by first | exact frame_noT (by assumption) | exact frame_lt (by assumption) (by assumption) | exact frame_noS (by assumption) | exact fr_none hso | exact fr_a hso (by assumption) | exact fr_b hso (by assumption) | exact fr_ab hso (by assumption) | exact fr_len hso (by assumption) | exact fr_all hso hna hnb (by assumption) hlen) S.out0
      · obtain ⟨x1, xs2, d1, ds2, rfl, rfl, hd1, hds2⟩ := hds1.unc (by first | omega | (simp only [List.length_cons] at c2; omega))
        have hlds2 := hds2.len
        obtain ⟨x2, xs3, d2, ds3, rfl, rfl, hd2, hds3⟩ := hds2.unc (by first | omega | (simp only [List.length_cons] at c2; omega))
        have hlds3 := hds3.len
        obtain ⟨x3, xs4, d3, ds4, rfl, rfl, hd3, hds4⟩ := hds3.unc (by first | omega | (simp only [List.length_cons] at c2; omega))
        have hlds4 := hds4.len
        refine x_var (by exact rfl) ?_
        refine ⟨_, _, _, _, rfl, rfl, .of (S.out0 _ _ ha1), atI_nat (j := 0) rfl, ?_⟩
        refine (hd1.mono S.out0).isStr ?_
        refine ⟨_, rfl, ?_⟩
        refine itnb (fun c3 => ?_) (fun c3 => ?_)
        · try dsimp only [tMethS1, tMethKS1, WE, tSeq, tAsg, gName, tOp, tUn, tCB, tCons, tNil, tCall, tMethK1, tCallK1, tPar3, tRet, tRetN, tDrop, tTest, tB, tC, tNext, tAugS, tAug, sFld1, sFldAug1, tMeth1, tMake, tMakeK1, tSl, tPart, tNoPart, sDPut1, tDPop, tBM, tBM0, tPar, gSub, tChain, tNot, tNotV, tDG1, tDG2, tDNewT1, iKeys1, iEnum1, iList1, iTup1, iRng1, iRng2, List.set_cons_zero, List.set_cons_succ]
          exact k _ _ (by first | exact frame_noT (by assumption) | exact frame_lt (by assumption) (by assumption) | exact frame_noS (by assumption) | exact fr_none hso | exact fr_a hso (by assumption) | exact fr_b hso (by assumption) | exact fr_ab hso (by assumption) | exact fr_len hso (by assumption) | exact fr_all hso hna hnb (by assumption) hlen) S.out0
        · obtain ⟨s1, rfl, rfl, hls1⟩ := hd1.str_of c3
          try dsimp only [tMethS1, tMethKS1, WE, tSeq, tAsg, gName, tOp, tUn, tCB, tCons, tNil, tCall, tMethK1, tCallK1, tPar3, tRet, tRetN, tDrop, tTest, tB, tC, tNext, tAugS, tAug, sFld1, sFldAug1, tMeth1, tMake, tMakeK1, tSl, tPart, tNoPart, sDPut1, tDPop, tBM, tBM0, tPar, gSub, tChain, tNot, tNotV, tDG1, tDG2, tDNewT1, iKeys1, iEnum1, iList1, iTup1, iRng1, iRng2, List.set_cons_zero, List.set_cons_succ]
          refine c_kinds S (fun kd ka0 ka1 ka2 ka3 ka4 ka5 ka6 ka7 H S => ?_)
          refine x_isD S 0 (by exact rfl) ?_
          refine x_var (by exact rfl) ?_
          refine ⟨_, _, _, _, rfl, rfl, .of (S.out0 _ _ ha1), atI_nat (j := 0) rfl, ?_⟩
          refine x_dg (k := Sum.inr _) S 0 (by exact rfl) (fun ngt => ?_) (fun vgt egt => ?_)
          · have hso := kg_none (kind_get (p := kd) (k := s1) (a0 := ka0) (a1 := ka1) (a2 := ka2) (a3 := ka3) (a4 := ka4) (a5 := ka5) (a6 := ka6) (a7 := ka7)) ngt
            try dsimp only [tMethS1, tMethKS1, WE, tSeq, tAsg, gName, tOp, tUn, tCB, tCons, tNil, tCall, tMethK1, tCallK1, tPar3, tRet, tRetN, tDrop, tTest, tB, tC, tNext, tAugS, tAug, sFld1, sFldAug1, tMeth1, tMake, tMakeK1, tSl, tPart, tNoPart, sDPut1, tDPop, tBM, tBM0, tPar, gSub, tChain, tNot, tNotV, tDG1, tDG2, tDNewT1, iKeys1, iEnum1, iList1, iTup1, iRng1, iRng2, List.set_cons_zero, List.set_cons_succ]
            refine x_if ?_
            try dsimp only [tMethS1, tMethKS1, WE, tSeq, tAsg, gName, tOp, tUn, tCB, tCons, tNil, tCall, tMethK1, tCallK1, tPar3, tRet, tRetN, tDrop, tTest, tB, tC, tNext, tAugS, tAug, sFld1, sFldAug1, tMeth1, tMake, tMakeK1, tSl, tPart, tNoPart, sDPut1, tDPop, tBM, tBM0, tPar, gSub, tChain, tNot, tNotV, tDG1, tDG2, tDNewT1, iKeys1, iEnum1, iList1, iTup1, iRng1, iRng2, List.set_cons_zero, List.set_cons_succ]
            refine x_or ?_
            try dsimp only [tMethS1, tMethKS1, WE, tSeq, tAsg, gName, tOp, tUn, tCB, tCons, tNil, tCall, tMethK1, tCallK1, tPar3, tRet, tRetN, tDrop, tTest, tB, tC, tNext, tAugS, tAug, sFld1, sFldAug1, tMeth1, tMake, tMakeK1, tSl, tPart, tNoPart, sDPut1, tDPop, tBM, tBM0, tPar, gSub, tChain, tNot, tNotV, tDG1, tDG2, tDNewT1, iKeys1, iEnum1, iList1, iTup1, iRng1, iRng2, List.set_cons_zero, List.set_cons_succ]
            refine x_var (by exact rfl) ?_
            refine ⟨rfl, ?_⟩
            refine ⟨_, rfl, ?_⟩
            refine ited (fun c4 => ?_) (fun h => absurd rfl h)
            refine iteT ?_
            try dsimp only [tMethS1, tMethKS1, WE, tSeq, tAsg, gName, tOp, tUn, tCB, tCons, tNil, tCall, tMethK1, tCallK1, tPar3, tRet, tRetN, tDrop, tTest, tB, tC, tNext, tAugS, tAug, sFld1, sFldAug1, tMeth1, tMake, tMakeK1, tSl, tPart, tNoPart, sDPut1, tDPop, tBM, tBM0, tPar, gSub, tChain, tNot, tNotV, tDG1, tDG2, tDNewT1, iKeys1, iEnum1, iList1, iTup1, iRng1, iRng2, List.set_cons_zero, List.set_cons_succ]
            exact k _ _ (by first | exact frame_noT (by assumption) | exact frame_lt (by assumption) (by assumption) | exact frame_noS (by assumption) | exact fr_none hso | exact fr_a hso (by assumption) | exact fr_b hso (by assumption) | exact fr_ab hso (by assumption) | exact fr_len hso (by assumption) | exact fr_all hso hna hnb (by assumption) hlen) S.out0
          · obtain ⟨ss, ka, hkv, hso, hkm⟩ := kg_some (kind_get (p := kd) (k := s1) (a0 := ka0) (a1 := ka1) (a2 := ka2) (a3 := ka3) (a4 := ka4) (a5 := ka5) (a6 := ka6) (a7 := ka7)) egt
            subst hkv
            try dsimp only [tMethS1, tMethKS1, WE, tSeq, tAsg, gName, tOp, tUn, tCB, tCons, tNil, tCall, tMethK1, tCallK1, tPar3, tRet, tRetN, tDrop, tTest, tB, tC, tNext, tAugS, tAug, sFld1, sFldAug1, tMeth1, tMake, tMakeK1, tSl, tPart, tNoPart, sDPut1, tDPop, tBM, tBM0, tPar, gSub, tChain, tNot, tNotV, tDG1, tDG2, tDNewT1, iKeys1, iEnum1, iList1, iTup1, iRng1, iRng2, List.set_cons_zero, List.set_cons_succ]
            refine x_if ?_
            try dsimp only [tMethS1, tMethKS1, WE, tSeq, tAsg, gName, tOp, tUn, tCB, tCons, tNil, tCall, tMethK1, tCallK1, tPar3, tRet, tRetN, tDrop, tTest, tB, tC, tNext, tAugS, tAug, sFld1, sFldAug1, tMeth1, tMake, tMakeK1, tSl, tPart, tNoPart, sDPut1, tDPop, tBM, tBM0, tPar, gSub, tChain, tNot, tNotV, tDG1, tDG2, tDNewT1, iKeys1, iEnum1, iList1, iTup1, iRng1, iRng2, List.set_cons_zero, List.set_cons_succ]
            refine x_or ?_
            try dsimp only [tMethS1, tMethKS1, WE, tSeq, tAsg, gName, tOp, tUn, tCB, tCons, tNil, tCall, tMethK1, tCallK1, tPar3, tRet, tRetN, tDrop, tTest, tB, tC, tNext, tAugS, tAug, sFld1, sFldAug1, tMeth1, tMake, tMakeK1, tSl, tPart, tNoPart, sDPut1, tDPop, tBM, tBM0, tPar, gSub, tChain, tNot, tNotV, tDG1, tDG2, tDNewT1, iKeys1, iEnum1, iList1, iTup1, iRng1, iRng2, List.set_cons_zero, List.set_cons_succ]
            refine x_var (by exact rfl) ?_
            refine ⟨rfl, ?_⟩
            refine ⟨_, rfl, ?_⟩
            refine ited (fun h => nomatch h) (fun c5 => ?_)
            refine x_var (by exact rfl) ?_
            refine x_lenXt (.of (S.out0 _ _ ha1)) ?_
            refine x_var (by exact rfl) ?_
            refine x_lenXt (.of (S.cell (List.mem_append_left _ hkm))) ?_
            refine x_I0 ?_
            refine x_ne ?_
            refine ⟨_, rfl, ?_⟩
            refine itne (fun c6 => ?_) (fun c6 => ?_)
            · have hnl := len_no3 hlds4 c6
              try dsimp only [tMethS1, tMethKS1, WE, tSeq, tAsg, gName, tOp, tUn, tCB, tCons, tNil, tCall, tMethK1, tCallK1, tPar3, tRet, tRetN, tDrop, tTest, tB, tC, tNext, tAugS, tAug, sFld1, sFldAug1, tMeth1, tMake, tMakeK1, tSl, tPart, tNoPart, sDPut1, tDPop, tBM, tBM0, tPar, gSub, tChain, tNot, tNotV, tDG1, tDG2, tDNewT1, iKeys1, iEnum1, iList1, iTup1, iRng1, iRng2, List.set_cons_zero, List.set_cons_succ]
              exact k _ _ (by first | exact frame_noT (by assumption) | exact frame_lt (by assumption) (by assumption) | exact frame_noS (by assumption) | exact fr_none hso | exact fr_a hso (by assumption) | exact fr_b hso (by assumption) | exact fr_ab hso (by assumption) | exact fr_len hso (by assumption) | exact fr_all hso hna hnb (by assumption) hlen) S.out0
            · have hlen := len_ok3 hlds4 c6
              try dsimp only [tMethS1, tMethKS1, WE, tSeq, tAsg, gName, tOp, tUn, tCB, tCons, tNil, tCall, tMethK1, tCallK1, tPar3, tRet, tRetN, tDrop, tTest, tB, tC, tNext, tAugS, tAug, sFld1, sFldAug1, tMeth1, tMake, tMakeK1, tSl, tPart, tNoPart, sDPut1, tDPop, tBM, tBM0, tPar, gSub, tChain, tNot, tNotV, tDG1, tDG2, tDNewT1, iKeys1, iEnum1, iList1, iTup1, iRng1, iRng2, List.set_cons_zero, List.set_cons_succ]
              refine x_if ?_
              try dsimp only [tMethS1, tMethKS1, WE, tSeq, tAsg, gName, tOp, tUn, tCB, tCons, tNil, tCall, tMethK1, tCallK1, tPar3, tRet, tRetN, tDrop, tTest, tB, tC, tNext, tAugS, tAug, sFld1, sFldAug1, tMeth1, tMake, tMakeK1, tSl, tPart, tNoPart, sDPut1, tDPop, tBM, tBM0, tPar, gSub, tChain, tNot, tNotV, tDG1, tDG2, tDNewT1, iKeys1, iEnum1, iList1, iTup1, iRng1, iRng2, List.set_cons_zero, List.set_cons_succ]
              refine x_or ?_
              try dsimp only [tMethS1, tMethKS1, WE, tSeq, tAsg, gName, tOp, tUn, tCB, tCons, tNil, tCall, tMethK1, tCallK1, tPar3, tRet, tRetN, tDrop, tTest, tB, tC, tNext, tAugS, tAug, sFld1, sFldAug1, tMeth1, tMake, tMakeK1, tSl, tPart, tNoPart, sDPut1, tDPop, tBM, tBM0, tPar, gSub, tChain, tNot, tNotV, tDG1, tDG2, tDNewT1, iKeys1, iEnum1, iList1, iTup1, iRng1, iRng2, List.set_cons_zero, List.set_cons_succ]
              refine x_var (by exact rfl) ?_
              refine ⟨_, _, _, _, rfl, rfl, .of (S.out0 _ _ ha1), atI_nat (j := 1) rfl, ?_⟩
              refine c_pure S (hd2.mono S.out0) (fun H S => ?_)
              refine ⟨_, rfl, ?_⟩
              refine itnb (fun c7 => ?_) (fun c7 => ?_)
              · refine iteT ?_
                try dsimp only [tMethS1, tMethKS1, WE, tSeq, tAsg, gName, tOp, tUn, tCB, tCons, tNil, tCall, tMethK1, tCallK1, tPar3, tRet, tRetN, tDrop, tTest, tB, tC, tNext, tAugS, tAug, sFld1, sFldAug1, tMeth1, tMake, tMakeK1, tSl, tPart, tNoPart, sDPut1, tDPop, tBM, tBM0, tPar, gSub, tChain, tNot, tNotV, tDG1, tDG2, tDNewT1, iKeys1, iEnum1, iList1, iTup1, iRng1, iRng2, List.set_cons_zero, List.set_cons_succ]
                exact k _ _ (by first | exact frame_noT (by assumption) | exact frame_lt (by assumption) (by assumption) | exact frame_noS (by assumption) | exact fr_none hso | exact fr_a hso (by assumption) | exact fr_b hso (by assumption) | exact fr_ab hso (by assumption) | exact fr_len hso (by assumption) | exact fr_all hso hna hnb (by assumption) hlen) S.out0
              · obtain ⟨s2, rfl, rfl, hls2⟩ := hd2.name c7
                have hna := c7
                refine x_or ?_
                try dsimp only [tMethS1, tMethKS1, WE, tSeq, tAsg, gName, tOp, tUn, tCB, tCons, tNil, tCall, tMethK1, tCallK1, tPar3, tRet, tRetN, tDrop, tTest, tB, tC, tNext, tAugS, tAug, sFld1, sFldAug1, tMeth1, tMake, tMakeK1, tSl, tPart, tNoPart, sDPut1, tDPop, tBM, tBM0, tPar, gSub, tChain, tNot, tNotV, tDG1, tDG2, tDNewT1, iKeys1, iEnum1, iList1, iTup1, iRng1, iRng2, List.set_cons_zero, List.set_cons_succ]
                refine x_var (by exact rfl) ?_
                refine ⟨_, _, _, _, rfl, rfl, .of (S.out0 _ _ ha1), atI_nat (j := 2) rfl, ?_⟩
                refine c_pure S (hd3.mono S.out0) (fun H S => ?_)
                refine ⟨_, rfl, ?_⟩
                refine itnb (fun c8 => ?_) (fun c8 => ?_)
                · refine iteT ?_
                  try dsimp only [tMethS1, tMethKS1, WE, tSeq, tAsg, gName, tOp, tUn, tCB, tCons, tNil, tCall, tMethK1, tCallK1, tPar3, tRet, tRetN, tDrop, tTest, tB, tC, tNext, tAugS, tAug, sFld1, sFldAug1, tMeth1, tMake, tMakeK1, tSl, tPart, tNoPart, sDPut1, tDPop, tBM, tBM0, tPar, gSub, tChain, tNot, tNotV, tDG1, tDG2, tDNewT1, iKeys1, iEnum1, iList1, iTup1, iRng1, iRng2, List.set_cons_zero, List.set_cons_succ]
                  exact k _ _ (by first | exact frame_noT (by assumption) | exact frame_lt (by assumption) (by assumption) | exact frame_noS (by assumption) | exact fr_none hso | exact fr_a hso (by assumption) | exact fr_b hso (by assumption) | exact fr_ab hso (by assumption) | exact fr_len hso (by assumption) | exact fr_all hso hna hnb (by assumption) hlen) S.out0
                · obtain ⟨s3, rfl, rfl, hls3⟩ := hd3.name c8
                  have hnb := c8
                  refine x_var (by exact rfl) ?_
                  refine ⟨_, _, _, _, rfl, rfl, .of (S.out0 _ _ ha1), atI_nat (j := 1) rfl, ?_⟩
                  refine x_var (by exact rfl) ?_
                  refine ⟨_, _, _, _, rfl, rfl, .of (S.out0 _ _ ha1), atI_nat (j := 2) rfl, ?_⟩
                  refine x_eq ?_
                  refine ⟨_, rfl, ?_⟩
                  refine ited (fun c9 => ?_) (fun c9 => ?_)
                  · try dsimp only [tMethS1, tMethKS1, WE, tSeq, tAsg, gName, tOp, tUn, tCB, tCons, tNil, tCall, tMethK1, tCallK1, tPar3, tRet, tRetN, tDrop, tTest, tB, tC, tNext, tAugS, tAug, sFld1, sFldAug1, tMeth1, tMake, tMakeK1, tSl, tPart, tNoPart, sDPut1, tDPop, tBM, tBM0, tPar, gSub, tChain, tNot, tNotV, tDG1, tDG2, tDNewT1, iKeys1, iEnum1, iList1, iTup1, iRng1, iRng2, List.set_cons_zero, List.set_cons_succ]
                    exact k _ _ (by first | exact frame_noT (by assumption) | exact frame_lt (by assumption) (by assumption) | exact frame_noS (by assumption) | exact fr_none hso | exact fr_a hso (by assumption) | exact fr_b hso (by assumption) | exact fr_ab hso (by assumption) | exact fr_len hso (by assumption) | exact fr_all hso hna hnb (by assumption) hlen) S.out0
                  · try dsimp only [tMethS1, tMethKS1, WE, tSeq, tAsg, gName, tOp, tUn, tCB, tCons, tNil, tCall, tMethK1, tCallK1, tPar3, tRet, tRetN, tDrop, tTest, tB, tC, tNext, tAugS, tAug, sFld1, sFldAug1, tMeth1, tMake, tMakeK1, tSl, tPart, tNoPart, sDPut1, tDPop, tBM, tBM0, tPar, gSub, tChain, tNot, tNotV, tDG1, tDG2, tDNewT1, iKeys1, iEnum1, iList1, iTup1, iRng1, iRng2, List.set_cons_zero, List.set_cons_succ]
                    refine x_lc ?_
                    try dsimp only [tMethS1, tMethKS1, tOp, tUn, tCB, tCons, tNil, tCall, tMethK1, tCallK1, tC, tMeth1, tMake, tMakeK1, tSl, tPart, tNoPart, tDPop, tChain, tNotV, tBM, tBM0, tDG1, tDG2, tDNewT1, iKeys1, iEnum1, iList1, iTup1, iRng1, iRng2]
                    try dsimp only [ZM.iZipM, tCons, tNil, tOp, tC, tSl, tPart, tNoPart]
                    refine x_var (by exact rfl) ?_
                    refine ⟨_, rfl, ?_⟩
                    refine x_slN S (.of (S.out0 _ _ ha1)) (fun sl1 H S => ?_)
                    refine x_var (by exact rfl) ?_
                    refine ⟨_, _, _, _, rfl, (S.st 0 rfl), (.of (S.cell (List.mem_cons_of_mem _ (List.mem_append_left _ hkm)))), ?_⟩
                    refine lcW (ZM.walk_zipM (c1 := false) (c2 := false) (xs := xs4) (ys := ss.map V.str) rfl) S (fun al1 H S => ⟨fun j H1 => Sep H0 [] H1 ((2, al1, .lst ((((ss.zip ds4).take j).map (fun p => isPart p.1 p.2)).map V.bl)) :: (2, sl1, .tup xs4) :: (kindC kd ka0 ka1 ka2 ka3 ka4 ka5 ka6 ka7 ++ [])), ?_, ?_, ?_, ?_⟩)
                    · exact S.sub [0, 1, 2, 3, 4, 5, 6, 7, 8, 9, 10]
                    · rintro j H hi S
                      exact ⟨S.st 1 rfl, .of (S.cell (List.mem_cons_of_mem _ (List.mem_cons_of_mem _ (List.mem_append_left _ hkm))))⟩
                    · rintro j y H H9 hi S hy
                      obtain ⟨T9, xj, yj, rfl, hT9, rfl, hxj, hyj⟩ := hy
                      have S := S.new hT9 (.tup [xj, yj])
                      obtain ⟨dj, hdj, hdx⟩ := hds4.get hxj
                      obtain ⟨sj, hsj, rfl⟩ := elem_of hyj
                      have hz := zip_get hsj hdj
                      have hsl := sorts_in hso _ (List.mem_of_getElem? hsj)
                      have hsn := sorts_len hso
                      have hjl := lt_of_get hsj
                      refine ⟨_, _, rfl, S.st 0 rfl, rfl, _, _, rfl, _, _, rfl, rfl, ?_⟩
                      refine ⟨rfl, ?_⟩
                      try dsimp only [tMethS1, tMethKS1, WE, wipe, tYes, tSeq, tAsg, gName, tOp, tUn, tCB, tCons, tNil, tCall, tMethK1, tCallK1, tPar3, tRet, tRetN, tDrop, tTest, tB, tC, tNext, tAugS, tAug, sFld1, sFldAug1, tMeth1, tMake, tMakeK1, tSl, tPart, tNoPart, sDPut1, tDPop, tBM, tBM0, tPar, gSub, tChain, tNot, tNotV, tDG1, tDG2, tDNewT1, iKeys1, iEnum1, iList1, iTup1, iRng1, iRng2, List.set_cons_zero, List.set_cons_succ]
                      refine iteT ?_
                      refine x_var (by exact rfl) ?_
                      refine x_var (by exact rfl) ?_
                      refine c_part S (hdx.mono S.out0) hsl (fun H S => ?_)
                      have S := S.sub [1, 2, 3, 4, 5, 6, 7, 8, 9, 10, 11]
                      refine x_lcappB S 0 (by exact rfl) (by rw [List.length_map, List.length_take]; have := lt_of_get hsj; omega) (fun H S => ?_)
                      rw [all_take (p := (fun p => isPart p.1 p.2)) hz] at S
                      exact S
                    · rintro H S
                      rw [zip_all (xs := ss) (ys := ds4) (by rw [List.length_map, hlds4]; omega)] at S
                      refine ⟨_, _, rfl, .inl (S.sl 0 (by exact rfl)), rfl, flat_bls _, ?_⟩
                      rw [if_pos rfl, inV_false]
                      exact k _ _ (by first | exact frame_noT (by assumption) | exact frame_lt (by assumption) (by assumption) | exact frame_noS (by assumption) | exact fr_none hso | exact fr_a hso (by assumption) | exact fr_b hso (by assumption) | exact fr_ab hso (by assumption) | exact fr_len hso (by assumption) | exact fr_all hso hna hnb (by assumption) hlen) S.out0
end
end G

set_option linter.all false
set_option maxRecDepth 100000
set_option maxHeartbeats 4000000
namespace G
open PySem PySem.Spec PyProof.Rows L2
def R_drw (dg : Addr) (dc : Addr) (dr : Int) (dt : Int) (dm : Int) : List (Key × V) := [((.inr ("great" : Str) : Key), V.ref dg), ((.inr ("cells" : Str) : Key), V.ref dc), ((.inr ("rest" : Str) : Key), V.int dr), ((.inr ("turn" : Str) : Key), V.int dt), ((.inr ("more" : Str) : Key), V.int dm)]
theorem vl_drw_great {dg : Addr} {dc : Addr} {dr : Int} {dt : Int} {dm : Int} : valV (R_drw dg dc dr dt dm) (.inr ("great" : Str) : Key) = some (V.ref dg) := by kernel_rfl
theorem pk_drw_great {dg : Addr} {dc : Addr} {dr : Int} {dt : Int} {dm : Int} {z9 : Addr} : putK (R_drw dg dc dr dt dm) (.inr ("great" : Str) : Key) (V.ref z9) = R_drw z9 dc dr dt dm := by kernel_rfl
theorem vl_drw_cells {dg : Addr} {dc : Addr} {dr : Int} {dt : Int} {dm : Int} : valV (R_drw dg dc dr dt dm) (.inr ("cells" : Str) : Key) = some (V.ref dc) := by kernel_rfl
theorem pk_drw_cells {dg : Addr} {dc : Addr} {dr : Int} {dt : Int} {dm : Int} {z9 : Addr} : putK (R_drw dg dc dr dt dm) (.inr ("cells" : Str) : Key) (V.ref z9) = R_drw dg z9 dr dt dm := by kernel_rfl
theorem vl_drw_rest {dg : Addr} {dc : Addr} {dr : Int} {dt : Int} {dm : Int} : valV (R_drw dg dc dr dt dm) (.inr ("rest" : Str) : Key) = some (V.int dr) := by kernel_rfl
theorem pk_drw_rest {dg : Addr} {dc : Addr} {dr : Int} {dt : Int} {dm : Int} {z9 : Int} : putK (R_drw dg dc dr dt dm) (.inr ("rest" : Str) : Key) (V.int z9) = R_drw dg dc z9 dt dm := by kernel_rfl
theorem vl_drw_turn {dg : Addr} {dc : Addr} {dr : Int} {dt : Int} {dm : Int} : valV (R_drw dg dc dr dt dm) (.inr ("turn" : Str) : Key) = some (V.int dt) := by kernel_rfl
theorem pk_drw_turn {dg : Addr} {dc : Addr} {dr : Int} {dt : Int} {dm : Int} {z9 : Int} : putK (R_drw dg dc dr dt dm) (.inr ("turn" : Str) : Key) (V.int z9) = R_drw dg dc dr z9 dm := by kernel_rfl
theorem vl_drw_more {dg : Addr} {dc : Addr} {dr : Int} {dt : Int} {dm : Int} : valV (R_drw dg dc dr dt dm) (.inr ("more" : Str) : Key) = some (V.int dm) := by kernel_rfl
theorem pk_drw_more {dg : Addr} {dc : Addr} {dr : Int} {dt : Int} {dm : Int} {z9 : Int} : putK (R_drw dg dc dr dt dm) (.inr ("more" : Str) : Key) (V.int z9) = R_drw dg dc dr dt z9 := by kernel_rfl
theorem mg_drw {dg : Addr} {dc : Addr} {dr : Int} {dt : Int} {dm : Int} : mergeK [] (R_drw dg dc dr dt dm) = R_drw dg dc dr dt dm := by kernel_rfl
theorem ln_drw {dg : Addr} {dc : Addr} {dr : Int} {dt : Int} {dm : Int} : (R_drw dg dc dr dt dm).length < 100000 := by show 5 < 100000; decide

structure Drw (r t m : Int) (gs : List Int) : Prop where
  r0 : 0 ≤ r
  t0 : 0 ≤ t
  m0 : 0 ≤ m
  m1 : m < 2147483647
  gp : ∀ g ∈ gs, 0 ≤ g
  gl : gs.length ≤ 1000
def spLTake : Sp := fun vs H Q _ => ∃ (dp dg dc : Addr) (dr dt dm many : Int) (gs cs : List Int), vs = [.ref dp, .int many] ∧ Sep H [dp, dg] H [(1, dp, .dK (R_drw dg dc dr dt dm)), (1, dg, .lst (gs.map V.int)), (0, dc, .lst (cs.map V.int))] ∧ Drw dr dt dm gs ∧ 0 < many ∧ many < 2 ^ 200 ∧
  ∀ (v dr' dt' dm' : Int) (gs' : List Int) (H' : Hp), 0 ≤ v → v < many → Drw dr' dt' dm' gs' → H' dp = some (.dK (R_drw dg dc dr' dt' dm')) → H' dg = some (.lst (gs'.map V.int)) → (∀ b o, H b = some o → b ≠ dp → b ≠ dg → H' b = some o) → Q (.int v) H'
theorem c_ltake {H0 H : Hp} {ft : List Addr} {l : List Cell} {t1 t2 t3 : Nat} {dp dg dc : Addr} {dr dt dm many : Int} {gs cs : List Int} {Q : VK} {E : XK} (S : Sep H0 ft H l) (i j k : Nat) (hi : l[i]? = some (t1, dp, .dK (R_drw dg dc dr dt dm))) (hj : l[j]? = some (t2, dg, .lst (gs.map V.int))) (hk : l[k]? = some (t3, dc, .lst (cs.map V.int)))
    (h : Drw dr dt dm gs) (hm : 0 < many) (hm2 : many < 2 ^ 200) (q : ∀ (v dr dt dm : Int) (gs : List Int) (H' : Hp), 0 ≤ v → v < many → Drw dr dt dm gs → Sep H0 ft H' ((l.set i (t1, dp, .dK (R_drw dg dc dr dt dm))).set j (t2, dg, .lst (gs.map V.int))) → Q (.int v) H')
    (hn : [i, j, k].Nodup := by decide) (ht1 : t1 = 1 ∨ t1 = 2 := by first | exact .inl rfl | exact .inr rfl) (ht2 : t2 = 1 ∨ t2 = 2 := by first | exact .inl rfl | exact .inr rfl) : spLTake [.ref dp, .int many] H Q E :=
  ⟨dp, dg, dc, dr, dt, dm, many, gs, cs, rfl, by
    have g3 := S.give3 i j k hi hj hk hn
    exact (g3.retag rfl (by simp) (by simp) (by simp)), h, hm, hm2, fun v dr' dt' dm' gs' H' h0 h1 hd e1 e2 F => q v dr' dt' dm' gs' H' h0 h1 hd (S.chg2 i j hi hj (fun z => by subst z; simp at hn) F e1 e2 ht1 ht2)⟩
theorem nosl : True := trivial
section
variable {P : Program} {w : World} {K : PySem.W.Frag} {mg : Str → Option Value} {base : Heap}
abbrev s_law_take : Stmt := (topS 11)
theorem sc_law_take : FnScope ["_law_draw", "_law_many", "_law_found", "_law_cell", "_law_mixed"] ["_law_draw", "_law_many"] (defScope s_law_take) := ⟨rfl, rfl, rfl, by decide +kernel, rfl, by decide +kernel, by decide +kernel⟩
theorem ok_law_take {f : Addr} {fd : FuncData} (F : L2.Fun K "_law_take" "_law_take" s_law_take f fd) (z_len : mg "len" = none) : FnOk P w K mg base CX0 1 f fd ["_law_draw", "_law_many"] spLTake := by
  refine F.ok sc_law_take (fun vs H Q E h => ?_) (fun cdv A outer s H0 vs Q E hr h => ?_)
  · obtain ⟨dp, dg, dc, dr, dt, dm, many, gs, cs, rfl, S, hd, hm, hm2, k⟩ := h
    rfl
  · obtain ⟨dp, dg, dc, dr, dt, dm, many, gs, cs, rfl, S, hd, hm, hm2, k⟩ := h
    have hu := hu_of hr

    refine ⟨_, pss_cons (ps_while PassesOwn.never ((pw_and (pt_cmpR op_eq (pe_dget1v hu (pv 0) (pe_str) (fun _ _ => rfl)) (pe_int) (nomark _)) (pw_and1 (pt_cmpR (op_neDK K hr.units) (pe_dget1v hu (pv 0) (pe_str) (fun _ _ => rfl)) (pe_lst1 pa_nil) (nomark _)))).pt) (pss_one (ps_dput1 hu (pv 0) (pe_str) (pe_bm PySem.F.plainAttrs_list PySem.F.slot_list_pop PySem.F.type_list_pop mt_popAt (pe_dget1v hu (pv 0) (pe_str) (fun _ _ => rfl)) (pa_cons (pe_int) pa_nil)) rfl)))
      (pss_cons (ps_if (pt_cmpR op_gt (pe_dget1v hu (pv 0) (pe_str) (fun _ _ => rfl)) (pe_int) (nomark _)) (pss_cons (ps_set (i := 2) sc_law_take.nd rfl (.inl rfl) (pe_op op_mod (pe_dget1v hu (pv 0) (pe_str) (fun _ _ => rfl)) (pv 1)))
      (pss_cons (ps_dput1 hu (pv 0) (pe_str) (pe_op op_fdivW (pe_dget1v hu (pv 0) (pe_str) (fun _ _ => rfl)) (pv 1)) rfl)
      (pss_one (ps_ret (pv 2))))) (pss_nil))
      (pss_cons (ps_set (i := 3) sc_law_take.nd rfl (.inl rfl) (pe_int))
      (pss_cons (ps_if (pt_cmpR (op_neDK K hr.units) (pe_dget1v hu (pv 0) (pe_str) (fun _ _ => rfl)) (pe_lst1 pa_nil) (nomark _)) (pss_one (ps_set (i := 3) sc_law_take.nd rfl (.inl rfl) (pe_ix (ix_listK K) (pe_dget1v hu (pv 0) (pe_str) (fun _ _ => rfl)) (pe_op op_mod (pe_dget1v hu (pv 0) (pe_str) (fun _ _ => rfl)) (pe_callB (cl_lenK K) (by rfl) z_len PySem.boot_len (pa_cons (pe_dget1v hu (pv 0) (pe_str) (fun _ _ => rfl)) pa_nil))) (fun _ _ => rfl)))) (pss_nil))
      (pss_cons (ps_dput1 hu (pv 0) (pe_str) (pe_op op_add (pe_dget1v hu (pv 0) (pe_str) (fun _ _ => rfl)) (pe_int)) rfl)
      (pss_cons (ps_dput1 hu (pv 0) (pe_str) (pe_op op_mod (pe_op op_add (pe_op op_add (pe_op op_mul (pe_dget1v hu (pv 0) (pe_str) (fun _ _ => rfl)) (pe_int)) (pv 3)) (pe_op op_mul (pe_int) (pe_dget1v hu (pv 0) (pe_str) (fun _ _ => rfl)))) (pe_int)) rfl)
      (pss_cons (ps_set (i := 4) sc_law_take.nd rfl (.inl rfl) (pe_op op_mod (pe_op op_add (pe_op op_add (pe_op op_mul (pe_dget1v hu (pv 0) (pe_str) (fun _ _ => rfl)) (pe_dget1v hu (pv 0) (pe_str) (fun _ _ => rfl))) (pe_op op_mul (pe_int) (pe_dget1v hu (pv 0) (pe_str) (fun _ _ => rfl)))) (pe_int)) (pe_int)))
      (pss_one (ps_ret (pe_op op_mod (pe_op op_fdivW (pe_op op_mod (pe_op op_mul (pv 4) (pv 4)) (pe_int)) (pe_int)) (pv 1)))))))))), ?_⟩
    rw [show start ["_law_draw", "_law_many", "_law_found", "_law_cell", "_law_mixed"] [V.ref dp, V.int many] = [some (V.ref dp), some (V.int many), none, none, none] from rfl]
    try dsimp only [tMethS1, tMethKS1, WE, tSeq, tAsg, gName, tOp, tUn, tCB, tCons, tNil, tCall, tMethK1, tCallK1, tPar3, tRet, tRetN, tDrop, tTest, tB, tC, tNext, tAugS, tAug, sFld1, sFldAug1, tMeth1, tMake, tMakeK1, tSl, tPart, tNoPart, sDPut1, tDPop, tBM, tBM0, tPar, gSub, tChain, tNot, tNotV, tDG1, tDG2, tDNewT1, iKeys1, iEnum1, iList1, iTup1, iRng1, iRng2, List.set_cons_zero, List.set_cons_succ]
    refine x_while (fun m σ H' => ∃ (dr : Int) (gs : List Int), σ = [some (.ref dp), some (.int many), none, none, none] ∧ m = gs.length ∧ Drw dr dt dm gs ∧ Sep H0 [dp, dg] H' [(1, dp, .dK (R_drw dg dc dr dt dm)), (1, dg, .lst (gs.map V.int)), (0, dc, .lst (cs.map V.int))]) (gs.length) ?_ ?_
    · exact ⟨_, _, rfl, rfl, hd, S⟩
    · rintro m σ H ⟨dr, gs, rfl, rfl, hd, S⟩
      try dsimp only [tMethS1, tMethKS1, WE, tSeq, tAsg, gName, tOp, tUn, tCB, tCons, tNil, tCall, tMethK1, tCallK1, tPar3, tRet, tRetN, tDrop, tTest, tB, tC, tNext, tAugS, tAug, sFld1, sFldAug1, tMeth1, tMake, tMakeK1, tSl, tPart, tNoPart, sDPut1, tDPop, tBM, tBM0, tPar, gSub, tChain, tNot, tNotV, tDG1, tDG2, tDNewT1, iKeys1, iEnum1, iList1, iTup1, iRng1, iRng2, List.set_cons_zero, List.set_cons_succ]
      refine x_and ?_
      try dsimp only [tMethS1, tMethKS1, WE, tSeq, tAsg, gName, tOp, tUn, tCB, tCons, tNil, tCall, tMethK1, tCallK1, tPar3, tRet, tRetN, tDrop, tTest, tB, tC, tNext, tAugS, tAug, sFld1, sFldAug1, tMeth1, tMake, tMakeK1, tSl, tPart, tNoPart, sDPut1, tDPop, tBM, tBM0, tPar, gSub, tChain, tNot, tNotV, tDG1, tDG2, tDNewT1, iKeys1, iEnum1, iList1, iTup1, iRng1, iRng2, List.set_cons_zero, List.set_cons_succ]
      refine x_var (by exact rfl) ?_
      refine x_dget (k := Sum.inr _) S 0 (by exact rfl) vl_drw_rest ?_
      refine x_eq ?_
      refine ⟨_, rfl, ?_⟩
      refine iteq (fun c1 => ?_) (fun c1 => ?_)
      · refine x_var (by exact rfl) ?_
        refine x_dget (k := Sum.inr _) S 0 (by exact rfl) vl_drw_great ?_
        refine x_lst S (by exact Nat.le_of_ble_eq_true rfl) (fun L1 H S => ?_)
        refine x_neL (ys := []) S 2 0 (by exact rfl) (by exact rfl) ?_
        refine ⟨_, rfl, ?_⟩
        refine itend (fun c2 => ?_) (fun c2 => ?_)
        · refine x_turn ?_
          try dsimp only [tMethS1, tMethKS1, WE, tSeq, tAsg, gName, tOp, tUn, tCB, tCons, tNil, tCall, tMethK1, tCallK1, tPar3, tRet, tRetN, tDrop, tTest, tB, tC, tNext, tAugS, tAug, sFld1, sFldAug1, tMeth1, tMake, tMakeK1, tSl, tPart, tNoPart, sDPut1, tDPop, tBM, tBM0, tPar, gSub, tChain, tNot, tNotV, tDG1, tDG2, tDNewT1, iKeys1, iEnum1, iList1, iTup1, iRng1, iRng2, List.set_cons_zero, List.set_cons_succ]
          refine x_var (by exact rfl) ?_
          refine x_dget (k := Sum.inr _) S 1 (by exact rfl) vl_drw_great ?_
          rcases gs with _ | ⟨g0, gs⟩
          · exact absurd rfl c2
          refine ⟨x_ty S 2 (by exact rfl), ?_⟩
          refine x_pop0 S 2 (by exact rfl) (fun H S => ?_)
          simp only [List.set_cons_zero, List.set_cons_succ] at S
          refine x_var (by exact rfl) ?_
          refine x_dputR (k := Sum.inr _) S 1 (by exact rfl) pk_drw_rest ln_drw (fun H S => ?_)
          simp only [List.set_cons_zero, List.set_cons_succ] at S
          exact ⟨_, Nat.lt_succ_self _, _, _, rfl, rfl, ⟨hd.gp _ List.mem_cons_self, hd.t0, hd.m0, hd.m1, fun g h => hd.gp g (List.mem_cons_of_mem _ h), Nat.le_of_succ_le hd.gl⟩, S.sub [1, 2, 3]⟩
        · have hr0 := hd.r0
          have ht0 := hd.t0
          have hm0 := hd.m0
          have hm1 := hd.m1
          try dsimp only [tMethS1, tMethKS1, WE, tSeq, tAsg, gName, tOp, tUn, tCB, tCons, tNil, tCall, tMethK1, tCallK1, tPar3, tRet, tRetN, tDrop, tTest, tB, tC, tNext, tAugS, tAug, sFld1, sFldAug1, tMeth1, tMake, tMakeK1, tSl, tPart, tNoPart, sDPut1, tDPop, tBM, tBM0, tPar, gSub, tChain, tNot, tNotV, tDG1, tDG2, tDNewT1, iKeys1, iEnum1, iList1, iTup1, iRng1, iRng2, List.set_cons_zero, List.set_cons_succ]
          try dsimp only [tMethS1, tMethKS1, WE, tSeq, tAsg, gName, tOp, tUn, tCB, tCons, tNil, tCall, tMethK1, tCallK1, tPar3, tRet, tRetN, tDrop, tTest, tB, tC, tNext, tAugS, tAug, sFld1, sFldAug1, tMeth1, tMake, tMakeK1, tSl, tPart, tNoPart, sDPut1, tDPop, tBM, tBM0, tPar, gSub, tChain, tNot, tNotV, tDG1, tDG2, tDNewT1, iKeys1, iEnum1, iList1, iTup1, iRng1, iRng2, List.set_cons_zero, List.set_cons_succ]
          refine x_if ?_
          try dsimp only [tMethS1, tMethKS1, WE, tSeq, tAsg, gName, tOp, tUn, tCB, tCons, tNil, tCall, tMethK1, tCallK1, tPar3, tRet, tRetN, tDrop, tTest, tB, tC, tNext, tAugS, tAug, sFld1, sFldAug1, tMeth1, tMake, tMakeK1, tSl, tPart, tNoPart, sDPut1, tDPop, tBM, tBM0, tPar, gSub, tChain, tNot, tNotV, tDG1, tDG2, tDNewT1, iKeys1, iEnum1, iList1, iTup1, iRng1, iRng2, List.set_cons_zero, List.set_cons_succ]
          refine x_var (by exact rfl) ?_
          refine x_dget (k := Sum.inr _) S 1 (by exact rfl) vl_drw_rest ?_
          refine x_I0 ?_
          refine ⟨_, rfl, ?_⟩
          refine ited (fun c3 => ?_) (fun c3 => ?_)
          · try dsimp only [tMethS1, tMethKS1, WE, tSeq, tAsg, gName, tOp, tUn, tCB, tCons, tNil, tCall, tMethK1, tCallK1, tPar3, tRet, tRetN, tDrop, tTest, tB, tC, tNext, tAugS, tAug, sFld1, sFldAug1, tMeth1, tMake, tMakeK1, tSl, tPart, tNoPart, sDPut1, tDPop, tBM, tBM0, tPar, gSub, tChain, tNot, tNotV, tDG1, tDG2, tDNewT1, iKeys1, iEnum1, iList1, iTup1, iRng1, iRng2, List.set_cons_zero, List.set_cons_succ]
            refine x_var (by exact rfl) ?_
            refine x_dget (k := Sum.inr _) S 1 (by exact rfl) vl_drw_rest ?_
            refine x_var (by exact rfl) ?_
            refine x_I (by first | decide | (show (0 : Int) < _; omega)) ?_
            try dsimp only [tMethS1, tMethKS1, WE, tSeq, tAsg, gName, tOp, tUn, tCB, tCons, tNil, tCall, tMethK1, tCallK1, tPar3, tRet, tRetN, tDrop, tTest, tB, tC, tNext, tAugS, tAug, sFld1, sFldAug1, tMeth1, tMake, tMakeK1, tSl, tPart, tNoPart, sDPut1, tDPop, tBM, tBM0, tPar, gSub, tChain, tNot, tNotV, tDG1, tDG2, tDNewT1, iKeys1, iEnum1, iList1, iTup1, iRng1, iRng2, List.set_cons_zero, List.set_cons_succ]
            refine x_var (by exact rfl) ?_
            refine x_dget (k := Sum.inr _) S 1 (by exact rfl) vl_drw_rest ?_
            refine x_var (by exact rfl) ?_
            refine x_I (by first | exact ⟨by decide, by decide⟩ | exact div_ok (by omega) (by omega)) ?_
            refine x_var (by exact rfl) ?_
            refine x_dputR (k := Sum.inr _) S 1 (by exact rfl) pk_drw_rest ln_drw (fun H S => ?_)
            simp only [List.set_cons_zero, List.set_cons_succ] at S
            try dsimp only [tMethS1, tMethKS1, WE, tSeq, tAsg, gName, tOp, tUn, tCB, tCons, tNil, tCall, tMethK1, tCallK1, tPar3, tRet, tRetN, tDrop, tTest, tB, tC, tNext, tAugS, tAug, sFld1, sFldAug1, tMeth1, tMake, tMakeK1, tSl, tPart, tNoPart, sDPut1, tDPop, tBM, tBM0, tPar, gSub, tChain, tNot, tNotV, tDG1, tDG2, tDNewT1, iKeys1, iEnum1, iList1, iTup1, iRng1, iRng2, List.set_cons_zero, List.set_cons_succ]
            refine x_var (by exact rfl) ?_
            exact k _ _ _ _ _ _ (Int.emod_nonneg _ (by omega)) (Int.emod_lt_of_pos _ (by omega)) ⟨Int.ediv_nonneg (by omega) (by omega), hd.t0, hd.m0, hd.m1, hd.gp, hd.gl⟩ (S.get 1 rfl) (S.get 2 rfl) S.out2
          · try dsimp only [tMethS1, tMethKS1, WE, tSeq, tAsg, gName, tOp, tUn, tCB, tCons, tNil, tCall, tMethK1, tCallK1, tPar3, tRet, tRetN, tDrop, tTest, tB, tC, tNext, tAugS, tAug, sFld1, sFldAug1, tMeth1, tMake, tMakeK1, tSl, tPart, tNoPart, sDPut1, tDPop, tBM, tBM0, tPar, gSub, tChain, tNot, tNotV, tDG1, tDG2, tDNewT1, iKeys1, iEnum1, iList1, iTup1, iRng1, iRng2, List.set_cons_zero, List.set_cons_succ]
            try dsimp only [tMethS1, tMethKS1, WE, tSeq, tAsg, gName, tOp, tUn, tCB, tCons, tNil, tCall, tMethK1, tCallK1, tPar3, tRet, tRetN, tDrop, tTest, tB, tC, tNext, tAugS, tAug, sFld1, sFldAug1, tMeth1, tMake, tMakeK1, tSl, tPart, tNoPart, sDPut1, tDPop, tBM, tBM0, tPar, gSub, tChain, tNot, tNotV, tDG1, tDG2, tDNewT1, iKeys1, iEnum1, iList1, iTup1, iRng1, iRng2, List.set_cons_zero, List.set_cons_succ]
            refine x_if ?_
            try dsimp only [tMethS1, tMethKS1, WE, tSeq, tAsg, gName, tOp, tUn, tCB, tCons, tNil, tCall, tMethK1, tCallK1, tPar3, tRet, tRetN, tDrop, tTest, tB, tC, tNext, tAugS, tAug, sFld1, sFldAug1, tMeth1, tMake, tMakeK1, tSl, tPart, tNoPart, sDPut1, tDPop, tBM, tBM0, tPar, gSub, tChain, tNot, tNotV, tDG1, tDG2, tDNewT1, iKeys1, iEnum1, iList1, iTup1, iRng1, iRng2, List.set_cons_zero, List.set_cons_succ]
            refine x_var (by exact rfl) ?_
            refine x_dget (k := Sum.inr _) S 1 (by exact rfl) vl_drw_cells ?_
            refine x_lst S (by exact Nat.le_of_ble_eq_true rfl) (fun L2 H S => ?_)
            refine x_neL (ys := []) S 4 0 (by exact rfl) (by exact rfl) ?_
            refine ⟨_, rfl, ?_⟩
            refine itend (fun c4 => ?_) (fun c4 => ?_)
            · try dsimp only [tMethS1, tMethKS1, WE, tSeq, tAsg, gName, tOp, tUn, tCB, tCons, tNil, tCall, tMethK1, tCallK1, tPar3, tRet, tRetN, tDrop, tTest, tB, tC, tNext, tAugS, tAug, sFld1, sFldAug1, tMeth1, tMake, tMakeK1, tSl, tPart, tNoPart, sDPut1, tDPop, tBM, tBM0, tPar, gSub, tChain, tNot, tNotV, tDG1, tDG2, tDNewT1, iKeys1, iEnum1, iList1, iTup1, iRng1, iRng2, List.set_cons_zero, List.set_cons_succ]
              have hcl : 0 < cs.length := List.length_pos_iff.mpr (by assumption)
              refine x_var (by exact rfl) ?_
              refine x_dget (k := Sum.inr _) S 2 (by exact rfl) vl_drw_cells ?_
              refine x_var (by exact rfl) ?_
              refine x_dget (k := Sum.inr _) S 2 (by exact rfl) vl_drw_turn ?_
              refine x_var (by exact rfl) ?_
              refine x_dget (k := Sum.inr _) S 2 (by exact rfl) vl_drw_cells ?_
              refine x_lenI S 4 (by exact rfl) ?_
              refine x_I (by first | decide | (show (0 : Int) < _; omega)) ?_
              refine x_ixI S 4 (by exact rfl) (by first | omega | exact Int.emod_nonneg _ (by omega)) (by first | omega | exact Int.emod_lt_of_pos _ (by omega)) (fun v1 hv1 => ?_)
              try dsimp only [tMethS1, tMethKS1, WE, tSeq, tAsg, gName, tOp, tUn, tCB, tCons, tNil, tCall, tMethK1, tCallK1, tPar3, tRet, tRetN, tDrop, tTest, tB, tC, tNext, tAugS, tAug, sFld1, sFldAug1, tMeth1, tMake, tMakeK1, tSl, tPart, tNoPart, sDPut1, tDPop, tBM, tBM0, tPar, gSub, tChain, tNot, tNotV, tDG1, tDG2, tDNewT1, iKeys1, iEnum1, iList1, iTup1, iRng1, iRng2, List.set_cons_zero, List.set_cons_succ]
              refine x_var (by exact rfl) ?_
              refine x_dget (k := Sum.inr _) S 2 (by exact rfl) vl_drw_turn ?_
              refine x_I0 ?_
              refine x_var (by exact rfl) ?_
              refine x_dputR (k := Sum.inr _) S 2 (by exact rfl) pk_drw_turn ln_drw (fun H S => ?_)
              simp only [List.set_cons_zero, List.set_cons_succ] at S
              try dsimp only [tMethS1, tMethKS1, WE, tSeq, tAsg, gName, tOp, tUn, tCB, tCons, tNil, tCall, tMethK1, tCallK1, tPar3, tRet, tRetN, tDrop, tTest, tB, tC, tNext, tAugS, tAug, sFld1, sFldAug1, tMeth1, tMake, tMakeK1, tSl, tPart, tNoPart, sDPut1, tDPop, tBM, tBM0, tPar, gSub, tChain, tNot, tNotV, tDG1, tDG2, tDNewT1, iKeys1, iEnum1, iList1, iTup1, iRng1, iRng2, List.set_cons_zero, List.set_cons_succ]
              refine x_var (by exact rfl) ?_
              refine x_dget (k := Sum.inr _) S 2 (by exact rfl) vl_drw_more ?_
              refine x_I (by first | exact .inr ⟨by decide, by decide⟩ | exact .inl ⟨by decide, by decide⟩ | exact .inr ⟨by omega, by omega⟩ | exact .inl ⟨by omega, by omega⟩) ?_
              refine x_var (by exact rfl) ?_
              refine x_I0 ?_
              refine x_var (by exact rfl) ?_
              refine x_dget (k := Sum.inr _) S 2 (by exact rfl) vl_drw_turn ?_
              refine x_I (by first | exact .inr ⟨by decide, by decide⟩ | exact .inl ⟨by decide, by decide⟩ | exact .inr ⟨by omega, by omega⟩ | exact .inl ⟨by omega, by omega⟩) ?_
              refine x_I0 ?_
              refine x_I (by first | decide | (show (0 : Int) < _; omega)) ?_
              refine x_var (by exact rfl) ?_
              refine x_dputR (k := Sum.inr _) S 2 (by exact rfl) pk_drw_more ln_drw (fun H S => ?_)
              simp only [List.set_cons_zero, List.set_cons_succ] at S
              try dsimp only [tMethS1, tMethKS1, WE, tSeq, tAsg, gName, tOp, tUn, tCB, tCons, tNil, tCall, tMethK1, tCallK1, tPar3, tRet, tRetN, tDrop, tTest, tB, tC, tNext, tAugS, tAug, sFld1, sFldAug1, tMeth1, tMake, tMakeK1, tSl, tPart, tNoPart, sDPut1, tDPop, tBM, tBM0, tPar, gSub, tChain, tNot, tNotV, tDG1, tDG2, tDNewT1, iKeys1, iEnum1, iList1, iTup1, iRng1, iRng2, List.set_cons_zero, List.set_cons_succ]
              refine x_var (by exact rfl) ?_
              refine x_dget (k := Sum.inr _) S 2 (by exact rfl) vl_drw_more ?_
              refine x_var (by exact rfl) ?_
              refine x_dget (k := Sum.inr _) S 2 (by exact rfl) vl_drw_more ?_
              refine x_I (by first | exact .inr ⟨by decide, by decide⟩ | exact .inl ⟨by decide, by decide⟩ | exact .inr ⟨by omega, by omega⟩ | exact .inl ⟨by omega, by omega⟩) ?_
              refine x_var (by exact rfl) ?_
              refine x_dget (k := Sum.inr _) S 2 (by exact rfl) vl_drw_more ?_
              refine x_I (by first | exact .inr ⟨by decide, by decide⟩ | exact .inl ⟨by decide, by decide⟩ | exact .inr ⟨by omega, by omega⟩ | exact .inl ⟨by omega, by omega⟩) ?_
              refine x_I0 ?_
              refine x_I0 ?_
              refine x_I (by first | decide | (show (0 : Int) < _; omega)) ?_
              try dsimp only [tMethS1, tMethKS1, WE, tSeq, tAsg, gName, tOp, tUn, tCB, tCons, tNil, tCall, tMethK1, tCallK1, tPar3, tRet, tRetN, tDrop, tTest, tB, tC, tNext, tAugS, tAug, sFld1, sFldAug1, tMeth1, tMake, tMakeK1, tSl, tPart, tNoPart, sDPut1, tDPop, tBM, tBM0, tPar, gSub, tChain, tNot, tNotV, tDG1, tDG2, tDNewT1, iKeys1, iEnum1, iList1, iTup1, iRng1, iRng2, List.set_cons_zero, List.set_cons_succ]
              refine x_var (by exact rfl) ?_
              refine x_var (by exact rfl) ?_
              refine x_I (by first | exact .inr ⟨by decide, by decide⟩ | exact .inl ⟨by decide, by decide⟩ | exact .inr ⟨by omega, by omega⟩ | exact .inl ⟨by omega, by omega⟩) ?_
              refine x_I (by first | decide | (show (0 : Int) < _; omega)) ?_
              refine x_I (by first | exact ⟨by decide, by decide⟩ | exact div_ok (by omega) (by omega)) ?_
              refine x_var (by exact rfl) ?_
              refine x_I (by first | decide | (show (0 : Int) < _; omega)) ?_
              exact k _ _ _ _ _ _ (Int.emod_nonneg _ (by omega)) (Int.emod_lt_of_pos _ (by omega)) ⟨by omega, by omega, Int.emod_nonneg _ (by decide), Int.emod_lt_of_pos _ (by decide), hd.gp, hd.gl⟩ (S.get 2 rfl) (S.get 3 rfl) S.out2
            · try dsimp only [tMethS1, tMethKS1, WE, tSeq, tAsg, gName, tOp, tUn, tCB, tCons, tNil, tCall, tMethK1, tCallK1, tPar3, tRet, tRetN, tDrop, tTest, tB, tC, tNext, tAugS, tAug, sFld1, sFldAug1, tMeth1, tMake, tMakeK1, tSl, tPart, tNoPart, sDPut1, tDPop, tBM, tBM0, tPar, gSub, tChain, tNot, tNotV, tDG1, tDG2, tDNewT1, iKeys1, iEnum1, iList1, iTup1, iRng1, iRng2, List.set_cons_zero, List.set_cons_succ]
              refine x_var (by exact rfl) ?_
              refine x_dget (k := Sum.inr _) S 2 (by exact rfl) vl_drw_turn ?_
              refine x_I0 ?_
              refine x_var (by exact rfl) ?_
              refine x_dputR (k := Sum.inr _) S 2 (by exact rfl) pk_drw_turn ln_drw (fun H S => ?_)
              simp only [List.set_cons_zero, List.set_cons_succ] at S
              try dsimp only [tMethS1, tMethKS1, WE, tSeq, tAsg, gName, tOp, tUn, tCB, tCons, tNil, tCall, tMethK1, tCallK1, tPar3, tRet, tRetN, tDrop, tTest, tB, tC, tNext, tAugS, tAug, sFld1, sFldAug1, tMeth1, tMake, tMakeK1, tSl, tPart, tNoPart, sDPut1, tDPop, tBM, tBM0, tPar, gSub, tChain, tNot, tNotV, tDG1, tDG2, tDNewT1, iKeys1, iEnum1, iList1, iTup1, iRng1, iRng2, List.set_cons_zero, List.set_cons_succ]
              refine x_var (by exact rfl) ?_
              refine x_dget (k := Sum.inr _) S 2 (by exact rfl) vl_drw_more ?_
              refine x_I (by first | exact .inr ⟨by decide, by decide⟩ | exact .inl ⟨by decide, by decide⟩ | exact .inr ⟨by omega, by omega⟩ | exact .inl ⟨by omega, by omega⟩) ?_
              refine x_var (by exact rfl) ?_
              refine x_I0 ?_
              refine x_var (by exact rfl) ?_
              refine x_dget (k := Sum.inr _) S 2 (by exact rfl) vl_drw_turn ?_
              refine x_I (by first | exact .inr ⟨by decide, by decide⟩ | exact .inl ⟨by decide, by decide⟩ | exact .inr ⟨by omega, by omega⟩ | exact .inl ⟨by omega, by omega⟩) ?_
              refine x_I0 ?_
              refine x_I (by first | decide | (show (0 : Int) < _; omega)) ?_
              refine x_var (by exact rfl) ?_
              refine x_dputR (k := Sum.inr _) S 2 (by exact rfl) pk_drw_more ln_drw (fun H S => ?_)
              simp only [List.set_cons_zero, List.set_cons_succ] at S
              try dsimp only [tMethS1, tMethKS1, WE, tSeq, tAsg, gName, tOp, tUn, tCB, tCons, tNil, tCall, tMethK1, tCallK1, tPar3, tRet, tRetN, tDrop, tTest, tB, tC, tNext, tAugS, tAug, sFld1, sFldAug1, tMeth1, tMake, tMakeK1, tSl, tPart, tNoPart, sDPut1, tDPop, tBM, tBM0, tPar, gSub, tChain, tNot, tNotV, tDG1, tDG2, tDNewT1, iKeys1, iEnum1, iList1, iTup1, iRng1, iRng2, List.set_cons_zero, List.set_cons_succ]
              refine x_var (by exact rfl) ?_
              refine x_dget (k := Sum.inr _) S 2 (by exact rfl) vl_drw_more ?_
              refine x_var (by exact rfl) ?_
              refine x_dget (k := Sum.inr _) S 2 (by exact rfl) vl_drw_more ?_
              refine x_I (by first | exact .inr ⟨by decide, by decide⟩ | exact .inl ⟨by decide, by decide⟩ | exact .inr ⟨by omega, by omega⟩ | exact .inl ⟨by omega, by omega⟩) ?_
              refine x_var (by exact rfl) ?_
              refine x_dget (k := Sum.inr _) S 2 (by exact rfl) vl_drw_more ?_
              refine x_I (by first | exact .inr ⟨by decide, by decide⟩ | exact .inl ⟨by decide, by decide⟩ | exact .inr ⟨by omega, by omega⟩ | exact .inl ⟨by omega, by omega⟩) ?_
              refine x_I0 ?_
              refine x_I0 ?_
              refine x_I (by first | decide | (show (0 : Int) < _; omega)) ?_
              try dsimp only [tMethS1, tMethKS1, WE, tSeq, tAsg, gName, tOp, tUn, tCB, tCons, tNil, tCall, tMethK1, tCallK1, tPar3, tRet, tRetN, tDrop, tTest, tB, tC, tNext, tAugS, tAug, sFld1, sFldAug1, tMeth1, tMake, tMakeK1, tSl, tPart, tNoPart, sDPut1, tDPop, tBM, tBM0, tPar, gSub, tChain, tNot, tNotV, tDG1, tDG2, tDNewT1, iKeys1, iEnum1, iList1, iTup1, iRng1, iRng2, List.set_cons_zero, List.set_cons_succ]
              refine x_var (by exact rfl) ?_
              refine x_var (by exact rfl) ?_
              refine x_I (by first | exact .inr ⟨by decide, by decide⟩ | exact .inl ⟨by decide, by decide⟩ | exact .inr ⟨by omega, by omega⟩ | exact .inl ⟨by omega, by omega⟩) ?_
              refine x_I (by first | decide | (show (0 : Int) < _; omega)) ?_
              refine x_I (by first | exact ⟨by decide, by decide⟩ | exact div_ok (by omega) (by omega)) ?_
              refine x_var (by exact rfl) ?_
              refine x_I (by first | decide | (show (0 : Int) < _; omega)) ?_
              exact k _ _ _ _ _ _ (Int.emod_nonneg _ (by omega)) (Int.emod_lt_of_pos _ (by omega)) ⟨by omega, by omega, Int.emod_nonneg _ (by decide), Int.emod_lt_of_pos _ (by decide), hd.gp, hd.gl⟩ (S.get 2 rfl) (S.get 3 rfl) S.out2
      · refine iteF ?_
        have hr0 := hd.r0
        have ht0 := hd.t0
        have hm0 := hd.m0
        have hm1 := hd.m1
        try dsimp only [tMethS1, tMethKS1, WE, tSeq, tAsg, gName, tOp, tUn, tCB, tCons, tNil, tCall, tMethK1, tCallK1, tPar3, tRet, tRetN, tDrop, tTest, tB, tC, tNext, tAugS, tAug, sFld1, sFldAug1, tMeth1, tMake, tMakeK1, tSl, tPart, tNoPart, sDPut1, tDPop, tBM, tBM0, tPar, gSub, tChain, tNot, tNotV, tDG1, tDG2, tDNewT1, iKeys1, iEnum1, iList1, iTup1, iRng1, iRng2, List.set_cons_zero, List.set_cons_succ]
        try dsimp only [tMethS1, tMethKS1, WE, tSeq, tAsg, gName, tOp, tUn, tCB, tCons, tNil, tCall, tMethK1, tCallK1, tPar3, tRet, tRetN, tDrop, tTest, tB, tC, tNext, tAugS, tAug, sFld1, sFldAug1, tMeth1, tMake, tMakeK1, tSl, tPart, tNoPart, sDPut1, tDPop, tBM, tBM0, tPar, gSub, tChain, tNot, tNotV, tDG1, tDG2, tDNewT1, iKeys1, iEnum1, iList1, iTup1, iRng1, iRng2, List.set_cons_zero, List.set_cons_succ]
        refine x_if ?_
        try dsimp only [tMethS1, tMethKS1, WE, tSeq, tAsg, gName, tOp, tUn, tCB, tCons, tNil, tCall, tMethK1, tCallK1, tPar3, tRet, tRetN, tDrop, tTest, tB, tC, tNext, tAugS, tAug, sFld1, sFldAug1, tMeth1, tMake, tMakeK1, tSl, tPart, tNoPart, sDPut1, tDPop, tBM, tBM0, tPar, gSub, tChain, tNot, tNotV, tDG1, tDG2, tDNewT1, iKeys1, iEnum1, iList1, iTup1, iRng1, iRng2, List.set_cons_zero, List.set_cons_succ]
        refine x_var (by exact rfl) ?_
        refine x_dget (k := Sum.inr _) S 0 (by exact rfl) vl_drw_rest ?_
        refine x_I0 ?_
        refine ⟨_, rfl, ?_⟩
        refine ited (fun c5 => ?_) (fun c5 => ?_)
        · try dsimp only [tMethS1, tMethKS1, WE, tSeq, tAsg, gName, tOp, tUn, tCB, tCons, tNil, tCall, tMethK1, tCallK1, tPar3, tRet, tRetN, tDrop, tTest, tB, tC, tNext, tAugS, tAug, sFld1, sFldAug1, tMeth1, tMake, tMakeK1, tSl, tPart, tNoPart, sDPut1, tDPop, tBM, tBM0, tPar, gSub, tChain, tNot, tNotV, tDG1, tDG2, tDNewT1, iKeys1, iEnum1, iList1, iTup1, iRng1, iRng2, List.set_cons_zero, List.set_cons_succ]
          refine x_var (by exact rfl) ?_
          refine x_dget (k := Sum.inr _) S 0 (by exact rfl) vl_drw_rest ?_
          refine x_var (by exact rfl) ?_
          refine x_I (by first | decide | (show (0 : Int) < _; omega)) ?_
          try dsimp only [tMethS1, tMethKS1, WE, tSeq, tAsg, gName, tOp, tUn, tCB, tCons, tNil, tCall, tMethK1, tCallK1, tPar3, tRet, tRetN, tDrop, tTest, tB, tC, tNext, tAugS, tAug, sFld1, sFldAug1, tMeth1, tMake, tMakeK1, tSl, tPart, tNoPart, sDPut1, tDPop, tBM, tBM0, tPar, gSub, tChain, tNot, tNotV, tDG1, tDG2, tDNewT1, iKeys1, iEnum1, iList1, iTup1, iRng1, iRng2, List.set_cons_zero, List.set_cons_succ]
          refine x_var (by exact rfl) ?_
          refine x_dget (k := Sum.inr _) S 0 (by exact rfl) vl_drw_rest ?_
          refine x_var (by exact rfl) ?_
          refine x_I (by first | exact ⟨by decide, by decide⟩ | exact div_ok (by omega) (by omega)) ?_
          refine x_var (by exact rfl) ?_
          refine x_dputR (k := Sum.inr _) S 0 (by exact rfl) pk_drw_rest ln_drw (fun H S => ?_)
          simp only [List.set_cons_zero, List.set_cons_succ] at S
          try dsimp only [tMethS1, tMethKS1, WE, tSeq, tAsg, gName, tOp, tUn, tCB, tCons, tNil, tCall, tMethK1, tCallK1, tPar3, tRet, tRetN, tDrop, tTest, tB, tC, tNext, tAugS, tAug, sFld1, sFldAug1, tMeth1, tMake, tMakeK1, tSl, tPart, tNoPart, sDPut1, tDPop, tBM, tBM0, tPar, gSub, tChain, tNot, tNotV, tDG1, tDG2, tDNewT1, iKeys1, iEnum1, iList1, iTup1, iRng1, iRng2, List.set_cons_zero, List.set_cons_succ]
          refine x_var (by exact rfl) ?_
          exact k _ _ _ _ _ _ (Int.emod_nonneg _ (by omega)) (Int.emod_lt_of_pos _ (by omega)) ⟨Int.ediv_nonneg (by omega) (by omega), hd.t0, hd.m0, hd.m1, hd.gp, hd.gl⟩ (S.get 0 rfl) (S.get 1 rfl) S.out2
        · try dsimp only [tMethS1, tMethKS1, WE, tSeq, tAsg, gName, tOp, tUn, tCB, tCons, tNil, tCall, tMethK1, tCallK1, tPar3, tRet, tRetN, tDrop, tTest, tB, tC, tNext, tAugS, tAug, sFld1, sFldAug1, tMeth1, tMake, tMakeK1, tSl, tPart, tNoPart, sDPut1, tDPop, tBM, tBM0, tPar, gSub, tChain, tNot, tNotV, tDG1, tDG2, tDNewT1, iKeys1, iEnum1, iList1, iTup1, iRng1, iRng2, List.set_cons_zero, List.set_cons_succ]
          try dsimp only [tMethS1, tMethKS1, WE, tSeq, tAsg, gName, tOp, tUn, tCB, tCons, tNil, tCall, tMethK1, tCallK1, tPar3, tRet, tRetN, tDrop, tTest, tB, tC, tNext, tAugS, tAug, sFld1, sFldAug1, tMeth1, tMake, tMakeK1, tSl, tPart, tNoPart, sDPut1, tDPop, tBM, tBM0, tPar, gSub, tChain, tNot, tNotV, tDG1, tDG2, tDNewT1, iKeys1, iEnum1, iList1, iTup1, iRng1, iRng2, List.set_cons_zero, List.set_cons_succ]
          refine x_if ?_
          try dsimp only [tMethS1, tMethKS1, WE, tSeq, tAsg, gName, tOp, tUn, tCB, tCons, tNil, tCall, tMethK1, tCallK1, tPar3, tRet, tRetN, tDrop, tTest, tB, tC, tNext, tAugS, tAug, sFld1, sFldAug1, tMeth1, tMake, tMakeK1, tSl, tPart, tNoPart, sDPut1, tDPop, tBM, tBM0, tPar, gSub, tChain, tNot, tNotV, tDG1, tDG2, tDNewT1, iKeys1, iEnum1, iList1, iTup1, iRng1, iRng2, List.set_cons_zero, List.set_cons_succ]
          refine x_var (by exact rfl) ?_
          refine x_dget (k := Sum.inr _) S 0 (by exact rfl) vl_drw_cells ?_
          refine x_lst S (by exact Nat.le_of_ble_eq_true rfl) (fun L3 H S => ?_)
          refine x_neL (ys := []) S 3 0 (by exact rfl) (by exact rfl) ?_
          refine ⟨_, rfl, ?_⟩
          refine itend (fun c6 => ?_) (fun c6 => ?_)
          · try dsimp only [tMethS1, tMethKS1, WE, tSeq, tAsg, gName, tOp, tUn, tCB, tCons, tNil, tCall, tMethK1, tCallK1, tPar3, tRet, tRetN, tDrop, tTest, tB, tC, tNext, tAugS, tAug, sFld1, sFldAug1, tMeth1, tMake, tMakeK1, tSl, tPart, tNoPart, sDPut1, tDPop, tBM, tBM0, tPar, gSub, tChain, tNot, tNotV, tDG1, tDG2, tDNewT1, iKeys1, iEnum1, iList1, iTup1, iRng1, iRng2, List.set_cons_zero, List.set_cons_succ]
            have hcl : 0 < cs.length := List.length_pos_iff.mpr (by assumption)
            refine x_var (by exact rfl) ?_
            refine x_dget (k := Sum.inr _) S 1 (by exact rfl) vl_drw_cells ?_
            refine x_var (by exact rfl) ?_
            refine x_dget (k := Sum.inr _) S 1 (by exact rfl) vl_drw_turn ?_
            refine x_var (by exact rfl) ?_
            refine x_dget (k := Sum.inr _) S 1 (by exact rfl) vl_drw_cells ?_
            refine x_lenI S 3 (by exact rfl) ?_
            refine x_I (by first | decide | (show (0 : Int) < _; omega)) ?_
            refine x_ixI S 3 (by exact rfl) (by first | omega | exact Int.emod_nonneg _ (by omega)) (by first | omega | exact Int.emod_lt_of_pos _ (by omega)) (fun v2 hv2 => ?_)
            try dsimp only [tMethS1, tMethKS1, WE, tSeq, tAsg, gName, tOp, tUn, tCB, tCons, tNil, tCall, tMethK1, tCallK1, tPar3, tRet, tRetN, tDrop, tTest, tB, tC, tNext, tAugS, tAug, sFld1, sFldAug1, tMeth1, tMake, tMakeK1, tSl, tPart, tNoPart, sDPut1, tDPop, tBM, tBM0, tPar, gSub, tChain, tNot, tNotV, tDG1, tDG2, tDNewT1, iKeys1, iEnum1, iList1, iTup1, iRng1, iRng2, List.set_cons_zero, List.set_cons_succ]
            refine x_var (by exact rfl) ?_
            refine x_dget (k := Sum.inr _) S 1 (by exact rfl) vl_drw_turn ?_
            refine x_I0 ?_
            refine x_var (by exact rfl) ?_
            refine x_dputR (k := Sum.inr _) S 1 (by exact rfl) pk_drw_turn ln_drw (fun H S => ?_)
            simp only [List.set_cons_zero, List.set_cons_succ] at S
            try dsimp only [tMethS1, tMethKS1, WE, tSeq, tAsg, gName, tOp, tUn, tCB, tCons, tNil, tCall, tMethK1, tCallK1, tPar3, tRet, tRetN, tDrop, tTest, tB, tC, tNext, tAugS, tAug, sFld1, sFldAug1, tMeth1, tMake, tMakeK1, tSl, tPart, tNoPart, sDPut1, tDPop, tBM, tBM0, tPar, gSub, tChain, tNot, tNotV, tDG1, tDG2, tDNewT1, iKeys1, iEnum1, iList1, iTup1, iRng1, iRng2, List.set_cons_zero, List.set_cons_succ]
            refine x_var (by exact rfl) ?_
            refine x_dget (k := Sum.inr _) S 1 (by exact rfl) vl_drw_more ?_
            refine x_I (by first | exact .inr ⟨by decide, by decide⟩ | exact .inl ⟨by decide, by decide⟩ | exact .inr ⟨by omega, by omega⟩ | exact .inl ⟨by omega, by omega⟩) ?_
            refine x_var (by exact rfl) ?_
            refine x_I0 ?_
            refine x_var (by exact rfl) ?_
            refine x_dget (k := Sum.inr _) S 1 (by exact rfl) vl_drw_turn ?_
            refine x_I (by first | exact .inr ⟨by decide, by decide⟩ | exact .inl ⟨by decide, by decide⟩ | exact .inr ⟨by omega, by omega⟩ | exact .inl ⟨by omega, by omega⟩) ?_
            refine x_I0 ?_
            refine x_I (by first | decide | (show (0 : Int) < _; omega)) ?_
            refine x_var (by exact rfl) ?_
            refine x_dputR (k := Sum.inr _) S 1 (by exact rfl) pk_drw_more ln_drw (fun H S => ?_)
            simp only [List.set_cons_zero, List.set_cons_succ] at S
            try dsimp only [tMethS1, tMethKS1, WE, tSeq, tAsg, gName, tOp, tUn, tCB, tCons, tNil, tCall, tMethK1, tCallK1, tPar3, tRet, tRetN, tDrop, tTest, tB, tC, tNext, tAugS, tAug, sFld1, sFldAug1, tMeth1, tMake, tMakeK1, tSl, tPart, tNoPart, sDPut1, tDPop, tBM, tBM0, tPar, gSub, tChain, tNot, tNotV, tDG1, tDG2, tDNewT1, iKeys1, iEnum1, iList1, iTup1, iRng1, iRng2, List.set_cons_zero, List.set_cons_succ]
            refine x_var (by exact rfl) ?_
            refine x_dget (k := Sum.inr _) S 1 (by exact rfl) vl_drw_more ?_
            refine x_var (by exact rfl) ?_
            refine x_dget (k := Sum.inr _) S 1 (by exact rfl) vl_drw_more ?_
            refine x_I (by first | exact .inr ⟨by decide, by decide⟩ | exact .inl ⟨by decide, by decide⟩ | exact .inr ⟨by omega, by omega⟩ | exact .inl ⟨by omega, by omega⟩) ?_
            refine x_var (by exact rfl) ?_
            refine x_dget (k := Sum.inr _) S 1 (by exact rfl) vl_drw_more ?_
            refine x_I (by first | exact .inr ⟨by decide, by decide⟩ | exact .inl ⟨by decide, by decide⟩ | exact .inr ⟨by omega, by omega⟩ | exact .inl ⟨by omega, by omega⟩) ?_
            refine x_I0 ?_
            refine x_I0 ?_
            refine x_I (by first | decide | (show (0 : Int) < _; omega)) ?_
            try dsimp only [tMethS1, tMethKS1, WE, tSeq, tAsg, gName, tOp, tUn, tCB, tCons, tNil, tCall, tMethK1, tCallK1, tPar3, tRet, tRetN, tDrop, tTest, tB, tC, tNext, tAugS, tAug, sFld1, sFldAug1, tMeth1, tMake, tMakeK1, tSl, tPart, tNoPart, sDPut1, tDPop, tBM, tBM0, tPar, gSub, tChain, tNot, tNotV, tDG1, tDG2, tDNewT1, iKeys1, iEnum1, iList1, iTup1, iRng1, iRng2, List.set_cons_zero, List.set_cons_succ]
            refine x_var (by exact rfl) ?_
            refine x_var (by exact rfl) ?_
            refine x_I (by first | exact .inr ⟨by decide, by decide⟩ | exact .inl ⟨by decide, by decide⟩ | exact .inr ⟨by omega, by omega⟩ | exact .inl ⟨by omega, by omega⟩) ?_
            refine x_I (by first | decide | (show (0 : Int) < _; omega)) ?_
            refine x_I (by first | exact ⟨by decide, by decide⟩ | exact div_ok (by omega) (by omega)) ?_
            refine x_var (by exact rfl) ?_
            refine x_I (by first | decide | (show (0 : Int) < _; omega)) ?_
            exact k _ _ _ _ _ _ (Int.emod_nonneg _ (by omega)) (Int.emod_lt_of_pos _ (by omega)) ⟨by omega, by omega, Int.emod_nonneg _ (by decide), Int.emod_lt_of_pos _ (by decide), hd.gp, hd.gl⟩ (S.get 1 rfl) (S.get 2 rfl) S.out2
          · try dsimp only [tMethS1, tMethKS1, WE, tSeq, tAsg, gName, tOp, tUn, tCB, tCons, tNil, tCall, tMethK1, tCallK1, tPar3, tRet, tRetN, tDrop, tTest, tB, tC, tNext, tAugS, tAug, sFld1, sFldAug1, tMeth1, tMake, tMakeK1, tSl, tPart, tNoPart, sDPut1, tDPop, tBM, tBM0, tPar, gSub, tChain, tNot, tNotV, tDG1, tDG2, tDNewT1, iKeys1, iEnum1, iList1, iTup1, iRng1, iRng2, List.set_cons_zero, List.set_cons_succ]
            refine x_var (by exact rfl) ?_
            refine x_dget (k := Sum.inr _) S 1 (by exact rfl) vl_drw_turn ?_
            refine x_I0 ?_
            refine x_var (by exact rfl) ?_
            refine x_dputR (k := Sum.inr _) S 1 (by exact rfl) pk_drw_turn ln_drw (fun H S => ?_)
            simp only [List.set_cons_zero, List.set_cons_succ] at S
            try dsimp only [tMethS1, tMethKS1, WE, tSeq, tAsg, gName, tOp, tUn, tCB, tCons, tNil, tCall, tMethK1, tCallK1, tPar3, tRet, tRetN, tDrop, tTest, tB, tC, tNext, tAugS, tAug, sFld1, sFldAug1, tMeth1, tMake, tMakeK1, tSl, tPart, tNoPart, sDPut1, tDPop, tBM, tBM0, tPar, gSub, tChain, tNot, tNotV, tDG1, tDG2, tDNewT1, iKeys1, iEnum1, iList1, iTup1, iRng1, iRng2, List.set_cons_zero, List.set_cons_succ]
            refine x_var (by exact rfl) ?_
            refine x_dget (k := Sum.inr _) S 1 (by exact rfl) vl_drw_more ?_
            refine x_I (by first | exact .inr ⟨by decide, by decide⟩ | exact .inl ⟨by decide, by decide⟩ | exact .inr ⟨by omega, by omega⟩ | exact .inl ⟨by omega, by omega⟩) ?_
            refine x_var (by exact rfl) ?_
            refine x_I0 ?_
            refine x_var (by exact rfl) ?_
            refine x_dget (k := Sum.inr _) S 1 (by exact rfl) vl_drw_turn ?_
            refine x_I (by first | exact .inr ⟨by decide, by decide⟩ | exact .inl ⟨by decide, by decide⟩ | exact .inr ⟨by omega, by omega⟩ | exact .inl ⟨by omega, by omega⟩) ?_
            refine x_I0 ?_
            refine x_I (by first | decide | (show (0 : Int) < _; omega)) ?_
            refine x_var (by exact rfl) ?_
            refine x_dputR (k := Sum.inr _) S 1 (by exact rfl) pk_drw_more ln_drw (fun H S => ?_)
            simp only [List.set_cons_zero, List.set_cons_succ] at S
            try dsimp only [tMethS1, tMethKS1, WE, tSeq, tAsg, gName, tOp, tUn, tCB, tCons, tNil, tCall, tMethK1, tCallK1, tPar3, tRet, tRetN, tDrop, tTest, tB, tC, tNext, tAugS, tAug, sFld1, sFldAug1, tMeth1, tMake, tMakeK1, tSl, tPart, tNoPart, sDPut1, tDPop, tBM, tBM0, tPar, gSub, tChain, tNot, tNotV, tDG1, tDG2, tDNewT1, iKeys1, iEnum1, iList1, iTup1, iRng1, iRng2, List.set_cons_zero, List.set_cons_succ]
            refine x_var (by exact rfl) ?_
            refine x_dget (k := Sum.inr _) S 1 (by exact rfl) vl_drw_more ?_
            refine x_var (by exact rfl) ?_
            refine x_dget (k := Sum.inr _) S 1 (by exact rfl) vl_drw_more ?_
            refine x_I (by first | exact .inr ⟨by decide, by decide⟩ | exact .inl ⟨by decide, by decide⟩ | exact .inr ⟨by omega, by omega⟩ | exact .inl ⟨by omega, by omega⟩) ?_
            refine x_var (by exact rfl) ?_
            refine x_dget (k := Sum.inr _) S 1 (by exact rfl) vl_drw_more ?_
            refine x_I (by first | exact .inr ⟨by decide, by decide⟩ | exact .inl ⟨by decide, by decide⟩ | exact .inr ⟨by omega, by omega⟩ | exact .inl ⟨by omega, by omega⟩) ?_
            refine x_I0 ?_
            refine x_I0 ?_
            refine x_I (by first | decide | (show (0 : Int) < _; omega)) ?_
            try dsimp only [tMethS1, tMethKS1, WE, tSeq, tAsg, gName, tOp, tUn, tCB, tCons, tNil, tCall, tMethK1, tCallK1, tPar3, tRet, tRetN, tDrop, tTest, tB, tC, tNext, tAugS, tAug, sFld1, sFldAug1, tMeth1, tMake, tMakeK1, tSl, tPart, tNoPart, sDPut1, tDPop, tBM, tBM0, tPar, gSub, tChain, tNot, tNotV, tDG1, tDG2, tDNewT1, iKeys1, iEnum1, iList1, iTup1, iRng1, iRng2, List.set_cons_zero, List.set_cons_succ]
            refine x_var (by exact rfl) ?_
            refine x_var (by exact rfl) ?_
            refine x_I (by first | exact .inr ⟨by decide, by decide⟩ | exact .inl ⟨by decide, by decide⟩ | exact .inr ⟨by omega, by omega⟩ | exact .inl ⟨by omega, by omega⟩) ?_
            refine x_I (by first | decide | (show (0 : Int) < _; omega)) ?_
            refine x_I (by first | exact ⟨by decide, by decide⟩ | exact div_ok (by omega) (by omega)) ?_
            refine x_var (by exact rfl) ?_
            refine x_I (by first | decide | (show (0 : Int) < _; omega)) ?_
            exact k _ _ _ _ _ _ (Int.emod_nonneg _ (by omega)) (Int.emod_lt_of_pos _ (by omega)) ⟨by omega, by omega, Int.emod_nonneg _ (by decide), Int.emod_lt_of_pos _ (by decide), hd.gp, hd.gl⟩ (S.get 1 rfl) (S.get 2 rfl) S.out2
end

theorem Sep.sqt {K : PySem.W.Frag} {H0 H : Hp} {ft : List Addr} {l : List Cell} {a : Addr} {xs : List V} (S : Sep H0 ft H l) (h : SqT K H0 a xs) (ha : a ∉ ft) : SqT K H a xs := by
  rcases h with (h | ⟨o, h⟩) | h
  · exact .inl (.inl (S.fr _ _ h ha))
  · exact .inl (.inr ⟨o, S.fr _ _ h ha⟩)
  · exact .inr h
theorem at_of {α : Type} {xs : List α} {i : Int} (h0 : 0 ≤ i) (h : i < xs.length) : ∃ c, c ∈ xs ∧ atI xs i = some c := by
  have hl : i.toNat < xs.length := by omega
  refine ⟨xs[i.toNat], List.getElem_mem hl, ?_⟩
  unfold atI
  rw [ixN_in h0 h]
  exact List.getElem?_eq_getElem hl
/-- what is picked of: a list, a tuple, a text; P of each of its things -/
def SomeV (K : PySem.W.Frag) (H : Hp) (dp dg : Addr) (x : V) (P : V → Prop) : Prop :=
  (∃ s xs, x = .ref s ∧ SqL K H s xs ∧ s ∉ [dp, dg] ∧ 0 < xs.length ∧ xs.length < 10 ^ 9 ∧ ∀ v ∈ xs, P v) ∨ (∃ s xs, x = .ref s ∧ SqT K H s xs ∧ s ∉ [dp, dg] ∧ 0 < xs.length ∧ xs.length < 10 ^ 9 ∧ ∀ v ∈ xs, P v) ∨
  ∃ z : Str, x = .str z ∧ 0 < z.length ∧ z.length < 10000 ∧ ∀ c ∈ z.cps.toList, P (.str ⟨#[c]⟩)
def spPick (K : PySem.W.Frag) : Sp := fun vs H Q _ => ∃ (dp dg dc : Addr) (dr dt dm : Int) (gs cs : List Int) (x : V) (P : V → Prop), vs = [.ref dp, x] ∧ Sep H [dp, dg] H [(1, dp, .dK (R_drw dg dc dr dt dm)), (1, dg, .lst (gs.map V.int)), (0, dc, .lst (cs.map V.int))] ∧ Drw dr dt dm gs ∧ SomeV K H dp dg x P ∧
  ∀ (v : V) (dr' dt' dm' : Int) (gs' : List Int) (H' : Hp), P v → Drw dr' dt' dm' gs' → H' dp = some (.dK (R_drw dg dc dr' dt' dm')) → H' dg = some (.lst (gs'.map V.int)) → (∀ b o, H b = some o → b ≠ dp → b ≠ dg → H' b = some o) → Q v H'
theorem c_pick {K : PySem.W.Frag} {H0 H : Hp} {ft : List Addr} {l : List Cell} {t1 t2 t3 : Nat} {dp dg dc : Addr} {dr dt dm : Int} {gs cs : List Int} {x : V} {Q : VK} {E : XK} (P : V → Prop) (S : Sep H0 ft H l) (i j k : Nat) (hi : l[i]? = some (t1, dp, .dK (R_drw dg dc dr dt dm))) (hj : l[j]? = some (t2, dg, .lst (gs.map V.int))) (hk : l[k]? = some (t3, dc, .lst (cs.map V.int)))
    (h : Drw dr dt dm gs) (hx : SomeV K H dp dg x P) (q : ∀ (v : V) (dr dt dm : Int) (gs : List Int) (H' : Hp), P v → Drw dr dt dm gs → Sep H0 ft H' ((l.set i (t1, dp, .dK (R_drw dg dc dr dt dm))).set j (t2, dg, .lst (gs.map V.int))) → Q v H')
    (hn : [i, j, k].Nodup := by decide) (ht1 : t1 = 1 ∨ t1 = 2 := by first | exact .inl rfl | exact .inr rfl) (ht2 : t2 = 1 ∨ t2 = 2 := by first | exact .inl rfl | exact .inr rfl) : spPick K [.ref dp, x] H Q E :=
  ⟨dp, dg, dc, dr, dt, dm, gs, cs, x, P, rfl, by
    have g3 := S.give3 i j k hi hj hk hn
    exact (g3.retag rfl (by simp) (by simp) (by simp)), h, hx, fun v dr' dt' dm' gs' H' hp hd e1 e2 F => q v dr' dt' dm' gs' H' hp hd (S.chg2 i j hi hj (fun z => by subst z; simp at hn) F e1 e2 ht1 ht2)⟩
theorem SomeV.lst {K : PySem.W.Frag} {H0 H : Hp} {ft : List Addr} {l : List Cell} {t t1 t2 : Nat} {s dp dg : Addr} {o1 o2 : HO} {xs : List V} {P : V → Prop} (S : Sep H0 ft H l) (n i j : Nat) (h : l[n]? = some (t, s, .lst xs)) (hi : l[i]? = some (t1, dp, o1)) (hj : l[j]? = some (t2, dg, o2)) (h0 : 0 < xs.length) (h1 : xs.length < 10 ^ 9) (hp : ∀ v ∈ xs, P v)
    (d1 : n ≠ i := by decide) (d2 : n ≠ j := by decide) : SomeV K H dp dg (.ref s) P := .inl ⟨s, xs, rfl, S.sl n h, by simp [S.ne n i h hi d1, S.ne n j h hj d2], h0, h1, hp⟩
theorem SomeV.tup {K : PySem.W.Frag} {H0 H : Hp} {ft : List Addr} {l : List Cell} {t t1 t2 : Nat} {s dp dg : Addr} {o1 o2 : HO} {xs : List V} {P : V → Prop} (S : Sep H0 ft H l) (n i j : Nat) (h : l[n]? = some (t, s, .tup xs)) (hi : l[i]? = some (t1, dp, o1)) (hj : l[j]? = some (t2, dg, o2)) (h0 : 0 < xs.length) (h1 : xs.length < 10 ^ 9) (hp : ∀ v ∈ xs, P v)
    (d1 : n ≠ i := by decide) (d2 : n ≠ j := by decide) : SomeV K H dp dg (.ref s) P := .inr (.inl ⟨s, xs, rfl, S.st n h, by simp [S.ne n i h hi d1, S.ne n j h hj d2], h0, h1, hp⟩)
def rLenV (K : PySem.W.Frag) : List V → Hp → VK → Prop := fun xs H Q => ∃ x n, xs = [x] ∧ LenV K x H n ∧ Q (.int n) H
theorem cl_lenV {X : Cx} (K : PySem.W.Frag) (h : X.K = K := by rfl) : CallR X (.builtin "len") (rLenV K) := by subst h; exact call_len
theorem ix_seqK {X : Cx} (K : PySem.W.Frag) (h : X.K = K := by rfl) : IxR X (rIx K) := by subst h; exact ix_seq
theorem line10 {n : Nat} (h : n < 10000) : n ≤ sizeLine := Nat.le_of_lt (Nat.lt_of_lt_of_le h (by decide))
section
variable {P : Program} {w : World} {K : PySem.W.Frag} {mg : Str → Option Value} {base : Heap}
abbrev s_law_pick : Stmt := (topS 12)
theorem sc_law_pick : FnScope ["_law_draw", "_law_some"] ["_law_draw", "_law_some"] (defScope s_law_pick) := ⟨rfl, rfl, rfl, by decide +kernel, rfl, by decide +kernel, by decide +kernel⟩
theorem ok_law_pick {f : Addr} {fd : FuncData} (F : L2.Fun K "_law_pick" "_law_pick" s_law_pick f fd) (ctake : Cal P w K mg base CX0 1 "_law_take" spLTake) (z_len : mg "len" = none) : FnOk P w K mg base CX0 2 f fd ["_law_draw", "_law_some"] (spPick K) := by
  refine F.ok sc_law_pick (fun vs H Q E h => ?_) (fun cdv A outer s H0 vs Q E hr h => ?_)
  · obtain ⟨dp, dg, dc, dr, dt, dm, gs, cs, x, P0, rfl, S, hd, hx, k⟩ := h
    rfl
  · obtain ⟨dp, dg, dc, dr, dt, dm, gs, cs, x, P0, rfl, S, hd, hx, k⟩ := h
    have hu := hu_of hr

    refine ⟨_, pss_one (ps_ret (pe_ix (ix_seqK K) (pv 1) (pe_c ctake hr (by decide) (by rfl) pass0 (pa_cons (pv 0) (pa_cons (pe_callB (cl_lenV K) (by rfl) z_len PySem.boot_len (pa_cons (pv 1) pa_nil)) pa_nil))) (fun _ _ => rfl))), ?_⟩
    rw [show start ["_law_draw", "_law_some"] [V.ref dp, x] = [some (V.ref dp), some (x)] from rfl]
    rcases hx with ⟨s, xs, rfl, hs, hns, h0, h1, hp⟩ | ⟨s, xs, rfl, hs, hns, h0, h1, hp⟩ | ⟨z, rfl, h0, h1, hp⟩
    · try dsimp only [tMethS1, tMethKS1, WE, tSeq, tAsg, gName, tOp, tUn, tCB, tCons, tNil, tCall, tMethK1, tCallK1, tPar3, tRet, tRetN, tDrop, tTest, tB, tC, tNext, tAugS, tAug, sFld1, sFldAug1, tMeth1, tMake, tMakeK1, tSl, tPart, tNoPart, sDPut1, tDPop, tBM, tBM0, tPar, gSub, tChain, tNot, tNotV, tDG1, tDG2, tDNewT1, iKeys1, iEnum1, iList1, iTup1, iRng1, iRng2, List.set_cons_zero, List.set_cons_succ]
      refine x_var (by exact rfl) ?_
      refine x_var (by exact rfl) ?_
      refine x_var (by exact rfl) ?_
      refine ⟨_, _, rfl, .inl ⟨_, S.sq hs hns, rfl⟩, ?_⟩
      refine c_ltake S 0 1 2 (by exact rfl) (by exact rfl) (by exact rfl) hd (by omega) (by omega) (fun v1 dr dt dm gs H v1a v1b hd S => ?_)
      simp only [List.set_cons_zero, List.set_cons_succ] at S
      obtain ⟨c, hc, ha⟩ := at_of (xs := xs) v1a v1b
      refine .inl ⟨_, _, _, _, rfl, rfl, S.sq hs hns, ha, ?_⟩
      exact k _ _ _ _ _ _ (hp _ hc) hd (S.get 0 rfl) (S.get 1 rfl) S.out2
    · try dsimp only [tMethS1, tMethKS1, WE, tSeq, tAsg, gName, tOp, tUn, tCB, tCons, tNil, tCall, tMethK1, tCallK1, tPar3, tRet, tRetN, tDrop, tTest, tB, tC, tNext, tAugS, tAug, sFld1, sFldAug1, tMeth1, tMake, tMakeK1, tSl, tPart, tNoPart, sDPut1, tDPop, tBM, tBM0, tPar, gSub, tChain, tNot, tNotV, tDG1, tDG2, tDNewT1, iKeys1, iEnum1, iList1, iTup1, iRng1, iRng2, List.set_cons_zero, List.set_cons_succ]
      refine x_var (by exact rfl) ?_
      refine x_var (by exact rfl) ?_
      refine x_var (by exact rfl) ?_
      refine ⟨_, _, rfl, .inr ⟨_, S.sqt hs hns, rfl⟩, ?_⟩
      refine c_ltake S 0 1 2 (by exact rfl) (by exact rfl) (by exact rfl) hd (by omega) (by omega) (fun v1 dr dt dm gs H v1a v1b hd S => ?_)
      simp only [List.set_cons_zero, List.set_cons_succ] at S
      obtain ⟨c, hc, ha⟩ := at_of (xs := xs) v1a v1b
      refine .inr (.inl ⟨_, _, _, _, rfl, rfl, S.sqt hs hns, ha, ?_⟩)
      exact k _ _ _ _ _ _ (hp _ hc) hd (S.get 0 rfl) (S.get 1 rfl) S.out2
    · try dsimp only [tMethS1, tMethKS1, WE, tSeq, tAsg, gName, tOp, tUn, tCB, tCons, tNil, tCall, tMethK1, tCallK1, tPar3, tRet, tRetN, tDrop, tTest, tB, tC, tNext, tAugS, tAug, sFld1, sFldAug1, tMeth1, tMake, tMakeK1, tSl, tPart, tNoPart, sDPut1, tDPop, tBM, tBM0, tPar, gSub, tChain, tNot, tNotV, tDG1, tDG2, tDNewT1, iKeys1, iEnum1, iList1, iTup1, iRng1, iRng2, List.set_cons_zero, List.set_cons_succ]
      refine x_var (by exact rfl) ?_
      refine x_var (by exact rfl) ?_
      refine x_var (by exact rfl) ?_
      refine ⟨_, _, rfl, ⟨line10 h1, rfl⟩, ?_⟩
      refine c_ltake S 0 1 2 (by exact rfl) (by exact rfl) (by exact rfl) hd (by omega) (by omega) (fun v1 dr dt dm gs H v1a v1b hd S => ?_)
      simp only [List.set_cons_zero, List.set_cons_succ] at S
      obtain ⟨c, hc, ha⟩ := at_of (xs := z.cps.toList) v1a (by rw [Array.length_toList]; exact v1b)
      refine .inr (.inr ⟨z, _, c, rfl, rfl, line10 h1, ha, ?_⟩)
      exact k _ _ _ _ _ _ (hp _ hc) hd (S.get 0 rfl) (S.get 1 rfl) S.out2
end

def spBegun (K : PySem.W.Frag) : Sp := fun vs H Q _ => ∃ (a : Addr) (ns : List Int), vs = [.ref a] ∧ SqL K H a (ns.map V.int) ∧ ns.length ≤ 1000 ∧ ∀ (dp dg dc : Addr) (gs cs : List Int) (H' : Hp), Drw 0 0 7 gs → Sep H [] H' [(2, dp, .dK (R_drw dg dc 0 0 7)), (2, dg, .lst (gs.map V.int)), (2, dc, .lst (cs.map V.int))] → Q (.ref dp) H'
section
variable {P : Program} {w : World} {K : PySem.W.Frag} {mg : Str → Option Value} {base : Heap}
abbrev s_law_begun : Stmt := (topS 10)
theorem sc_law_begun : FnScope ["_law_script", "_law_cells", "_law_cell"] ["_law_script"] (defScope s_law_begun) := ⟨rfl, rfl, rfl, by decide +kernel, rfl, by decide +kernel, by decide +kernel⟩
theorem ok_law_begun {f : Addr} {fd : FuncData} (F : L2.Fun K "_law_begun" "_law_begun" s_law_begun f fd) (z_abs : mg "abs" = none) : FnOk P w K mg base CX0 1 f fd ["_law_script"] (spBegun K) := by
  refine F.ok sc_law_begun (fun vs H Q E h => ?_) (fun cdv A outer s H0 vs Q E hr h => ?_)
  · obtain ⟨a, ns, rfl, hs, hl, k⟩ := h
    rfl
  · obtain ⟨a, ns, rfl, hs, hl, k⟩ := h
    have hu := hu_of hr
    have S := Sep.of0 (H := H0)
    refine ⟨_, pss_cons (ps_setLc (i := 1) (own := [("_law_cell", 2)]) (g := gName 2) rfl sc_law_begun.nd rfl rfl (sw_true rfl rfl rfl (by decide +kernel)) (pi_listK K (pv 0)) (blkOk_by (N := ["_law_script", "_law_cells", "_law_cell"]) (sc := defScope s_law_begun) (by decide +kernel)) (fun _ _ _ _ _ => pg_name (i := 2) sc_law_begun.nd rfl (.inl rfl)) (fun _ _ _ _ _ => pts_nil) (fun _ _ _ _ _ => pe_callB cl_abs (by rfl) z_abs (by decide +kernel) (pa_cons (pv 2) pa_nil)))
      (pss_one (ps_ret (pe_disp (pps_cons pe_str (pe_lc (own := [("_law_cell", 2)]) (g := gName 2) rfl sc_law_begun.nd (pi_listK K (pv 1)) (blkOk_by (N := ["_law_script", "_law_cells", "_law_cell"]) (sc := defScope s_law_begun) (by decide +kernel)) (fun _ _ _ _ _ => pg_name (i := 2) sc_law_begun.nd rfl (.inl rfl)) (fun _ _ _ _ _ => pts_one (pt_cmpR op_ge (pv 2) (pe_op op_pow (pe_int) (pe_int)) (nomark _))) (fun _ _ _ _ _ => pv 2)) (pps_cons pe_str (pv 1) (pps_cons pe_str (pe_int) (pps_cons pe_str (pe_int) (pps_cons pe_str (pe_int) (pps_nil)))))) rfl rfl (by simp) (by decide)))), ?_⟩
    rw [show start ["_law_script", "_law_cells", "_law_cell"] [V.ref a] = [some (V.ref a), none, none] from rfl]
    try dsimp only [tMethS1, tMethKS1, WE, tSeq, tAsg, gName, tOp, tUn, tCB, tCons, tNil, tCall, tMethK1, tCallK1, tPar3, tRet, tRetN, tDrop, tTest, tB, tC, tNext, tAugS, tAug, sFld1, sFldAug1, tMeth1, tMake, tMakeK1, tSl, tPart, tNoPart, sDPut1, tDPop, tBM, tBM0, tPar, gSub, tChain, tNot, tNotV, tDG1, tDG2, tDNewT1, iKeys1, iEnum1, iList1, iTup1, iRng1, iRng2, List.set_cons_zero, List.set_cons_succ]
    refine x_lc ?_
    try dsimp only [tMethS1, tMethKS1, tOp, tUn, tCB, tCons, tNil, tCall, tMethK1, tCallK1, tC, tMeth1, tMake, tMakeK1, tSl, tPart, tNoPart, tDPop, tChain, tNotV, tBM, tBM0, tDG1, tDG2, tDNewT1, iKeys1, iEnum1, iList1, iTup1, iRng1, iRng2]
    refine x_var (by exact rfl) ?_
    refine x_ilistS (S.sq hs (by simp)) ?_
    refine lcW (walk_list (xs := ns.map V.int)) S (fun D1 H S => ⟨fun i H1 => ∃ cs : List Int, cs.length = i ∧ Sep H0 [] H1 [(2, D1, .lst (cs.map V.int))], ?_, ?_, ?_, ?_⟩)
    · exact ⟨[], rfl, S⟩
    · rintro i H hi ⟨cs, hcl, S⟩
      exact S.sq hs (by simp)
    · rintro i y H H9 hi ⟨cs, hcl, S⟩ hy
      obtain ⟨rfl, hy⟩ := hy
      obtain ⟨z, hz, rfl⟩ := elem_of hy
      refine ⟨rfl, ?_⟩
      try dsimp only [tMethS1, tMethKS1, WE, wipe, tYes, tSeq, tAsg, gName, tOp, tUn, tCB, tCons, tNil, tCall, tMethK1, tCallK1, tPar3, tRet, tRetN, tDrop, tTest, tB, tC, tNext, tAugS, tAug, sFld1, sFldAug1, tMeth1, tMake, tMakeK1, tSl, tPart, tNoPart, sDPut1, tDPop, tBM, tBM0, tPar, gSub, tChain, tNot, tNotV, tDG1, tDG2, tDNewT1, iKeys1, iEnum1, iList1, iTup1, iRng1, iRng2, List.set_cons_zero, List.set_cons_succ]
      refine iteT ?_
      refine x_var (by exact rfl) ?_
      refine x_abs ?_
      refine x_lcappI S 0 (by exact rfl) (by rw [List.length_map] at hi; omega) (fun H S => ?_)
      exact ⟨cs ++ [_], by rw [List.length_append, hcl]; rfl, S⟩
    · rintro H ⟨cs, hcl, S⟩
      try dsimp only [tMethS1, tMethKS1, WE, tSeq, tAsg, gName, tOp, tUn, tCB, tCons, tNil, tCall, tMethK1, tCallK1, tPar3, tRet, tRetN, tDrop, tTest, tB, tC, tNext, tAugS, tAug, sFld1, sFldAug1, tMeth1, tMake, tMakeK1, tSl, tPart, tNoPart, sDPut1, tDPop, tBM, tBM0, tPar, gSub, tChain, tNot, tNotV, tDG1, tDG2, tDNewT1, iKeys1, iEnum1, iList1, iTup1, iRng1, iRng2, List.set_cons_zero, List.set_cons_succ]
      rw [List.length_map] at hcl
      try dsimp only [tMethS1, tMethKS1, WE, tSeq, tAsg, gName, tOp, tUn, tCB, tCons, tNil, tCall, tMethK1, tCallK1, tPar3, tRet, tRetN, tDrop, tTest, tB, tC, tNext, tAugS, tAug, sFld1, sFldAug1, tMeth1, tMake, tMakeK1, tSl, tPart, tNoPart, sDPut1, tDPop, tBM, tBM0, tPar, gSub, tChain, tNot, tNotV, tDG1, tDG2, tDNewT1, iKeys1, iEnum1, iList1, iTup1, iRng1, iRng2, List.set_cons_zero, List.set_cons_succ]
      refine x_disp S (fun rd1 H S => ?_)
      try dsimp only [tPairs, tC]
      refine x_lc ?_
      try dsimp only [tMethS1, tMethKS1, tOp, tUn, tCB, tCons, tNil, tCall, tMethK1, tCallK1, tC, tMeth1, tMake, tMakeK1, tSl, tPart, tNoPart, tDPop, tChain, tNotV, tBM, tBM0, tDG1, tDG2, tDNewT1, iKeys1, iEnum1, iList1, iTup1, iRng1, iRng2]
      refine x_var (by exact rfl) ?_
      refine x_ilist S 1 (by exact rfl) ?_
      refine lcW (walk_list (xs := cs.map V.int)) S (fun D2 H S => ⟨fun i H1 => ∃ gs : List Int, gs.length ≤ i ∧ (∀ g ∈ gs, 0 ≤ g) ∧ Sep H0 [] H1 [(2, D2, .lst (gs.map V.int)), (2, rd1, .dK []), (2, D1, .lst (cs.map V.int))], ?_, ?_, ?_, ?_⟩)
      · exact ⟨[], Nat.le_refl _, (fun _ h => nomatch h), S⟩
      · rintro i H hi ⟨gs, hgl, hgp, S⟩
        exact S.sl 2 rfl
      · rintro i y H H9 hi ⟨gs, hgl, hgp, S⟩ hy
        obtain ⟨rfl, hy⟩ := hy
        obtain ⟨z, hz, rfl⟩ := elem_of hy
        refine ⟨rfl, ?_⟩
        try dsimp only [tMethS1, tMethKS1, WE, wipe, tYes, tSeq, tAsg, gName, tOp, tUn, tCB, tCons, tNil, tCall, tMethK1, tCallK1, tPar3, tRet, tRetN, tDrop, tTest, tB, tC, tNext, tAugS, tAug, sFld1, sFldAug1, tMeth1, tMake, tMakeK1, tSl, tPart, tNoPart, sDPut1, tDPop, tBM, tBM0, tPar, gSub, tChain, tNot, tNotV, tDG1, tDG2, tDNewT1, iKeys1, iEnum1, iList1, iTup1, iRng1, iRng2, List.set_cons_zero, List.set_cons_succ]
        refine x_var (by exact rfl) ?_
        refine x_I ⟨by decide, by decide, by first | assumption | omega⟩ ?_
        refine x_I0 ?_
        refine ⟨_, rfl, ?_⟩
        refine ited (fun c1 => ?_) (fun c1 => ?_)
        · refine x_var (by exact rfl) ?_
          refine x_lcappI S 0 (by exact rfl) (by rw [List.length_map] at hi; omega) (fun H S => ?_)
          refine ⟨gs ++ [_], by rw [List.length_append]; show _ + 1 ≤ _; omega, fun g hg => ?_, S⟩
          rcases List.mem_append.mp hg with hg | hg
          · exact hgp g hg
          · rw [List.mem_singleton.mp hg]; exact Int.le_trans (by decide : (0 : Int) ≤ 10 ^ Int.toNat 18) c1
        · exact ⟨gs, by omega, hgp, S⟩
      · rintro H ⟨gs, hgl, hgp, S⟩
        rw [List.length_map] at hgl
        try dsimp only [tPairs, tC]
        refine x_var (by exact rfl) ?_
        try dsimp only [tPairs, tC]
        try dsimp only [tPairs, tC]
        try dsimp only [tPairs, tC]
        refine x_dispE (kvs := R_drw _ _ _ _ _) S 1 (by exact rfl) (by exact (by exact rfl)) (by exact Nat.le_of_ble_eq_true (by exact rfl)) mg_drw (fun H S => ?_)
        simp only [List.set_cons_zero, List.set_cons_succ] at S
        exact k _ _ _ gs cs _ ⟨by decide, by decide, by decide, by decide, hgp, by omega⟩ (S.sub [1, 0, 2])
end

/-- a def over the draw and data: P: of the draw's place, the data, what is handed in: what the answer is like -/
def spDat (P : Addr → Hp → List V → (PyData → Prop) → Prop) : Sp := fun vs H Q _ => ∃ (dp dg dc : Addr) (dr dt dm : Int) (gs cs : List Int) (T : List Cell) (R : PyData → Prop), Sep H [dp, dg] H ((1, dp, .dK (R_drw dg dc dr dt dm)) :: (1, dg, .lst (gs.map V.int)) :: (0, dc, .lst (cs.map V.int)) :: T) ∧ Drw dr dt dm gs ∧ P dp (tl T) vs R ∧
  ∀ (v : V) (d : PyData) (T' : List Cell) (dr' dt' dm' : Int) (gs' : List Int) (H' : Hp), R d → DH (tl T') v d → Grow T T' → Drw dr' dt' dm' gs' → Sep H [dp, dg] H' ((1, dp, .dK (R_drw dg dc dr' dt' dm')) :: (1, dg, .lst (gs'.map V.int)) :: (0, dc, .lst (cs.map V.int)) :: T') → Q v H'
theorem c_dat {P : Addr → Hp → List V → (PyData → Prop) → Prop} {H0 H : Hp} {ft : List Addr} {l T : List Cell} {t1 t2 t3 : Nat} {dp dg dc : Addr} {dr dt dm : Int} {gs cs : List Int} {vs : List V} {Q : VK} {E : XK} (R : PyData → Prop) (S : Sep H0 ft H l) (n i j k : Nat)
    (hi : l[i]? = some (t1, dp, .dK (R_drw dg dc dr dt dm))) (hj : l[j]? = some (t2, dg, .lst (gs.map V.int))) (hk : l[k]? = some (t3, dc, .lst (cs.map V.int))) (hT : l.drop n = T) (h : Drw dr dt dm gs) (hp : P dp (tl T) vs R)
    (q : ∀ (v : V) (d : PyData) (T' : List Cell) (dr dt dm : Int) (gs : List Int) (H' : Hp), R d → DH (tl T') v d → Grow T T' → Le (tl T) (tl T') → Drw dr dt dm gs → Sep H0 ft H' ((((l.take n).set i (t1, dp, .dK (R_drw dg dc dr dt dm))).set j (t2, dg, .lst (gs.map V.int))) ++ T') → Q v H')
    (hn : [i, j, k].Nodup := by decide) (hb : ([i, j, k].all fun x => decide (x < n)) = true := by decide) (ht1 : t1 = 1 ∨ t1 = 2 := by first | exact .inl rfl | exact .inr rfl) (ht2 : t2 = 1 ∨ t2 = 2 := by first | exact .inl rfl | exact .inr rfl) : spDat P vs H Q E := by
  refine ⟨dp, dg, dc, dr, dt, dm, gs, cs, T.map fun c => (0, c.2), R, S.giveT n i j k hi hj hk hn hb hT, h, by rw [tl_tag]; exact hp, fun v d T' dr' dt' dm' gs' H' hR hd hg hD S' => ?_⟩
  obtain ⟨m, rfl, hm⟩ := hg
  have hb1 := List.all_eq_true.mp hb
  have hin : i < n := of_decide_eq_true (hb1 i (by simp))
  have hjn : j < n := of_decide_eq_true (hb1 j (by simp))
  have hij : i ≠ j := fun e => by subst e; simp at hn
  have S2 := S.callM [(i, t1, dp, .dK (R_drw dg dc dr' dt' dm')), (j, t2, dg, .lst (gs'.map V.int))] ⟨⟨_, hi, ht1⟩, ⟨_, hj, ht2⟩, trivial⟩ (by simp [hij]) (two_new S') hm
  have S3 := S2.tail n
  simp only [List.foldl_cons, List.foldl_nil] at S3
  rw [List.take_set, List.take_set, List.drop_set_of_lt hjn, List.drop_set_of_lt hin, hT] at S3
  have g : Grow T (m ++ T) := ⟨m, rfl, hm⟩
  rw [tl_tagA] at hd
  exact q v d (m ++ T) dr' dt' dm' gs' H' hR hd g (g.le S3.ndT) hD S3
theorem SomeV.tlL {K : PySem.W.Frag} {H0 H : Hp} {ft : List Addr} {l T : List Cell} {t1 t2 : Nat} {s dp dg : Addr} {o1 o2 : HO} {xs : List V} {P : V → Prop} (S : Sep H0 ft H l) (n i j : Nat) (hi : l[i]? = some (t1, dp, o1)) (hj : l[j]? = some (t2, dg, o2)) (hT : l.drop n = T) (ha : tl T s = some (.lst xs)) (h0 : 0 < xs.length) (h1 : xs.length < 10 ^ 9) (hp : ∀ v ∈ xs, P v)
    (hin : i < n := by decide) (hjn : j < n := by decide) : SomeV K H dp dg (.ref s) P :=
  .inl ⟨s, xs, rfl, .of (S.tl (T := T) (fun c h => by rw [← hT] at h; exact List.mem_of_mem_drop h) _ _ ha), by simp [S.tl_ne n i hi hin hT ha, S.tl_ne n j hj hjn hT ha], h0, h1, hp⟩
theorem SomeV.tlT {K : PySem.W.Frag} {H0 H : Hp} {ft : List Addr} {l T : List Cell} {t1 t2 : Nat} {s dp dg : Addr} {o1 o2 : HO} {xs : List V} {P : V → Prop} (S : Sep H0 ft H l) (n i j : Nat) (hi : l[i]? = some (t1, dp, o1)) (hj : l[j]? = some (t2, dg, o2)) (hT : l.drop n = T) (ha : tl T s = some (.tup xs)) (h0 : 0 < xs.length) (h1 : xs.length < 10 ^ 9) (hp : ∀ v ∈ xs, P v)
    (hin : i < n := by decide) (hjn : j < n := by decide) : SomeV K H dp dg (.ref s) P :=
  .inr (.inl ⟨s, xs, rfl, .of (S.tl (T := T) (fun c h => by rw [← hT] at h; exact List.mem_of_mem_drop h) _ _ ha), by simp [S.tl_ne n i hi hin hT ha, S.tl_ne n j hj hjn hT ha], h0, h1, hp⟩)
theorem ok5 {s : Str} (h : OkN s) : s.length ≤ 100000 := Nat.le_trans h.l8 (by decide)

def NameD (d : PyData) : Prop := ∃ s : Str, d = .str s ∧ OkN s
def spNameD : Sp := spDat fun dp _ vs R => vs = [.ref dp] ∧ R = NameD
theorem abcS_low : ∀ c ∈ abcS.cps.toList, Low ⟨#[c]⟩ := by
  intro c hc d hd
  have h1 : ∀ c ∈ abcS.cps.toList, 97 ≤ c ∧ c ≤ 122 := by decide +kernel
  have : d = c := by simpa using hd
  rw [this]; exact h1 c hc
def W13 : List Str := (["clock", "past", "ask", "stop", "told", "piece", "shut", "room", "in", "out", "done", "never", "late"] : List Str)
theorem W13_ok : ∀ s ∈ W13, OkN s := by
  intro s hs
  have h1 : ∀ s ∈ W13, 1 ≤ s.length ∧ s.length ≤ 8 := by decide +kernel
  have h2 : ∀ s ∈ W13, ∀ c ∈ s.cps.toList, 97 ≤ c ∧ c ≤ 122 := by decide +kernel
  exact ⟨(h1 s hs).1, (h1 s hs).2, h2 s hs⟩
section
variable {P : Program} {w : World} {K : PySem.W.Frag} {mg : Str → Option Value} {base : Heap}
abbrev s_law_name : Stmt := (topS 14)
theorem sc_law_name : FnScope ["_law_draw", "_law_letters", "_law_words", "_law_size", "_law_sign"] ["_law_draw"] (defScope s_law_name) := ⟨rfl, rfl, rfl, by decide +kernel, rfl, by decide +kernel, by decide +kernel⟩
theorem ok_law_name {f : Addr} {fd : FuncData} (F : L2.Fun K "_law_name" "_law_name" s_law_name f fd) (ctake : Cal P w K mg base CX0 1 "_law_take" spLTake) (cpick : Cal P w K mg base CX0 2 "_law_pick" (spPick K)) (z_range : mg "range" = none) : FnOk P w K mg base CX0 3 f fd ["_law_draw"] spNameD := by
  refine F.ok sc_law_name (fun vs H Q E h => ?_) (fun cdv A outer s H0 vs Q E hr h => ?_)
  · obtain ⟨dp, dg, dc, dr, dt, dm, gs, cs, T, R, S, hd, ⟨rfl, rfl⟩, k⟩ := h
    rfl
  · obtain ⟨dp, dg, dc, dr, dt, dm, gs, cs, T, R, S, hd, ⟨rfl, rfl⟩, k⟩ := h
    have hu := hu_of hr
    have gr := Grow.refl T
    refine ⟨_, pss_cons (ps_set (i := 1) sc_law_name.nd rfl (.inr rfl) (pe_str))
      (pss_cons (ps_set (i := 2) sc_law_name.nd rfl (.inl rfl) (pe_lst1 (pa_cons (pe_str) (pa_cons (pe_str) (pa_cons (pe_str) (pa_cons (pe_str) (pa_cons (pe_str) (pa_cons (pe_str) (pa_cons (pe_str) (pa_cons (pe_str) (pa_cons (pe_str) (pa_cons (pe_str) (pa_cons (pe_str) (pa_cons (pe_str) (pa_cons (pe_str) pa_nil)))))))))))))))
      (pss_cons (ps_if (pt_cmpR op_eq (pe_c ctake hr (by decide) (by rfl) pass0 (pa_cons (pv 0) (pa_cons (pe_int) pa_nil))) (pe_int) (nomark _)) (pss_one (ps_ret (pe_c cpick hr (by decide) (by rfl) pass0 (pa_cons (pv 0) (pa_cons (pv 2) pa_nil))))) (pss_nil))
      (pss_cons (ps_set (i := 3) sc_law_name.nd rfl (.inl rfl) (pe_op op_add (pe_int) (pe_c ctake hr (by decide) (by rfl) pass0 (pa_cons (pv 0) (pa_cons (pe_int) pa_nil)))))
      (pss_one (ps_ret (pe_bm PySem.F.plainAttrs_str PySem.F.slot_str_join PySem.F.type_str_join (mt_joinK K) (pe_str) (pa_cons (pe_lc (own := [("_law_sign", 4)]) (g := gName 4) rfl sc_law_name.nd (pi_range1 (by rfl) z_range (pa_cons (pv 3) pa_nil)) (blkOk_by (N := ["_law_draw", "_law_letters", "_law_words", "_law_size", "_law_sign"]) (sc := defScope s_law_name) (by decide +kernel)) (fun _ _ _ _ _ => pg_name (i := 4) sc_law_name.nd rfl (Or.inl rfl)) (fun _ _ _ _ _ => pts_nil) (fun _ _ _ _ _ => pe_c cpick hr (by decide) (by rfl) pass0 (pa_cons (pv 0) (pa_cons (pv 1) pa_nil)))) pa_nil))))))), ?_⟩
    rw [show start ["_law_draw", "_law_letters", "_law_words", "_law_size", "_law_sign"] [V.ref dp] = [some (V.ref dp), none, none, none, none] from rfl]
    try dsimp only [tMethS1, tMethKS1, WE, tSeq, tAsg, gName, tOp, tUn, tCB, tCons, tNil, tCall, tMethK1, tCallK1, tPar3, tRet, tRetN, tDrop, tTest, tB, tC, tNext, tAugS, tAug, sFld1, sFldAug1, tMeth1, tMake, tMakeK1, tSl, tPart, tNoPart, sDPut1, tDPop, tBM, tBM0, tPar, gSub, tChain, tNot, tNotV, tDG1, tDG2, tDNewT1, iKeys1, iEnum1, iList1, iTup1, iRng1, iRng2, List.set_cons_zero, List.set_cons_succ]
    try dsimp only [tMethS1, tMethKS1, WE, tSeq, tAsg, gName, tOp, tUn, tCB, tCons, tNil, tCall, tMethK1, tCallK1, tPar3, tRet, tRetN, tDrop, tTest, tB, tC, tNext, tAugS, tAug, sFld1, sFldAug1, tMeth1, tMake, tMakeK1, tSl, tPart, tNoPart, sDPut1, tDPop, tBM, tBM0, tPar, gSub, tChain, tNot, tNotV, tDG1, tDG2, tDNewT1, iKeys1, iEnum1, iList1, iTup1, iRng1, iRng2, List.set_cons_zero, List.set_cons_succ]
    refine x_lst S (by exact Nat.le_of_ble_eq_true rfl) (fun L1 H S => ?_)
    replace S : Sep H0 [dp, dg] H ((2, L1, .lst (W13.map V.str)) :: _) := S
    try dsimp only [tMethS1, tMethKS1, WE, tSeq, tAsg, gName, tOp, tUn, tCB, tCons, tNil, tCall, tMethK1, tCallK1, tPar3, tRet, tRetN, tDrop, tTest, tB, tC, tNext, tAugS, tAug, sFld1, sFldAug1, tMeth1, tMake, tMakeK1, tSl, tPart, tNoPart, sDPut1, tDPop, tBM, tBM0, tPar, gSub, tChain, tNot, tNotV, tDG1, tDG2, tDNewT1, iKeys1, iEnum1, iList1, iTup1, iRng1, iRng2, List.set_cons_zero, List.set_cons_succ]
    refine x_if ?_
    try dsimp only [tMethS1, tMethKS1, WE, tSeq, tAsg, gName, tOp, tUn, tCB, tCons, tNil, tCall, tMethK1, tCallK1, tPar3, tRet, tRetN, tDrop, tTest, tB, tC, tNext, tAugS, tAug, sFld1, sFldAug1, tMeth1, tMake, tMakeK1, tSl, tPart, tNoPart, sDPut1, tDPop, tBM, tBM0, tPar, gSub, tChain, tNot, tNotV, tDG1, tDG2, tDNewT1, iKeys1, iEnum1, iList1, iTup1, iRng1, iRng2, List.set_cons_zero, List.set_cons_succ]
    refine x_var (by exact rfl) ?_
    refine c_ltake S 1 2 3 (by exact rfl) (by exact rfl) (by exact rfl) hd (by first | omega | decide | (simp only [len_insAt, List.length_map, List.length_append, List.length_cons, List.length_nil, List.length_take, List.length_drop] at *; omega)) (by first | omega | decide | (simp only [len_insAt, List.length_map, List.length_append, List.length_cons, List.length_nil, List.length_take, List.length_drop] at *; omega)) (fun v1 dr dt dm gs H v1a v1b hd S => ?_)
    simp only [List.set_cons_zero, List.set_cons_succ] at S
    refine x_eq ?_
    refine ⟨_, rfl, ?_⟩
    refine iteq (fun c1 => ?_) (fun c1 => ?_)
    · try dsimp only [tMethS1, tMethKS1, WE, tSeq, tAsg, gName, tOp, tUn, tCB, tCons, tNil, tCall, tMethK1, tCallK1, tPar3, tRet, tRetN, tDrop, tTest, tB, tC, tNext, tAugS, tAug, sFld1, sFldAug1, tMeth1, tMake, tMakeK1, tSl, tPart, tNoPart, sDPut1, tDPop, tBM, tBM0, tPar, gSub, tChain, tNot, tNotV, tDG1, tDG2, tDNewT1, iKeys1, iEnum1, iList1, iTup1, iRng1, iRng2, List.set_cons_zero, List.set_cons_succ]
      refine x_var (by exact rfl) ?_
      refine x_var (by exact rfl) ?_
      refine c_pick (fun v => ∃ s : Str, v = .str s ∧ OkN s) S 1 2 3 (by exact rfl) (by exact rfl) (by exact rfl) hd (SomeV.lst (xs := W13.map V.str) S 0 1 2 (by exact rfl) (by exact rfl) (by exact rfl) (by decide) (by decide) (fun v hv => by obtain ⟨s, hs, rfl⟩ := List.mem_map.mp hv; exact ⟨s, rfl, W13_ok s hs⟩)) (fun pk1 dr dt dm gs H hpk1 hd S => ?_)
      simp only [List.set_cons_zero, List.set_cons_succ] at S
      obtain ⟨spk1, rfl, okpk1⟩ := hpk1
      exact k _ _ _ _ _ _ _ _ (⟨_, rfl, okpk1⟩) (DH.str _ (ok5 okpk1)) gr hd (S.subT 4 [1, 2, 3])
    · try dsimp only [tMethS1, tMethKS1, WE, tSeq, tAsg, gName, tOp, tUn, tCB, tCons, tNil, tCall, tMethK1, tCallK1, tPar3, tRet, tRetN, tDrop, tTest, tB, tC, tNext, tAugS, tAug, sFld1, sFldAug1, tMeth1, tMake, tMakeK1, tSl, tPart, tNoPart, sDPut1, tDPop, tBM, tBM0, tPar, gSub, tChain, tNot, tNotV, tDG1, tDG2, tDNewT1, iKeys1, iEnum1, iList1, iTup1, iRng1, iRng2, List.set_cons_zero, List.set_cons_succ]
      refine x_var (by exact rfl) ?_
      refine c_ltake S 1 2 3 (by exact rfl) (by exact rfl) (by exact rfl) hd (by first | omega | decide | (simp only [len_insAt, List.length_map, List.length_append, List.length_cons, List.length_nil, List.length_take, List.length_drop] at *; omega)) (by first | omega | decide | (simp only [len_insAt, List.length_map, List.length_append, List.length_cons, List.length_nil, List.length_take, List.length_drop] at *; omega)) (fun v2 dr dt dm gs H v2a v2b hd S => ?_)
      simp only [List.set_cons_zero, List.set_cons_succ] at S
      refine x_I0 ?_
      try dsimp only [tMethS1, tMethKS1, WE, tSeq, tAsg, gName, tOp, tUn, tCB, tCons, tNil, tCall, tMethK1, tCallK1, tPar3, tRet, tRetN, tDrop, tTest, tB, tC, tNext, tAugS, tAug, sFld1, sFldAug1, tMeth1, tMake, tMakeK1, tSl, tPart, tNoPart, sDPut1, tDPop, tBM, tBM0, tPar, gSub, tChain, tNot, tNotV, tDG1, tDG2, tDNewT1, iKeys1, iEnum1, iList1, iTup1, iRng1, iRng2, List.set_cons_zero, List.set_cons_succ]
      refine ⟨rfl, ?_⟩
      refine x_lc ?_
      try dsimp only [tMethS1, tMethKS1, tOp, tUn, tCB, tCons, tNil, tCall, tMethK1, tCallK1, tC, tMeth1, tMake, tMakeK1, tSl, tPart, tNoPart, tDPop, tChain, tNotV, tBM, tBM0, tDG1, tDG2, tDNewT1, iKeys1, iEnum1, iList1, iTup1, iRng1, iRng2]
      refine x_var (by exact rfl) ?_
      refine ⟨_, rfl, by omega, by omega, ?_⟩
      refine lcR S (fun yj1 H S => ⟨fun j H1 => ∃ (ys : List Str) (dr dt dm : Int) (gs : List Int), ys.length = j ∧ (∀ s ∈ ys, s.length = 1) ∧ (∀ s ∈ ys, Low s) ∧ Drw dr dt dm gs ∧ Sep H0 [dp, dg] H1 ((2, yj1, .lst (ys.map V.str)) :: (1, dp, .dK (R_drw dg dc dr dt dm)) :: (1, dg, .lst (gs.map V.int)) :: (0, dc, .lst (cs.map V.int)) :: T), ?_, ?_, ?_⟩)
      · exact ⟨[], _, _, _, _, rfl, (fun _ h => nomatch h), (fun _ h => nomatch h), hd, S.subT 5 [0, 2, 3, 4]⟩
      · rintro j H hi ⟨ys, dr, dt, dm, gs, hyl, hy1, hyw, hd, S⟩
        refine ⟨rfl, ?_⟩
        try dsimp only [tMethS1, tMethKS1, WE, wipe, tYes, tSeq, tAsg, gName, tOp, tUn, tCB, tCons, tNil, tCall, tMethK1, tCallK1, tPar3, tRet, tRetN, tDrop, tTest, tB, tC, tNext, tAugS, tAug, sFld1, sFldAug1, tMeth1, tMake, tMakeK1, tSl, tPart, tNoPart, sDPut1, tDPop, tBM, tBM0, tPar, gSub, tChain, tNot, tNotV, tDG1, tDG2, tDNewT1, iKeys1, iEnum1, iList1, iTup1, iRng1, iRng2, List.set_cons_zero, List.set_cons_succ]
        refine iteT ?_
        refine x_var (by exact rfl) ?_
        refine x_var (by exact rfl) ?_
        refine c_pick (fun v => ∃ s : Str, v = .str s ∧ s.length = 1 ∧ Low s) S 1 2 3 (by exact rfl) (by exact rfl) (by exact rfl) hd (.inr (.inr ⟨_, rfl, by decide, by decide, fun c hc => ⟨_, rfl, rfl, abcS_low c hc⟩⟩)) (fun pk2 dr dt dm gs H hpk2 hd S => ?_)
        simp only [List.set_cons_zero, List.set_cons_succ] at S
        obtain ⟨spk2, rfl, okpk2⟩ := hpk2
        refine x_lcappS S 0 (by exact rfl) (by omega) (fun H S => ?_)
        exact ⟨ys ++ [_], _, _, _, _, by rw [List.length_append, hyl]; rfl, fun s hs => (List.mem_append.mp hs).elim (hy1 s) (fun e => by rw [List.mem_singleton.mp e]; exact okpk2.1), fun s hs => (List.mem_append.mp hs).elim (hyw s) (fun e => by rw [List.mem_singleton.mp e]; exact okpk2.2), hd, S⟩
      · rintro H ⟨ys, dr, dt, dm, gs, hyl, hy1, hyw, hd, S⟩
        have hjl := len_join0 ys
        rw [sum_ones hy1] at hjl
        try dsimp only [tMethS1, tMethKS1, WE, tSeq, tAsg, gName, tOp, tUn, tCB, tCons, tNil, tCall, tMethK1, tCallK1, tPar3, tRet, tRetN, tDrop, tTest, tB, tC, tNext, tAugS, tAug, sFld1, sFldAug1, tMeth1, tMake, tMakeK1, tSl, tPart, tNoPart, sDPut1, tDPop, tBM, tBM0, tPar, gSub, tChain, tNot, tNotV, tDG1, tDG2, tDNewT1, iKeys1, iEnum1, iList1, iTup1, iRng1, iRng2, List.set_cons_zero, List.set_cons_succ]
        refine x_joinS S 0 (by exact rfl) (by rw [sum_ones hy1]; show ys.length + ys.length * 0 ≤ _; omega) ?_
        have okn : OkN (Txt.join "" ys) := ⟨by omega, by omega, Low.join hyw⟩
        exact k _ _ _ _ _ _ _ _ (⟨_, rfl, okn⟩) (DH.str _ (ok5 okn)) gr hd (S.subT 4 [1, 2, 3])
end

def spTen : Sp := fun vs H Q _ => ∃ m : Int, vs = [.int m] ∧ 0 ≤ m ∧ m ≤ 4000 ∧ ∀ H', Le H H' → Q (.int (10 ^ m.toNat)) H'
section
variable {P : Program} {w : World} {K : PySem.W.Frag} {mg : Str → Option Value} {base : Heap}
abbrev s_law_ten : Stmt := (topS 15)
theorem sc_law_ten : FnScope ["_law_many", "_law_found", "_law_k"] ["_law_many"] (defScope s_law_ten) := ⟨rfl, rfl, rfl, by decide +kernel, rfl, by decide +kernel, by decide +kernel⟩
theorem ok_law_ten {f : Addr} {fd : FuncData} (F : L2.Fun K "_law_ten" "_law_ten" s_law_ten f fd) (z_range : mg "range" = none) : FnOk P w K mg base CX0 1 f fd ["_law_many"] spTen := by
  refine F.ok sc_law_ten (fun vs H Q E h => ?_) (fun cdv A outer s H0 vs Q E hr h => ?_)
  · obtain ⟨m, rfl, hm0, hm1, k⟩ := h
    rfl
  · obtain ⟨m, rfl, hm0, hm1, k⟩ := h
    have hu := hu_of hr
    have S := Sep.of0 (H := H0)
    refine ⟨_, pss_cons (ps_set (i := 1) sc_law_ten.nd rfl (.inl rfl) (pe_int))
      (pss_cons (ps_for PassesOwn.never rfl (pi_range1 (by rfl) z_range (pa_cons (pv 0) pa_nil)) (pg_name (i := 2) sc_law_ten.nd rfl (.inl rfl)) (pss_one (ps_set (i := 1) sc_law_ten.nd rfl (.inl rfl) (pe_op op_mul (pv 1) (pe_int)))))
      (pss_one (ps_ret (pv 1)))), ?_⟩
    rw [show start ["_law_many", "_law_found", "_law_k"] [V.int m] = [some (V.int m), none, none] from rfl]
    try dsimp only [tMethS1, tMethKS1, WE, tSeq, tAsg, gName, tOp, tUn, tCB, tCons, tNil, tCall, tMethK1, tCallK1, tPar3, tRet, tRetN, tDrop, tTest, tB, tC, tNext, tAugS, tAug, sFld1, sFldAug1, tMeth1, tMake, tMakeK1, tSl, tPart, tNoPart, sDPut1, tDPop, tBM, tBM0, tPar, gSub, tChain, tNot, tNotV, tDG1, tDG2, tDNewT1, iKeys1, iEnum1, iList1, iTup1, iRng1, iRng2, List.set_cons_zero, List.set_cons_succ]
    try dsimp only [tMethS1, tMethKS1, WE, tSeq, tAsg, gName, tOp, tUn, tCB, tCons, tNil, tCall, tMethK1, tCallK1, tPar3, tRet, tRetN, tDrop, tTest, tB, tC, tNext, tAugS, tAug, sFld1, sFldAug1, tMeth1, tMake, tMakeK1, tSl, tPart, tNoPart, sDPut1, tDPop, tBM, tBM0, tPar, gSub, tChain, tNot, tNotV, tDG1, tDG2, tDNewT1, iKeys1, iEnum1, iList1, iTup1, iRng1, iRng2, List.set_cons_zero, List.set_cons_succ]
    refine x_for ?_
    try dsimp only [tMethS1, tMethKS1, tOp, tUn, tCB, tCons, tNil, tCall, tMethK1, tCallK1, tC, tMeth1, tMake, tMakeK1, tSl, tPart, tNoPart, tDPop, tChain, tNotV, tBM, tBM0, tDG1, tDG2, tDNewT1, iKeys1, iEnum1, iList1, iTup1, iRng1, iRng2]
    refine x_var (by exact rfl) ?_
    refine ⟨_, rfl, by omega, by omega, ?_⟩
    refine forR (fun i σ H1 => ∃ o : Option V, σ = [some (.int m), some (.int (10 ^ i)), o] ∧ Sep H0 [] H1 []) ?_ ?_ ?_
    · exact ⟨_, rfl, S⟩
    · rintro i σ H hi ⟨o, rfl, S⟩
      try dsimp only [tMethS1, tMethKS1, WE, tSeq, tAsg, gName, tOp, tUn, tCB, tCons, tNil, tCall, tMethK1, tCallK1, tPar3, tRet, tRetN, tDrop, tTest, tB, tC, tNext, tAugS, tAug, sFld1, sFldAug1, tMeth1, tMake, tMakeK1, tSl, tPart, tNoPart, sDPut1, tDPop, tBM, tBM0, tPar, gSub, tChain, tNot, tNotV, tDG1, tDG2, tDNewT1, iKeys1, iEnum1, iList1, iTup1, iRng1, iRng2, List.set_cons_zero, List.set_cons_succ]
      try dsimp only [tMethS1, tMethKS1, WE, tSeq, tAsg, gName, tOp, tUn, tCB, tCons, tNil, tCall, tMethK1, tCallK1, tPar3, tRet, tRetN, tDrop, tTest, tB, tC, tNext, tAugS, tAug, sFld1, sFldAug1, tMeth1, tMake, tMakeK1, tSl, tPart, tNoPart, sDPut1, tDPop, tBM, tBM0, tPar, gSub, tChain, tNot, tNotV, tDG1, tDG2, tDNewT1, iKeys1, iEnum1, iList1, iTup1, iRng1, iRng2, List.set_cons_zero, List.set_cons_succ]
      refine x_var (by exact rfl) ?_
      refine x_I (by first | exact .inr ⟨by decide, by decide⟩ | exact .inl ⟨by decide, by decide⟩ | exact .inr ⟨by omega, by omega⟩ | exact .inl ⟨by omega, by omega⟩) ?_
      exact ⟨_, by rw [Int.pow_succ], S⟩
    · rintro σ H ⟨o, rfl, S⟩
      try dsimp only [tMethS1, tMethKS1, WE, tSeq, tAsg, gName, tOp, tUn, tCB, tCons, tNil, tCall, tMethK1, tCallK1, tPar3, tRet, tRetN, tDrop, tTest, tB, tC, tNext, tAugS, tAug, sFld1, sFldAug1, tMeth1, tMake, tMakeK1, tSl, tPart, tNoPart, sDPut1, tDPop, tBM, tBM0, tPar, gSub, tChain, tNot, tNotV, tDG1, tDG2, tDNewT1, iKeys1, iEnum1, iList1, iTup1, iRng1, iRng2, List.set_cons_zero, List.set_cons_succ]
      refine x_var (by exact rfl) ?_
      exact k _ S.out0
end

def NumF (B : Nat) (o : Option Int) (d : PyData) : Prop := ∃ i : Int, d = .int i ∧ i.natAbs < 10 ^ B ∧ ∀ l, o = some l → l ≤ i
def lv : Option Int → V
  | none => .non
  | some l => .int l
def spNumO (o : Option Int) (v : V) : Sp := spDat fun dp _ vs R => vs = [.ref dp, v] ∧ R = NumF 402 o
def spNumF : Sp := spDat fun dp _ vs R => ∃ o : Option Int, (o = none ∨ (o = some 0 ∨ o = some 1)) ∧ vs = [.ref dp, lv o] ∧ R = NumF 402 o
theorem num_cases {vs : List V} {H : Hp} {Q : VK} {E : XK} (h : spNumF vs H Q E) : spNumO none .non vs H Q E ∨ (spNumO (some 0) (.int 0) vs H Q E ∨ spNumO (some 1) (.int 1) vs H Q E) := by
  obtain ⟨dp, dg, dc, dr, dt, dm, gs, cs, T, R, S, hd, ⟨o, ho, e1, e2⟩, k⟩ := h
  rcases ho with rfl | rfl | rfl
  · exact .inl ⟨dp, dg, dc, dr, dt, dm, gs, cs, T, R, S, hd, ⟨e1, e2⟩, k⟩
  · exact .inr (.inl ⟨dp, dg, dc, dr, dt, dm, gs, cs, T, R, S, hd, ⟨e1, e2⟩, k⟩)
  · exact .inr (.inr ⟨dp, dg, dc, dr, dt, dm, gs, cs, T, R, S, hd, ⟨e1, e2⟩, k⟩)
theorem pm_n : ∀ v ∈ ([.int 0, .int 0, .int (10 ^ Int.toNat 41), .int (10 ^ Int.toNat 400)] : List V), ∃ z : Int, v = .int z ∧ 0 ≤ z ∧ z < 10 ^ 401 := by
  intro v hv
  simp only [List.mem_cons, List.not_mem_nil, or_false] at hv
  rcases hv with rfl | rfl | rfl | rfl <;> exact ⟨_, rfl, by decide +kernel, by decide +kernel⟩
section
variable {P : Program} {w : World} {K : PySem.W.Frag} {mg : Str → Option Value} {base : Heap}
abbrev s_law_number : Stmt := (topS 16)
theorem sc_law_number : FnScope ["_law_draw", "_law_least", "_law_way", "_law_number_here"] ["_law_draw", "_law_least"] (defScope s_law_number) := ⟨rfl, rfl, rfl, by decide +kernel, rfl, by decide +kernel, by decide +kernel⟩
theorem ok_law_numberN {f : Addr} {fd : FuncData} (F : L2.Fun K "_law_number" "_law_number" s_law_number f fd) (ctake : Cal P w K mg base CX0 1 "_law_take" spLTake) (cpick : Cal P w K mg base CX0 2 "_law_pick" (spPick K)) (z_int : mg "int" = none) (cten : Cal P w K mg base CX0 1 "_law_ten" spTen) : FnOk P w K mg base CX0 3 f fd ["_law_draw", "_law_least"] (spNumO none (V.non)) := by
  refine F.ok sc_law_number (fun vs H Q E h => ?_) (fun cdv A outer s H0 vs Q E hr h => ?_)
  · obtain ⟨dp, dg, dc, dr, dt, dm, gs, cs, T, R, S, hd, ⟨rfl, rfl⟩, k⟩ := h
    rfl
  · obtain ⟨dp, dg, dc, dr, dt, dm, gs, cs, T, R, S, hd, ⟨rfl, rfl⟩, k⟩ := h
    have hu := hu_of hr
    have gr := Grow.refl T
    refine ⟨_, pss_cons (ps_set (i := 2) sc_law_number.nd rfl (.inl rfl) (pe_c ctake hr (by decide) (by rfl) pass0 (pa_cons (pv 0) (pa_cons (pe_int) pa_nil))))
      (pss_cons (ps_if (pt_cmpR op_lt (pv 2) (pe_int) (nomark _)) (pss_one (ps_ret (pe_op op_add (pv 2) (pe_ifExp (pt_cmpR op_isN (pv 1) (pe_non) (nomark _)) (pe_int) (pe_never))))) (pss_nil))
      (pss_cons (ps_set (i := 3) sc_law_number.nd rfl (.inl rfl) (pe_op op_add (pe_c ctake hr (by decide) (by rfl) pass0 (pa_cons (pv 0) (pa_cons (pe_ix (ix_listK K) (pe_lst1 (pa_cons (pe_int) (pa_cons (pe_int) (pa_cons (pe_op op_pow (pe_int) (pe_int)) (pa_cons (pe_op op_pow (pe_int) (pe_int)) pa_nil))))) (pe_op op_sub (pv 2) (pe_int)) (fun _ _ => rfl)) pa_nil))) (pe_callTy cl_int1 (by rfl) z_int (by decide +kernel) (pa_cons (pe_cmpR op_eq (pv 1) (pe_int) (nomark _)) pa_nil))))
      (pss_cons (ps_if (pt_cmpR op_eq (pv 2) (pe_int) (nomark _)) (pss_one (ps_set (i := 3) sc_law_number.nd rfl (.inl rfl) (pe_op op_add (pv 3) (pe_c cpick hr (by decide) (by rfl) pass0 (pa_cons (pv 0) (pa_cons (pe_lst1 (pa_cons (pe_int) (pa_cons (pe_int) (pa_cons (pe_op op_pow (pe_int) (pe_int)) (pa_cons (pe_c cten hr (by decide) (by rfl) pass0 (pa_cons (pe_int) pa_nil)) pa_nil))))) pa_nil)))))) (pss_nil))
      (pss_cons (ps_if ((pw_and (pt_cmpR op_isN (pv 1) (pe_non) (nomark _)) (pw_and1 (pt_cmpR op_eq (pe_c ctake hr (by decide) (by rfl) pass0 (pa_cons (pv 0) (pa_cons (pe_int) pa_nil))) (pe_int) (nomark _)))).pt) (pss_one (ps_ret (pe_un un_neg (pv 3)))) (pss_nil))
      (pss_one (ps_ret (pv 3))))))), ?_⟩
    rw [show start ["_law_draw", "_law_least", "_law_way", "_law_number_here"] [V.ref dp, V.non] = [some (V.ref dp), some (V.non), none, none] from rfl]
    try dsimp only [tMethS1, tMethKS1, WE, tSeq, tAsg, gName, tOp, tUn, tCB, tCons, tNil, tCall, tMethK1, tCallK1, tPar3, tRet, tRetN, tDrop, tTest, tB, tC, tNext, tAugS, tAug, sFld1, sFldAug1, tMeth1, tMake, tMakeK1, tSl, tPart, tNoPart, sDPut1, tDPop, tBM, tBM0, tPar, gSub, tChain, tNot, tNotV, tDG1, tDG2, tDNewT1, iKeys1, iEnum1, iList1, iTup1, iRng1, iRng2, List.set_cons_zero, List.set_cons_succ]
    refine x_var (by exact rfl) ?_
    refine c_ltake S 0 1 2 (by exact rfl) (by exact rfl) (by exact rfl) hd (by first | omega | decide | (simp only [len_insAt, List.length_map, List.length_append, List.length_cons, List.length_nil, List.length_take, List.length_drop] at *; omega)) (by first | omega | decide | (simp only [len_insAt, List.length_map, List.length_append, List.length_cons, List.length_nil, List.length_take, List.length_drop] at *; omega)) (fun v1 dr dt dm gs H v1a v1b hd S => ?_)
    simp only [List.set_cons_zero, List.set_cons_succ] at S
    try dsimp only [tMethS1, tMethKS1, WE, tSeq, tAsg, gName, tOp, tUn, tCB, tCons, tNil, tCall, tMethK1, tCallK1, tPar3, tRet, tRetN, tDrop, tTest, tB, tC, tNext, tAugS, tAug, sFld1, sFldAug1, tMeth1, tMake, tMakeK1, tSl, tPart, tNoPart, sDPut1, tDPop, tBM, tBM0, tPar, gSub, tChain, tNot, tNotV, tDG1, tDG2, tDNewT1, iKeys1, iEnum1, iList1, iTup1, iRng1, iRng2, List.set_cons_zero, List.set_cons_succ]
    refine x_if ?_
    try dsimp only [tMethS1, tMethKS1, WE, tSeq, tAsg, gName, tOp, tUn, tCB, tCons, tNil, tCall, tMethK1, tCallK1, tPar3, tRet, tRetN, tDrop, tTest, tB, tC, tNext, tAugS, tAug, sFld1, sFldAug1, tMeth1, tMake, tMakeK1, tSl, tPart, tNoPart, sDPut1, tDPop, tBM, tBM0, tPar, gSub, tChain, tNot, tNotV, tDG1, tDG2, tDNewT1, iKeys1, iEnum1, iList1, iTup1, iRng1, iRng2, List.set_cons_zero, List.set_cons_succ]
    refine x_var (by exact rfl) ?_
    refine x_I0 ?_
    refine ⟨_, rfl, ?_⟩
    refine ited (fun c1 => ?_) (fun c1 => ?_)
    · try dsimp only [tMethS1, tMethKS1, WE, tSeq, tAsg, gName, tOp, tUn, tCB, tCons, tNil, tCall, tMethK1, tCallK1, tPar3, tRet, tRetN, tDrop, tTest, tB, tC, tNext, tAugS, tAug, sFld1, sFldAug1, tMeth1, tMake, tMakeK1, tSl, tPart, tNoPart, sDPut1, tDPop, tBM, tBM0, tPar, gSub, tChain, tNot, tNotV, tDG1, tDG2, tDNewT1, iKeys1, iEnum1, iList1, iTup1, iRng1, iRng2, List.set_cons_zero, List.set_cons_succ]
      refine x_var (by exact rfl) ?_
      refine x_ifE ?_
      try dsimp only [tMethS1, tMethKS1, WE, tSeq, tAsg, gName, tOp, tUn, tCB, tCons, tNil, tCall, tMethK1, tCallK1, tPar3, tRet, tRetN, tDrop, tTest, tB, tC, tNext, tAugS, tAug, sFld1, sFldAug1, tMeth1, tMake, tMakeK1, tSl, tPart, tNoPart, sDPut1, tDPop, tBM, tBM0, tPar, gSub, tChain, tNot, tNotV, tDG1, tDG2, tDNewT1, iKeys1, iEnum1, iList1, iTup1, iRng1, iRng2, List.set_cons_zero, List.set_cons_succ]
      refine x_var (by exact rfl) ?_
      refine ⟨rfl, ?_⟩
      refine ⟨_, rfl, ?_⟩
      refine ited (fun c2 => ?_) (fun h => absurd rfl h)
      refine x_I0 ?_
      exact k _ _ _ _ _ _ _ _ (⟨_, rfl, by omega, fun l e => by first | (cases e; omega) | cases e⟩) (DH.int _) gr hd (S.subT 3 [0, 1, 2])
    · try dsimp only [tMethS1, tMethKS1, WE, tSeq, tAsg, gName, tOp, tUn, tCB, tCons, tNil, tCall, tMethK1, tCallK1, tPar3, tRet, tRetN, tDrop, tTest, tB, tC, tNext, tAugS, tAug, sFld1, sFldAug1, tMeth1, tMake, tMakeK1, tSl, tPart, tNoPart, sDPut1, tDPop, tBM, tBM0, tPar, gSub, tChain, tNot, tNotV, tDG1, tDG2, tDNewT1, iKeys1, iEnum1, iList1, iTup1, iRng1, iRng2, List.set_cons_zero, List.set_cons_succ]
      refine x_var (by exact rfl) ?_
      refine x_I ⟨by decide, by decide, by first | assumption | omega⟩ ?_
      refine x_I ⟨by decide, by decide, by first | assumption | omega⟩ ?_
      refine x_lst S (by exact Nat.le_of_ble_eq_true rfl) (fun L1 H S => ?_)
      refine x_var (by exact rfl) ?_
      refine x_I0 ?_
      refine x_ixI (cs := [10, 1000, 10 ^ Int.toNat 18, 10 ^ Int.toNat 39]) S 0 (by exact rfl) (by omega) (by first | (show (_ : Int) < 4; omega) | omega) (fun v2 hv2 => ?_)
      have hv2 := List.mem_of_getElem? hv2
      simp only [List.mem_cons, List.not_mem_nil, or_false] at hv2
      have hb : 0 < v2 ∧ v2 ≤ 10 ^ 40 := by rcases hv2 with h | h | h | h <;> rw [h] <;> exact ⟨by decide, by decide⟩
      obtain ⟨hb1, hb2⟩ := hb
      refine c_ltake S 1 2 3 (by exact rfl) (by exact rfl) (by exact rfl) hd (by first | omega | decide | (simp only [len_insAt, List.length_map, List.length_append, List.length_cons, List.length_nil, List.length_take, List.length_drop] at *; omega)) (by first | omega | decide | (simp only [len_insAt, List.length_map, List.length_append, List.length_cons, List.length_nil, List.length_take, List.length_drop] at *; omega)) (fun v3 dr dt dm gs H v3a v3b hd S => ?_)
      simp only [List.set_cons_zero, List.set_cons_succ] at S
      refine x_var (by exact rfl) ?_
      refine x_eq ?_
      refine x_int1 ?_
      have hi1 : (if decide (V.non = V.int 1) = true then (1 : Int) else 0) = 0 := by decide
      refine x_I0 ?_
      try dsimp only [tMethS1, tMethKS1, WE, tSeq, tAsg, gName, tOp, tUn, tCB, tCons, tNil, tCall, tMethK1, tCallK1, tPar3, tRet, tRetN, tDrop, tTest, tB, tC, tNext, tAugS, tAug, sFld1, sFldAug1, tMeth1, tMake, tMakeK1, tSl, tPart, tNoPart, sDPut1, tDPop, tBM, tBM0, tPar, gSub, tChain, tNot, tNotV, tDG1, tDG2, tDNewT1, iKeys1, iEnum1, iList1, iTup1, iRng1, iRng2, List.set_cons_zero, List.set_cons_succ]
      refine x_if ?_
      try dsimp only [tMethS1, tMethKS1, WE, tSeq, tAsg, gName, tOp, tUn, tCB, tCons, tNil, tCall, tMethK1, tCallK1, tPar3, tRet, tRetN, tDrop, tTest, tB, tC, tNext, tAugS, tAug, sFld1, sFldAug1, tMeth1, tMake, tMakeK1, tSl, tPart, tNoPart, sDPut1, tDPop, tBM, tBM0, tPar, gSub, tChain, tNot, tNotV, tDG1, tDG2, tDNewT1, iKeys1, iEnum1, iList1, iTup1, iRng1, iRng2, List.set_cons_zero, List.set_cons_succ]
      refine x_var (by exact rfl) ?_
      refine x_eq ?_
      refine ⟨_, rfl, ?_⟩
      refine iteq (fun c3 => ?_) (fun c3 => ?_)
      · try dsimp only [tMethS1, tMethKS1, WE, tSeq, tAsg, gName, tOp, tUn, tCB, tCons, tNil, tCall, tMethK1, tCallK1, tPar3, tRet, tRetN, tDrop, tTest, tB, tC, tNext, tAugS, tAug, sFld1, sFldAug1, tMeth1, tMake, tMakeK1, tSl, tPart, tNoPart, sDPut1, tDPop, tBM, tBM0, tPar, gSub, tChain, tNot, tNotV, tDG1, tDG2, tDNewT1, iKeys1, iEnum1, iList1, iTup1, iRng1, iRng2, List.set_cons_zero, List.set_cons_succ]
        refine x_var (by exact rfl) ?_
        refine x_var (by exact rfl) ?_
        refine x_I ⟨by decide, by decide, by first | assumption | omega⟩ ?_
        refine ⟨_, rfl, by decide, by decide, fun H F => ?_⟩
        have S := S.stay F
        refine x_lst S (by exact Nat.le_of_ble_eq_true rfl) (fun L2 H S => ?_)
        refine c_pick (fun v => ∃ z : Int, v = .int z ∧ 0 ≤ z ∧ z < 10 ^ 401) S 2 3 4 (by exact rfl) (by exact rfl) (by exact rfl) hd (SomeV.lst S 0 2 3 (by exact rfl) (by exact rfl) (by exact rfl) (by decide) (by decide) pm_n) (fun pk1 dr dt dm gs H hpk1 hd S => ?_)
        simp only [List.set_cons_zero, List.set_cons_succ] at S
        obtain ⟨z1, rfl, z1a, z1b⟩ := hpk1
        refine x_I0 ?_
        try dsimp only [tMethS1, tMethKS1, WE, tSeq, tAsg, gName, tOp, tUn, tCB, tCons, tNil, tCall, tMethK1, tCallK1, tPar3, tRet, tRetN, tDrop, tTest, tB, tC, tNext, tAugS, tAug, sFld1, sFldAug1, tMeth1, tMake, tMakeK1, tSl, tPart, tNoPart, sDPut1, tDPop, tBM, tBM0, tPar, gSub, tChain, tNot, tNotV, tDG1, tDG2, tDNewT1, iKeys1, iEnum1, iList1, iTup1, iRng1, iRng2, List.set_cons_zero, List.set_cons_succ]
        refine x_if ?_
        try dsimp only [tMethS1, tMethKS1, WE, tSeq, tAsg, gName, tOp, tUn, tCB, tCons, tNil, tCall, tMethK1, tCallK1, tPar3, tRet, tRetN, tDrop, tTest, tB, tC, tNext, tAugS, tAug, sFld1, sFldAug1, tMeth1, tMake, tMakeK1, tSl, tPart, tNoPart, sDPut1, tDPop, tBM, tBM0, tPar, gSub, tChain, tNot, tNotV, tDG1, tDG2, tDNewT1, iKeys1, iEnum1, iList1, iTup1, iRng1, iRng2, List.set_cons_zero, List.set_cons_succ]
        refine x_and ?_
        try dsimp only [tMethS1, tMethKS1, WE, tSeq, tAsg, gName, tOp, tUn, tCB, tCons, tNil, tCall, tMethK1, tCallK1, tPar3, tRet, tRetN, tDrop, tTest, tB, tC, tNext, tAugS, tAug, sFld1, sFldAug1, tMeth1, tMake, tMakeK1, tSl, tPart, tNoPart, sDPut1, tDPop, tBM, tBM0, tPar, gSub, tChain, tNot, tNotV, tDG1, tDG2, tDNewT1, iKeys1, iEnum1, iList1, iTup1, iRng1, iRng2, List.set_cons_zero, List.set_cons_succ]
        refine x_var (by exact rfl) ?_
        refine ⟨rfl, ?_⟩
        refine ⟨_, rfl, ?_⟩
        refine ited (fun c4 => ?_) (fun h => absurd rfl h)
        refine x_var (by exact rfl) ?_
        refine c_ltake S 2 3 4 (by exact rfl) (by exact rfl) (by exact rfl) hd (by first | omega | decide | (simp only [len_insAt, List.length_map, List.length_append, List.length_cons, List.length_nil, List.length_take, List.length_drop] at *; omega)) (by first | omega | decide | (simp only [len_insAt, List.length_map, List.length_append, List.length_cons, List.length_nil, List.length_take, List.length_drop] at *; omega)) (fun v4 dr dt dm gs H v4a v4b hd S => ?_)
        simp only [List.set_cons_zero, List.set_cons_succ] at S
        refine x_eq ?_
        refine ⟨_, rfl, ?_⟩
        refine iteq (fun c5 => ?_) (fun c5 => ?_)
        · try dsimp only [tMethS1, tMethKS1, WE, tSeq, tAsg, gName, tOp, tUn, tCB, tCons, tNil, tCall, tMethK1, tCallK1, tPar3, tRet, tRetN, tDrop, tTest, tB, tC, tNext, tAugS, tAug, sFld1, sFldAug1, tMeth1, tMake, tMakeK1, tSl, tPart, tNoPart, sDPut1, tDPop, tBM, tBM0, tPar, gSub, tChain, tNot, tNotV, tDG1, tDG2, tDNewT1, iKeys1, iEnum1, iList1, iTup1, iRng1, iRng2, List.set_cons_zero, List.set_cons_succ]
          refine x_var (by exact rfl) ?_
          refine x_U ?_
          exact k _ _ _ _ _ _ _ _ (⟨_, rfl, by omega, fun l e => by first | (cases e; omega) | cases e⟩) (DH.int _) gr hd (S.subT 5 [2, 3, 4])
        · try dsimp only [tMethS1, tMethKS1, WE, tSeq, tAsg, gName, tOp, tUn, tCB, tCons, tNil, tCall, tMethK1, tCallK1, tPar3, tRet, tRetN, tDrop, tTest, tB, tC, tNext, tAugS, tAug, sFld1, sFldAug1, tMeth1, tMake, tMakeK1, tSl, tPart, tNoPart, sDPut1, tDPop, tBM, tBM0, tPar, gSub, tChain, tNot, tNotV, tDG1, tDG2, tDNewT1, iKeys1, iEnum1, iList1, iTup1, iRng1, iRng2, List.set_cons_zero, List.set_cons_succ]
          refine x_var (by exact rfl) ?_
          exact k _ _ _ _ _ _ _ _ (⟨_, rfl, by omega, fun l e => by first | (cases e; omega) | cases e⟩) (DH.int _) gr hd (S.subT 5 [2, 3, 4])
      · try dsimp only [tMethS1, tMethKS1, WE, tSeq, tAsg, gName, tOp, tUn, tCB, tCons, tNil, tCall, tMethK1, tCallK1, tPar3, tRet, tRetN, tDrop, tTest, tB, tC, tNext, tAugS, tAug, sFld1, sFldAug1, tMeth1, tMake, tMakeK1, tSl, tPart, tNoPart, sDPut1, tDPop, tBM, tBM0, tPar, gSub, tChain, tNot, tNotV, tDG1, tDG2, tDNewT1, iKeys1, iEnum1, iList1, iTup1, iRng1, iRng2, List.set_cons_zero, List.set_cons_succ]
        refine x_if ?_
        try dsimp only [tMethS1, tMethKS1, WE, tSeq, tAsg, gName, tOp, tUn, tCB, tCons, tNil, tCall, tMethK1, tCallK1, tPar3, tRet, tRetN, tDrop, tTest, tB, tC, tNext, tAugS, tAug, sFld1, sFldAug1, tMeth1, tMake, tMakeK1, tSl, tPart, tNoPart, sDPut1, tDPop, tBM, tBM0, tPar, gSub, tChain, tNot, tNotV, tDG1, tDG2, tDNewT1, iKeys1, iEnum1, iList1, iTup1, iRng1, iRng2, List.set_cons_zero, List.set_cons_succ]
        refine x_and ?_
        try dsimp only [tMethS1, tMethKS1, WE, tSeq, tAsg, gName, tOp, tUn, tCB, tCons, tNil, tCall, tMethK1, tCallK1, tPar3, tRet, tRetN, tDrop, tTest, tB, tC, tNext, tAugS, tAug, sFld1, sFldAug1, tMeth1, tMake, tMakeK1, tSl, tPart, tNoPart, sDPut1, tDPop, tBM, tBM0, tPar, gSub, tChain, tNot, tNotV, tDG1, tDG2, tDNewT1, iKeys1, iEnum1, iList1, iTup1, iRng1, iRng2, List.set_cons_zero, List.set_cons_succ]
        refine x_var (by exact rfl) ?_
        refine ⟨rfl, ?_⟩
        refine ⟨_, rfl, ?_⟩
        refine ited (fun c6 => ?_) (fun h => absurd rfl h)
        refine x_var (by exact rfl) ?_
        refine c_ltake S 1 2 3 (by exact rfl) (by exact rfl) (by exact rfl) hd (by first | omega | decide | (simp only [len_insAt, List.length_map, List.length_append, List.length_cons, List.length_nil, List.length_take, List.length_drop] at *; omega)) (by first | omega | decide | (simp only [len_insAt, List.length_map, List.length_append, List.length_cons, List.length_nil, List.length_take, List.length_drop] at *; omega)) (fun v5 dr dt dm gs H v5a v5b hd S => ?_)
        simp only [List.set_cons_zero, List.set_cons_succ] at S
        refine x_eq ?_
        refine ⟨_, rfl, ?_⟩
        refine iteq (fun c7 => ?_) (fun c7 => ?_)
        · try dsimp only [tMethS1, tMethKS1, WE, tSeq, tAsg, gName, tOp, tUn, tCB, tCons, tNil, tCall, tMethK1, tCallK1, tPar3, tRet, tRetN, tDrop, tTest, tB, tC, tNext, tAugS, tAug, sFld1, sFldAug1, tMeth1, tMake, tMakeK1, tSl, tPart, tNoPart, sDPut1, tDPop, tBM, tBM0, tPar, gSub, tChain, tNot, tNotV, tDG1, tDG2, tDNewT1, iKeys1, iEnum1, iList1, iTup1, iRng1, iRng2, List.set_cons_zero, List.set_cons_succ]
          refine x_var (by exact rfl) ?_
          refine x_U ?_
          exact k _ _ _ _ _ _ _ _ (⟨_, rfl, by omega, fun l e => by first | (cases e; omega) | cases e⟩) (DH.int _) gr hd (S.subT 4 [1, 2, 3])
        · try dsimp only [tMethS1, tMethKS1, WE, tSeq, tAsg, gName, tOp, tUn, tCB, tCons, tNil, tCall, tMethK1, tCallK1, tPar3, tRet, tRetN, tDrop, tTest, tB, tC, tNext, tAugS, tAug, sFld1, sFldAug1, tMeth1, tMake, tMakeK1, tSl, tPart, tNoPart, sDPut1, tDPop, tBM, tBM0, tPar, gSub, tChain, tNot, tNotV, tDG1, tDG2, tDNewT1, iKeys1, iEnum1, iList1, iTup1, iRng1, iRng2, List.set_cons_zero, List.set_cons_succ]
          refine x_var (by exact rfl) ?_
          exact k _ _ _ _ _ _ _ _ (⟨_, rfl, by omega, fun l e => by first | (cases e; omega) | cases e⟩) (DH.int _) gr hd (S.subT 4 [1, 2, 3])
theorem ok_law_number0 {f : Addr} {fd : FuncData} (F : L2.Fun K "_law_number" "_law_number" s_law_number f fd) (ctake : Cal P w K mg base CX0 1 "_law_take" spLTake) (cpick : Cal P w K mg base CX0 2 "_law_pick" (spPick K)) (z_int : mg "int" = none) (cten : Cal P w K mg base CX0 1 "_law_ten" spTen) : FnOk P w K mg base CX0 3 f fd ["_law_draw", "_law_least"] (spNumO (some 0) (V.int 0)) := by
  refine F.ok sc_law_number (fun vs H Q E h => ?_) (fun cdv A outer s H0 vs Q E hr h => ?_)
  · obtain ⟨dp, dg, dc, dr, dt, dm, gs, cs, T, R, S, hd, ⟨rfl, rfl⟩, k⟩ := h
    rfl
  · obtain ⟨dp, dg, dc, dr, dt, dm, gs, cs, T, R, S, hd, ⟨rfl, rfl⟩, k⟩ := h
    have hu := hu_of hr
    have gr := Grow.refl T
    refine ⟨_, pss_cons (ps_set (i := 2) sc_law_number.nd rfl (.inl rfl) (pe_c ctake hr (by decide) (by rfl) pass0 (pa_cons (pv 0) (pa_cons (pe_int) pa_nil))))
      (pss_cons (ps_if (pt_cmpR op_lt (pv 2) (pe_int) (nomark _)) (pss_one (ps_ret (pe_op op_add (pv 2) (pe_ifExp (pt_cmpR op_isN (pv 1) (pe_non) (nomark _)) (pe_never) (pv 1))))) (pss_nil))
      (pss_cons (ps_set (i := 3) sc_law_number.nd rfl (.inl rfl) (pe_op op_add (pe_c ctake hr (by decide) (by rfl) pass0 (pa_cons (pv 0) (pa_cons (pe_ix (ix_listK K) (pe_lst1 (pa_cons (pe_int) (pa_cons (pe_int) (pa_cons (pe_op op_pow (pe_int) (pe_int)) (pa_cons (pe_op op_pow (pe_int) (pe_int)) pa_nil))))) (pe_op op_sub (pv 2) (pe_int)) (fun _ _ => rfl)) pa_nil))) (pe_callTy cl_int1 (by rfl) z_int (by decide +kernel) (pa_cons (pe_cmpR op_eq (pv 1) (pe_int) (nomark _)) pa_nil))))
      (pss_cons (ps_if (pt_cmpR op_eq (pv 2) (pe_int) (nomark _)) (pss_one (ps_set (i := 3) sc_law_number.nd rfl (.inl rfl) (pe_op op_add (pv 3) (pe_c cpick hr (by decide) (by rfl) pass0 (pa_cons (pv 0) (pa_cons (pe_lst1 (pa_cons (pe_int) (pa_cons (pe_int) (pa_cons (pe_op op_pow (pe_int) (pe_int)) (pa_cons (pe_c cten hr (by decide) (by rfl) pass0 (pa_cons (pe_int) pa_nil)) pa_nil))))) pa_nil)))))) (pss_nil))
      (pss_cons (ps_if ((pw_and (pt_cmpR op_isN (pv 1) (pe_non) (nomark _)) (pw_and1 (pt_never))).pt) (pss_one (ps_never)) (pss_nil))
      (pss_one (ps_ret (pv 3))))))), ?_⟩
    rw [show start ["_law_draw", "_law_least", "_law_way", "_law_number_here"] [V.ref dp, V.int 0] = [some (V.ref dp), some (V.int 0), none, none] from rfl]
    try dsimp only [tMethS1, tMethKS1, WE, tSeq, tAsg, gName, tOp, tUn, tCB, tCons, tNil, tCall, tMethK1, tCallK1, tPar3, tRet, tRetN, tDrop, tTest, tB, tC, tNext, tAugS, tAug, sFld1, sFldAug1, tMeth1, tMake, tMakeK1, tSl, tPart, tNoPart, sDPut1, tDPop, tBM, tBM0, tPar, gSub, tChain, tNot, tNotV, tDG1, tDG2, tDNewT1, iKeys1, iEnum1, iList1, iTup1, iRng1, iRng2, List.set_cons_zero, List.set_cons_succ]
    refine x_var (by exact rfl) ?_
    refine c_ltake S 0 1 2 (by exact rfl) (by exact rfl) (by exact rfl) hd (by first | omega | decide | (simp only [len_insAt, List.length_map, List.length_append, List.length_cons, List.length_nil, List.length_take, List.length_drop] at *; omega)) (by first | omega | decide | (simp only [len_insAt, List.length_map, List.length_append, List.length_cons, List.length_nil, List.length_take, List.length_drop] at *; omega)) (fun v1 dr dt dm gs H v1a v1b hd S => ?_)
    simp only [List.set_cons_zero, List.set_cons_succ] at S
    try dsimp only [tMethS1, tMethKS1, WE, tSeq, tAsg, gName, tOp, tUn, tCB, tCons, tNil, tCall, tMethK1, tCallK1, tPar3, tRet, tRetN, tDrop, tTest, tB, tC, tNext, tAugS, tAug, sFld1, sFldAug1, tMeth1, tMake, tMakeK1, tSl, tPart, tNoPart, sDPut1, tDPop, tBM, tBM0, tPar, gSub, tChain, tNot, tNotV, tDG1, tDG2, tDNewT1, iKeys1, iEnum1, iList1, iTup1, iRng1, iRng2, List.set_cons_zero, List.set_cons_succ]
    refine x_if ?_
    try dsimp only [tMethS1, tMethKS1, WE, tSeq, tAsg, gName, tOp, tUn, tCB, tCons, tNil, tCall, tMethK1, tCallK1, tPar3, tRet, tRetN, tDrop, tTest, tB, tC, tNext, tAugS, tAug, sFld1, sFldAug1, tMeth1, tMake, tMakeK1, tSl, tPart, tNoPart, sDPut1, tDPop, tBM, tBM0, tPar, gSub, tChain, tNot, tNotV, tDG1, tDG2, tDNewT1, iKeys1, iEnum1, iList1, iTup1, iRng1, iRng2, List.set_cons_zero, List.set_cons_succ]
    refine x_var (by exact rfl) ?_
    refine x_I0 ?_
    refine ⟨_, rfl, ?_⟩
    refine ited (fun c1 => ?_) (fun c1 => ?_)
    · try dsimp only [tMethS1, tMethKS1, WE, tSeq, tAsg, gName, tOp, tUn, tCB, tCons, tNil, tCall, tMethK1, tCallK1, tPar3, tRet, tRetN, tDrop, tTest, tB, tC, tNext, tAugS, tAug, sFld1, sFldAug1, tMeth1, tMake, tMakeK1, tSl, tPart, tNoPart, sDPut1, tDPop, tBM, tBM0, tPar, gSub, tChain, tNot, tNotV, tDG1, tDG2, tDNewT1, iKeys1, iEnum1, iList1, iTup1, iRng1, iRng2, List.set_cons_zero, List.set_cons_succ]
      refine x_var (by exact rfl) ?_
      refine x_ifE ?_
      try dsimp only [tMethS1, tMethKS1, WE, tSeq, tAsg, gName, tOp, tUn, tCB, tCons, tNil, tCall, tMethK1, tCallK1, tPar3, tRet, tRetN, tDrop, tTest, tB, tC, tNext, tAugS, tAug, sFld1, sFldAug1, tMeth1, tMake, tMakeK1, tSl, tPart, tNoPart, sDPut1, tDPop, tBM, tBM0, tPar, gSub, tChain, tNot, tNotV, tDG1, tDG2, tDNewT1, iKeys1, iEnum1, iList1, iTup1, iRng1, iRng2, List.set_cons_zero, List.set_cons_succ]
      refine x_var (by exact rfl) ?_
      refine ⟨rfl, ?_⟩
      refine ⟨_, rfl, ?_⟩
      refine ited (fun h => nomatch h) (fun c2 => ?_)
      refine x_var (by exact rfl) ?_
      refine x_I0 ?_
      exact k _ _ _ _ _ _ _ _ (⟨_, rfl, by omega, fun l e => by first | (cases e; omega) | cases e⟩) (DH.int _) gr hd (S.subT 3 [0, 1, 2])
    · try dsimp only [tMethS1, tMethKS1, WE, tSeq, tAsg, gName, tOp, tUn, tCB, tCons, tNil, tCall, tMethK1, tCallK1, tPar3, tRet, tRetN, tDrop, tTest, tB, tC, tNext, tAugS, tAug, sFld1, sFldAug1, tMeth1, tMake, tMakeK1, tSl, tPart, tNoPart, sDPut1, tDPop, tBM, tBM0, tPar, gSub, tChain, tNot, tNotV, tDG1, tDG2, tDNewT1, iKeys1, iEnum1, iList1, iTup1, iRng1, iRng2, List.set_cons_zero, List.set_cons_succ]
      refine x_var (by exact rfl) ?_
      refine x_I ⟨by decide, by decide, by first | assumption | omega⟩ ?_
      refine x_I ⟨by decide, by decide, by first | assumption | omega⟩ ?_
      refine x_lst S (by exact Nat.le_of_ble_eq_true rfl) (fun L1 H S => ?_)
      refine x_var (by exact rfl) ?_
      refine x_I0 ?_
      refine x_ixI (cs := [10, 1000, 10 ^ Int.toNat 18, 10 ^ Int.toNat 39]) S 0 (by exact rfl) (by omega) (by first | (show (_ : Int) < 4; omega) | omega) (fun v2 hv2 => ?_)
      have hv2 := List.mem_of_getElem? hv2
      simp only [List.mem_cons, List.not_mem_nil, or_false] at hv2
      have hb : 0 < v2 ∧ v2 ≤ 10 ^ 40 := by rcases hv2 with h | h | h | h <;> rw [h] <;> exact ⟨by decide, by decide⟩
      obtain ⟨hb1, hb2⟩ := hb
      refine c_ltake S 1 2 3 (by exact rfl) (by exact rfl) (by exact rfl) hd (by first | omega | decide | (simp only [len_insAt, List.length_map, List.length_append, List.length_cons, List.length_nil, List.length_take, List.length_drop] at *; omega)) (by first | omega | decide | (simp only [len_insAt, List.length_map, List.length_append, List.length_cons, List.length_nil, List.length_take, List.length_drop] at *; omega)) (fun v3 dr dt dm gs H v3a v3b hd S => ?_)
      simp only [List.set_cons_zero, List.set_cons_succ] at S
      refine x_var (by exact rfl) ?_
      refine x_eq ?_
      refine x_int1 ?_
      have hi1 : (if decide (V.int 0 = V.int 1) = true then (1 : Int) else 0) = 0 := by decide
      refine x_I0 ?_
      try dsimp only [tMethS1, tMethKS1, WE, tSeq, tAsg, gName, tOp, tUn, tCB, tCons, tNil, tCall, tMethK1, tCallK1, tPar3, tRet, tRetN, tDrop, tTest, tB, tC, tNext, tAugS, tAug, sFld1, sFldAug1, tMeth1, tMake, tMakeK1, tSl, tPart, tNoPart, sDPut1, tDPop, tBM, tBM0, tPar, gSub, tChain, tNot, tNotV, tDG1, tDG2, tDNewT1, iKeys1, iEnum1, iList1, iTup1, iRng1, iRng2, List.set_cons_zero, List.set_cons_succ]
      refine x_if ?_
      try dsimp only [tMethS1, tMethKS1, WE, tSeq, tAsg, gName, tOp, tUn, tCB, tCons, tNil, tCall, tMethK1, tCallK1, tPar3, tRet, tRetN, tDrop, tTest, tB, tC, tNext, tAugS, tAug, sFld1, sFldAug1, tMeth1, tMake, tMakeK1, tSl, tPart, tNoPart, sDPut1, tDPop, tBM, tBM0, tPar, gSub, tChain, tNot, tNotV, tDG1, tDG2, tDNewT1, iKeys1, iEnum1, iList1, iTup1, iRng1, iRng2, List.set_cons_zero, List.set_cons_succ]
      refine x_var (by exact rfl) ?_
      refine x_eq ?_
      refine ⟨_, rfl, ?_⟩
      refine iteq (fun c3 => ?_) (fun c3 => ?_)
      · try dsimp only [tMethS1, tMethKS1, WE, tSeq, tAsg, gName, tOp, tUn, tCB, tCons, tNil, tCall, tMethK1, tCallK1, tPar3, tRet, tRetN, tDrop, tTest, tB, tC, tNext, tAugS, tAug, sFld1, sFldAug1, tMeth1, tMake, tMakeK1, tSl, tPart, tNoPart, sDPut1, tDPop, tBM, tBM0, tPar, gSub, tChain, tNot, tNotV, tDG1, tDG2, tDNewT1, iKeys1, iEnum1, iList1, iTup1, iRng1, iRng2, List.set_cons_zero, List.set_cons_succ]
        refine x_var (by exact rfl) ?_
        refine x_var (by exact rfl) ?_
        refine x_I ⟨by decide, by decide, by first | assumption | omega⟩ ?_
        refine ⟨_, rfl, by decide, by decide, fun H F => ?_⟩
        have S := S.stay F
        refine x_lst S (by exact Nat.le_of_ble_eq_true rfl) (fun L2 H S => ?_)
        refine c_pick (fun v => ∃ z : Int, v = .int z ∧ 0 ≤ z ∧ z < 10 ^ 401) S 2 3 4 (by exact rfl) (by exact rfl) (by exact rfl) hd (SomeV.lst S 0 2 3 (by exact rfl) (by exact rfl) (by exact rfl) (by decide) (by decide) pm_n) (fun pk1 dr dt dm gs H hpk1 hd S => ?_)
        simp only [List.set_cons_zero, List.set_cons_succ] at S
        obtain ⟨z1, rfl, z1a, z1b⟩ := hpk1
        refine x_I0 ?_
        try dsimp only [tMethS1, tMethKS1, WE, tSeq, tAsg, gName, tOp, tUn, tCB, tCons, tNil, tCall, tMethK1, tCallK1, tPar3, tRet, tRetN, tDrop, tTest, tB, tC, tNext, tAugS, tAug, sFld1, sFldAug1, tMeth1, tMake, tMakeK1, tSl, tPart, tNoPart, sDPut1, tDPop, tBM, tBM0, tPar, gSub, tChain, tNot, tNotV, tDG1, tDG2, tDNewT1, iKeys1, iEnum1, iList1, iTup1, iRng1, iRng2, List.set_cons_zero, List.set_cons_succ]
        refine x_if ?_
        try dsimp only [tMethS1, tMethKS1, WE, tSeq, tAsg, gName, tOp, tUn, tCB, tCons, tNil, tCall, tMethK1, tCallK1, tPar3, tRet, tRetN, tDrop, tTest, tB, tC, tNext, tAugS, tAug, sFld1, sFldAug1, tMeth1, tMake, tMakeK1, tSl, tPart, tNoPart, sDPut1, tDPop, tBM, tBM0, tPar, gSub, tChain, tNot, tNotV, tDG1, tDG2, tDNewT1, iKeys1, iEnum1, iList1, iTup1, iRng1, iRng2, List.set_cons_zero, List.set_cons_succ]
        refine x_and ?_
        try dsimp only [tMethS1, tMethKS1, WE, tSeq, tAsg, gName, tOp, tUn, tCB, tCons, tNil, tCall, tMethK1, tCallK1, tPar3, tRet, tRetN, tDrop, tTest, tB, tC, tNext, tAugS, tAug, sFld1, sFldAug1, tMeth1, tMake, tMakeK1, tSl, tPart, tNoPart, sDPut1, tDPop, tBM, tBM0, tPar, gSub, tChain, tNot, tNotV, tDG1, tDG2, tDNewT1, iKeys1, iEnum1, iList1, iTup1, iRng1, iRng2, List.set_cons_zero, List.set_cons_succ]
        refine x_var (by exact rfl) ?_
        refine ⟨rfl, ?_⟩
        refine ⟨_, rfl, ?_⟩
        refine ited (fun h => nomatch h) (fun c4 => ?_)
        refine iteF ?_
        try dsimp only [tMethS1, tMethKS1, WE, tSeq, tAsg, gName, tOp, tUn, tCB, tCons, tNil, tCall, tMethK1, tCallK1, tPar3, tRet, tRetN, tDrop, tTest, tB, tC, tNext, tAugS, tAug, sFld1, sFldAug1, tMeth1, tMake, tMakeK1, tSl, tPart, tNoPart, sDPut1, tDPop, tBM, tBM0, tPar, gSub, tChain, tNot, tNotV, tDG1, tDG2, tDNewT1, iKeys1, iEnum1, iList1, iTup1, iRng1, iRng2, List.set_cons_zero, List.set_cons_succ]
        refine x_var (by exact rfl) ?_
        exact k _ _ _ _ _ _ _ _ (⟨_, rfl, by omega, fun l e => by first | (cases e; omega) | cases e⟩) (DH.int _) gr hd (S.subT 5 [2, 3, 4])
      · try dsimp only [tMethS1, tMethKS1, WE, tSeq, tAsg, gName, tOp, tUn, tCB, tCons, tNil, tCall, tMethK1, tCallK1, tPar3, tRet, tRetN, tDrop, tTest, tB, tC, tNext, tAugS, tAug, sFld1, sFldAug1, tMeth1, tMake, tMakeK1, tSl, tPart, tNoPart, sDPut1, tDPop, tBM, tBM0, tPar, gSub, tChain, tNot, tNotV, tDG1, tDG2, tDNewT1, iKeys1, iEnum1, iList1, iTup1, iRng1, iRng2, List.set_cons_zero, List.set_cons_succ]
        refine x_if ?_
        try dsimp only [tMethS1, tMethKS1, WE, tSeq, tAsg, gName, tOp, tUn, tCB, tCons, tNil, tCall, tMethK1, tCallK1, tPar3, tRet, tRetN, tDrop, tTest, tB, tC, tNext, tAugS, tAug, sFld1, sFldAug1, tMeth1, tMake, tMakeK1, tSl, tPart, tNoPart, sDPut1, tDPop, tBM, tBM0, tPar, gSub, tChain, tNot, tNotV, tDG1, tDG2, tDNewT1, iKeys1, iEnum1, iList1, iTup1, iRng1, iRng2, List.set_cons_zero, List.set_cons_succ]
        refine x_and ?_
        try dsimp only [tMethS1, tMethKS1, WE, tSeq, tAsg, gName, tOp, tUn, tCB, tCons, tNil, tCall, tMethK1, tCallK1, tPar3, tRet, tRetN, tDrop, tTest, tB, tC, tNext, tAugS, tAug, sFld1, sFldAug1, tMeth1, tMake, tMakeK1, tSl, tPart, tNoPart, sDPut1, tDPop, tBM, tBM0, tPar, gSub, tChain, tNot, tNotV, tDG1, tDG2, tDNewT1, iKeys1, iEnum1, iList1, iTup1, iRng1, iRng2, List.set_cons_zero, List.set_cons_succ]
        refine x_var (by exact rfl) ?_
        refine ⟨rfl, ?_⟩
        refine ⟨_, rfl, ?_⟩
        refine ited (fun h => nomatch h) (fun c5 => ?_)
        refine iteF ?_
        try dsimp only [tMethS1, tMethKS1, WE, tSeq, tAsg, gName, tOp, tUn, tCB, tCons, tNil, tCall, tMethK1, tCallK1, tPar3, tRet, tRetN, tDrop, tTest, tB, tC, tNext, tAugS, tAug, sFld1, sFldAug1, tMeth1, tMake, tMakeK1, tSl, tPart, tNoPart, sDPut1, tDPop, tBM, tBM0, tPar, gSub, tChain, tNot, tNotV, tDG1, tDG2, tDNewT1, iKeys1, iEnum1, iList1, iTup1, iRng1, iRng2, List.set_cons_zero, List.set_cons_succ]
        refine x_var (by exact rfl) ?_
        exact k _ _ _ _ _ _ _ _ (⟨_, rfl, by omega, fun l e => by first | (cases e; omega) | cases e⟩) (DH.int _) gr hd (S.subT 4 [1, 2, 3])
theorem ok_law_number1 {f : Addr} {fd : FuncData} (F : L2.Fun K "_law_number" "_law_number" s_law_number f fd) (ctake : Cal P w K mg base CX0 1 "_law_take" spLTake) (cpick : Cal P w K mg base CX0 2 "_law_pick" (spPick K)) (z_int : mg "int" = none) (cten : Cal P w K mg base CX0 1 "_law_ten" spTen) : FnOk P w K mg base CX0 3 f fd ["_law_draw", "_law_least"] (spNumO (some 1) (V.int 1)) := by
  refine F.ok sc_law_number (fun vs H Q E h => ?_) (fun cdv A outer s H0 vs Q E hr h => ?_)
  · obtain ⟨dp, dg, dc, dr, dt, dm, gs, cs, T, R, S, hd, ⟨rfl, rfl⟩, k⟩ := h
    rfl
  · obtain ⟨dp, dg, dc, dr, dt, dm, gs, cs, T, R, S, hd, ⟨rfl, rfl⟩, k⟩ := h
    have hu := hu_of hr
    have gr := Grow.refl T
    refine ⟨_, pss_cons (ps_set (i := 2) sc_law_number.nd rfl (.inl rfl) (pe_c ctake hr (by decide) (by rfl) pass0 (pa_cons (pv 0) (pa_cons (pe_int) pa_nil))))
      (pss_cons (ps_if (pt_cmpR op_lt (pv 2) (pe_int) (nomark _)) (pss_one (ps_ret (pe_op op_add (pv 2) (pe_ifExp (pt_cmpR op_isN (pv 1) (pe_non) (nomark _)) (pe_never) (pv 1))))) (pss_nil))
      (pss_cons (ps_set (i := 3) sc_law_number.nd rfl (.inl rfl) (pe_op op_add (pe_c ctake hr (by decide) (by rfl) pass0 (pa_cons (pv 0) (pa_cons (pe_ix (ix_listK K) (pe_lst1 (pa_cons (pe_int) (pa_cons (pe_int) (pa_cons (pe_op op_pow (pe_int) (pe_int)) (pa_cons (pe_op op_pow (pe_int) (pe_int)) pa_nil))))) (pe_op op_sub (pv 2) (pe_int)) (fun _ _ => rfl)) pa_nil))) (pe_callTy cl_int1 (by rfl) z_int (by decide +kernel) (pa_cons (pe_cmpR op_eq (pv 1) (pe_int) (nomark _)) pa_nil))))
      (pss_cons (ps_if (pt_cmpR op_eq (pv 2) (pe_int) (nomark _)) (pss_one (ps_set (i := 3) sc_law_number.nd rfl (.inl rfl) (pe_op op_add (pv 3) (pe_c cpick hr (by decide) (by rfl) pass0 (pa_cons (pv 0) (pa_cons (pe_lst1 (pa_cons (pe_int) (pa_cons (pe_int) (pa_cons (pe_op op_pow (pe_int) (pe_int)) (pa_cons (pe_c cten hr (by decide) (by rfl) pass0 (pa_cons (pe_int) pa_nil)) pa_nil))))) pa_nil)))))) (pss_nil))
      (pss_cons (ps_if ((pw_and (pt_cmpR op_isN (pv 1) (pe_non) (nomark _)) (pw_and1 (pt_never))).pt) (pss_one (ps_never)) (pss_nil))
      (pss_one (ps_ret (pv 3))))))), ?_⟩
    rw [show start ["_law_draw", "_law_least", "_law_way", "_law_number_here"] [V.ref dp, V.int 1] = [some (V.ref dp), some (V.int 1), none, none] from rfl]
    try dsimp only [tMethS1, tMethKS1, WE, tSeq, tAsg, gName, tOp, tUn, tCB, tCons, tNil, tCall, tMethK1, tCallK1, tPar3, tRet, tRetN, tDrop, tTest, tB, tC, tNext, tAugS, tAug, sFld1, sFldAug1, tMeth1, tMake, tMakeK1, tSl, tPart, tNoPart, sDPut1, tDPop, tBM, tBM0, tPar, gSub, tChain, tNot, tNotV, tDG1, tDG2, tDNewT1, iKeys1, iEnum1, iList1, iTup1, iRng1, iRng2, List.set_cons_zero, List.set_cons_succ]
    refine x_var (by exact rfl) ?_
    refine c_ltake S 0 1 2 (by exact rfl) (by exact rfl) (by exact rfl) hd (by first | omega | decide | (simp only [len_insAt, List.length_map, List.length_append, List.length_cons, List.length_nil, List.length_take, List.length_drop] at *; omega)) (by first | omega | decide | (simp only [len_insAt, List.length_map, List.length_append, List.length_cons, List.length_nil, List.length_take, List.length_drop] at *; omega)) (fun v1 dr dt dm gs H v1a v1b hd S => ?_)
    simp only [List.set_cons_zero, List.set_cons_succ] at S
    try dsimp only [tMethS1, tMethKS1, WE, tSeq, tAsg, gName, tOp, tUn, tCB, tCons, tNil, tCall, tMethK1, tCallK1, tPar3, tRet, tRetN, tDrop, tTest, tB, tC, tNext, tAugS, tAug, sFld1, sFldAug1, tMeth1, tMake, tMakeK1, tSl, tPart, tNoPart, sDPut1, tDPop, tBM, tBM0, tPar, gSub, tChain, tNot, tNotV, tDG1, tDG2, tDNewT1, iKeys1, iEnum1, iList1, iTup1, iRng1, iRng2, List.set_cons_zero, List.set_cons_succ]
    refine x_if ?_
    try dsimp only [tMethS1, tMethKS1, WE, tSeq, tAsg, gName, tOp, tUn, tCB, tCons, tNil, tCall, tMethK1, tCallK1, tPar3, tRet, tRetN, tDrop, tTest, tB, tC, tNext, tAugS, tAug, sFld1, sFldAug1, tMeth1, tMake, tMakeK1, tSl, tPart, tNoPart, sDPut1, tDPop, tBM, tBM0, tPar, gSub, tChain, tNot, tNotV, tDG1, tDG2, tDNewT1, iKeys1, iEnum1, iList1, iTup1, iRng1, iRng2, List.set_cons_zero, List.set_cons_succ]
    refine x_var (by exact rfl) ?_
    refine x_I0 ?_
    refine ⟨_, rfl, ?_⟩
    refine ited (fun c1 => ?_) (fun c1 => ?_)
    · try dsimp only [tMethS1, tMethKS1, WE, tSeq, tAsg, gName, tOp, tUn, tCB, tCons, tNil, tCall, tMethK1, tCallK1, tPar3, tRet, tRetN, tDrop, tTest, tB, tC, tNext, tAugS, tAug, sFld1, sFldAug1, tMeth1, tMake, tMakeK1, tSl, tPart, tNoPart, sDPut1, tDPop, tBM, tBM0, tPar, gSub, tChain, tNot, tNotV, tDG1, tDG2, tDNewT1, iKeys1, iEnum1, iList1, iTup1, iRng1, iRng2, List.set_cons_zero, List.set_cons_succ]
      refine x_var (by exact rfl) ?_
      refine x_ifE ?_
      try dsimp only [tMethS1, tMethKS1, WE, tSeq, tAsg, gName, tOp, tUn, tCB, tCons, tNil, tCall, tMethK1, tCallK1, tPar3, tRet, tRetN, tDrop, tTest, tB, tC, tNext, tAugS, tAug, sFld1, sFldAug1, tMeth1, tMake, tMakeK1, tSl, tPart, tNoPart, sDPut1, tDPop, tBM, tBM0, tPar, gSub, tChain, tNot, tNotV, tDG1, tDG2, tDNewT1, iKeys1, iEnum1, iList1, iTup1, iRng1, iRng2, List.set_cons_zero, List.set_cons_succ]
      refine x_var (by exact rfl) ?_
      refine ⟨rfl, ?_⟩
      refine ⟨_, rfl, ?_⟩
      refine ited (fun h => nomatch h) (fun c2 => ?_)
      refine x_var (by exact rfl) ?_
      refine x_I0 ?_
      exact k _ _ _ _ _ _ _ _ (⟨_, rfl, by omega, fun l e => by first | (cases e; omega) | cases e⟩) (DH.int _) gr hd (S.subT 3 [0, 1, 2])
    · try dsimp only [tMethS1, tMethKS1, WE, tSeq, tAsg, gName, tOp, tUn, tCB, tCons, tNil, tCall, tMethK1, tCallK1, tPar3, tRet, tRetN, tDrop, tTest, tB, tC, tNext, tAugS, tAug, sFld1, sFldAug1, tMeth1, tMake, tMakeK1, tSl, tPart, tNoPart, sDPut1, tDPop, tBM, tBM0, tPar, gSub, tChain, tNot, tNotV, tDG1, tDG2, tDNewT1, iKeys1, iEnum1, iList1, iTup1, iRng1, iRng2, List.set_cons_zero, List.set_cons_succ]
      refine x_var (by exact rfl) ?_
      refine x_I ⟨by decide, by decide, by first | assumption | omega⟩ ?_
      refine x_I ⟨by decide, by decide, by first | assumption | omega⟩ ?_
      refine x_lst S (by exact Nat.le_of_ble_eq_true rfl) (fun L1 H S => ?_)
      refine x_var (by exact rfl) ?_
      refine x_I0 ?_
      refine x_ixI (cs := [10, 1000, 10 ^ Int.toNat 18, 10 ^ Int.toNat 39]) S 0 (by exact rfl) (by omega) (by first | (show (_ : Int) < 4; omega) | omega) (fun v2 hv2 => ?_)
      have hv2 := List.mem_of_getElem? hv2
      simp only [List.mem_cons, List.not_mem_nil, or_false] at hv2
      have hb : 0 < v2 ∧ v2 ≤ 10 ^ 40 := by rcases hv2 with h | h | h | h <;> rw [h] <;> exact ⟨by decide, by decide⟩
      obtain ⟨hb1, hb2⟩ := hb
      refine c_ltake S 1 2 3 (by exact rfl) (by exact rfl) (by exact rfl) hd (by first | omega | decide | (simp only [len_insAt, List.length_map, List.length_append, List.length_cons, List.length_nil, List.length_take, List.length_drop] at *; omega)) (by first | omega | decide | (simp only [len_insAt, List.length_map, List.length_append, List.length_cons, List.length_nil, List.length_take, List.length_drop] at *; omega)) (fun v3 dr dt dm gs H v3a v3b hd S => ?_)
      simp only [List.set_cons_zero, List.set_cons_succ] at S
      refine x_var (by exact rfl) ?_
      refine x_eq ?_
      refine x_int1 ?_
      have hi1 : (if decide (V.int 1 = V.int 1) = true then (1 : Int) else 0) = 1 := by decide
      refine x_I0 ?_
      try dsimp only [tMethS1, tMethKS1, WE, tSeq, tAsg, gName, tOp, tUn, tCB, tCons, tNil, tCall, tMethK1, tCallK1, tPar3, tRet, tRetN, tDrop, tTest, tB, tC, tNext, tAugS, tAug, sFld1, sFldAug1, tMeth1, tMake, tMakeK1, tSl, tPart, tNoPart, sDPut1, tDPop, tBM, tBM0, tPar, gSub, tChain, tNot, tNotV, tDG1, tDG2, tDNewT1, iKeys1, iEnum1, iList1, iTup1, iRng1, iRng2, List.set_cons_zero, List.set_cons_succ]
      refine x_if ?_
      try dsimp only [tMethS1, tMethKS1, WE, tSeq, tAsg, gName, tOp, tUn, tCB, tCons, tNil, tCall, tMethK1, tCallK1, tPar3, tRet, tRetN, tDrop, tTest, tB, tC, tNext, tAugS, tAug, sFld1, sFldAug1, tMeth1, tMake, tMakeK1, tSl, tPart, tNoPart, sDPut1, tDPop, tBM, tBM0, tPar, gSub, tChain, tNot, tNotV, tDG1, tDG2, tDNewT1, iKeys1, iEnum1, iList1, iTup1, iRng1, iRng2, List.set_cons_zero, List.set_cons_succ]
      refine x_var (by exact rfl) ?_
      refine x_eq ?_
      refine ⟨_, rfl, ?_⟩
      refine iteq (fun c3 => ?_) (fun c3 => ?_)
      · try dsimp only [tMethS1, tMethKS1, WE, tSeq, tAsg, gName, tOp, tUn, tCB, tCons, tNil, tCall, tMethK1, tCallK1, tPar3, tRet, tRetN, tDrop, tTest, tB, tC, tNext, tAugS, tAug, sFld1, sFldAug1, tMeth1, tMake, tMakeK1, tSl, tPart, tNoPart, sDPut1, tDPop, tBM, tBM0, tPar, gSub, tChain, tNot, tNotV, tDG1, tDG2, tDNewT1, iKeys1, iEnum1, iList1, iTup1, iRng1, iRng2, List.set_cons_zero, List.set_cons_succ]
        refine x_var (by exact rfl) ?_
        refine x_var (by exact rfl) ?_
        refine x_I ⟨by decide, by decide, by first | assumption | omega⟩ ?_
        refine ⟨_, rfl, by decide, by decide, fun H F => ?_⟩
        have S := S.stay F
        refine x_lst S (by exact Nat.le_of_ble_eq_true rfl) (fun L2 H S => ?_)
        refine c_pick (fun v => ∃ z : Int, v = .int z ∧ 0 ≤ z ∧ z < 10 ^ 401) S 2 3 4 (by exact rfl) (by exact rfl) (by exact rfl) hd (SomeV.lst S 0 2 3 (by exact rfl) (by exact rfl) (by exact rfl) (by decide) (by decide) pm_n) (fun pk1 dr dt dm gs H hpk1 hd S => ?_)
        simp only [List.set_cons_zero, List.set_cons_succ] at S
        obtain ⟨z1, rfl, z1a, z1b⟩ := hpk1
        refine x_I0 ?_
        try dsimp only [tMethS1, tMethKS1, WE, tSeq, tAsg, gName, tOp, tUn, tCB, tCons, tNil, tCall, tMethK1, tCallK1, tPar3, tRet, tRetN, tDrop, tTest, tB, tC, tNext, tAugS, tAug, sFld1, sFldAug1, tMeth1, tMake, tMakeK1, tSl, tPart, tNoPart, sDPut1, tDPop, tBM, tBM0, tPar, gSub, tChain, tNot, tNotV, tDG1, tDG2, tDNewT1, iKeys1, iEnum1, iList1, iTup1, iRng1, iRng2, List.set_cons_zero, List.set_cons_succ]
        refine x_if ?_
        try dsimp only [tMethS1, tMethKS1, WE, tSeq, tAsg, gName, tOp, tUn, tCB, tCons, tNil, tCall, tMethK1, tCallK1, tPar3, tRet, tRetN, tDrop, tTest, tB, tC, tNext, tAugS, tAug, sFld1, sFldAug1, tMeth1, tMake, tMakeK1, tSl, tPart, tNoPart, sDPut1, tDPop, tBM, tBM0, tPar, gSub, tChain, tNot, tNotV, tDG1, tDG2, tDNewT1, iKeys1, iEnum1, iList1, iTup1, iRng1, iRng2, List.set_cons_zero, List.set_cons_succ]
        refine x_and ?_
        try dsimp only [tMethS1, tMethKS1, WE, tSeq, tAsg, gName, tOp, tUn, tCB, tCons, tNil, tCall, tMethK1, tCallK1, tPar3, tRet, tRetN, tDrop, tTest, tB, tC, tNext, tAugS, tAug, sFld1, sFldAug1, tMeth1, tMake, tMakeK1, tSl, tPart, tNoPart, sDPut1, tDPop, tBM, tBM0, tPar, gSub, tChain, tNot, tNotV, tDG1, tDG2, tDNewT1, iKeys1, iEnum1, iList1, iTup1, iRng1, iRng2, List.set_cons_zero, List.set_cons_succ]
        refine x_var (by exact rfl) ?_
        refine ⟨rfl, ?_⟩
        refine ⟨_, rfl, ?_⟩
        refine ited (fun h => nomatch h) (fun c4 => ?_)
        refine iteF ?_
        try dsimp only [tMethS1, tMethKS1, WE, tSeq, tAsg, gName, tOp, tUn, tCB, tCons, tNil, tCall, tMethK1, tCallK1, tPar3, tRet, tRetN, tDrop, tTest, tB, tC, tNext, tAugS, tAug, sFld1, sFldAug1, tMeth1, tMake, tMakeK1, tSl, tPart, tNoPart, sDPut1, tDPop, tBM, tBM0, tPar, gSub, tChain, tNot, tNotV, tDG1, tDG2, tDNewT1, iKeys1, iEnum1, iList1, iTup1, iRng1, iRng2, List.set_cons_zero, List.set_cons_succ]
        refine x_var (by exact rfl) ?_
        exact k _ _ _ _ _ _ _ _ (⟨_, rfl, by omega, fun l e => by first | (cases e; omega) | cases e⟩) (DH.int _) gr hd (S.subT 5 [2, 3, 4])
      · try dsimp only [tMethS1, tMethKS1, WE, tSeq, tAsg, gName, tOp, tUn, tCB, tCons, tNil, tCall, tMethK1, tCallK1, tPar3, tRet, tRetN, tDrop, tTest, tB, tC, tNext, tAugS, tAug, sFld1, sFldAug1, tMeth1, tMake, tMakeK1, tSl, tPart, tNoPart, sDPut1, tDPop, tBM, tBM0, tPar, gSub, tChain, tNot, tNotV, tDG1, tDG2, tDNewT1, iKeys1, iEnum1, iList1, iTup1, iRng1, iRng2, List.set_cons_zero, List.set_cons_succ]
        refine x_if ?_
        try dsimp only [tMethS1, tMethKS1, WE, tSeq, tAsg, gName, tOp, tUn, tCB, tCons, tNil, tCall, tMethK1, tCallK1, tPar3, tRet, tRetN, tDrop, tTest, tB, tC, tNext, tAugS, tAug, sFld1, sFldAug1, tMeth1, tMake, tMakeK1, tSl, tPart, tNoPart, sDPut1, tDPop, tBM, tBM0, tPar, gSub, tChain, tNot, tNotV, tDG1, tDG2, tDNewT1, iKeys1, iEnum1, iList1, iTup1, iRng1, iRng2, List.set_cons_zero, List.set_cons_succ]
        refine x_and ?_
        try dsimp only [tMethS1, tMethKS1, WE, tSeq, tAsg, gName, tOp, tUn, tCB, tCons, tNil, tCall, tMethK1, tCallK1, tPar3, tRet, tRetN, tDrop, tTest, tB, tC, tNext, tAugS, tAug, sFld1, sFldAug1, tMeth1, tMake, tMakeK1, tSl, tPart, tNoPart, sDPut1, tDPop, tBM, tBM0, tPar, gSub, tChain, tNot, tNotV, tDG1, tDG2, tDNewT1, iKeys1, iEnum1, iList1, iTup1, iRng1, iRng2, List.set_cons_zero, List.set_cons_succ]
        refine x_var (by exact rfl) ?_
        refine ⟨rfl, ?_⟩
        refine ⟨_, rfl, ?_⟩
        refine ited (fun h => nomatch h) (fun c5 => ?_)
        refine iteF ?_
        try dsimp only [tMethS1, tMethKS1, WE, tSeq, tAsg, gName, tOp, tUn, tCB, tCons, tNil, tCall, tMethK1, tCallK1, tPar3, tRet, tRetN, tDrop, tTest, tB, tC, tNext, tAugS, tAug, sFld1, sFldAug1, tMeth1, tMake, tMakeK1, tSl, tPart, tNoPart, sDPut1, tDPop, tBM, tBM0, tPar, gSub, tChain, tNot, tNotV, tDG1, tDG2, tDNewT1, iKeys1, iEnum1, iList1, iTup1, iRng1, iRng2, List.set_cons_zero, List.set_cons_succ]
        refine x_var (by exact rfl) ?_
        exact k _ _ _ _ _ _ _ _ (⟨_, rfl, by omega, fun l e => by first | (cases e; omega) | cases e⟩) (DH.int _) gr hd (S.subT 4 [1, 2, 3])
theorem ok_law_number {f : Addr} {fd : FuncData} (F : L2.Fun K "_law_number" "_law_number" s_law_number f fd) (ctake : Cal P w K mg base CX0 1 "_law_take" spLTake) (cpick : Cal P w K mg base CX0 2 "_law_pick" (spPick K)) (z_int : mg "int" = none) (cten : Cal P w K mg base CX0 1 "_law_ten" spTen) : FnOk P w K mg base CX0 3 f fd ["_law_draw", "_law_least"] spNumF :=
  (FnOk.or (ok_law_numberN F ctake cpick z_int cten) (FnOk.or (ok_law_number0 F ctake cpick z_int cten) (ok_law_number1 F ctake cpick z_int cten))).imp fun _ _ _ _ h => num_cases h
end
end G

set_option linter.all false
set_option maxRecDepth 100000
set_option maxHeartbeats 4000000
namespace G
open PySem PySem.Spec PyProof.Rows L2

def FlatP (d : PyData) : Prop := (∃ t : Str, d = .str t ∧ t.length ≤ 8) ∨ ∃ i : Int, d = .int i ∧ i.natAbs < 10 ^ 402
def PartD (s : Str) (d : PyData) : Prop := isPart s d = true ∧ FlatP d
def spPartD : Sp := spDat fun dp _ vs R => ∃ s : Str, s ∈ sortL ∧ vs = [.ref dp, .str s] ∧ R = PartD s
theorem abc_in {c : Nat} (h1 : 97 ≤ c) (h2 : c ≤ 122) : c ∈ abcL := by
  have e : abcL = List.range' 97 26 := rfl
  rw [e, List.mem_range'_1]
  omega
theorem isName_ok {s : Str} (h : OkN s) : isName (.str s) = true := by
  rw [isName_str, decide_eq_true h.l1, decide_eq_true h.l8]
  show (s.cps.toList.all _) = true
  exact List.all_eq_true.mpr fun c hc => decide_eq_true (abc_in (h.low c hc).1 (h.low c hc).2)
theorem pd_name {s : Str} (h : OkN s) : PartD "name" (.str s) := ⟨by rw [part_name rfl]; exact isName_ok h, .inl ⟨s, rfl, h.l8⟩⟩
theorem pd_way {s : Str} (h : s ∈ wayL) : PartD "way" (.str s) := ⟨by rw [part_way (by decide) rfl]; exact decide_eq_true h, .inl ⟨s, rfl, (by decide +kernel : ∀ s ∈ wayL, s.length ≤ 8) s h⟩⟩
theorem pd_word {s : Str} (h : s ∈ wordL) : PartD "word" (.str s) := ⟨by rw [part_word (by decide) (by decide) rfl]; exact decide_eq_true h, .inl ⟨s, rfl, (by decide +kernel : ∀ s ∈ wordL, s.length ≤ 8) s h⟩⟩
theorem pd_any {d : PyData} (h : NumF 402 none d) : PartD "any" d := by
  obtain ⟨i, rfl, hi, _⟩ := h
  refine ⟨?_, .inr ⟨i, rfl, hi⟩⟩
  rw [part_num (by decide) (by decide) (by decide)]
  exact least_any rfl
theorem pd_one {d : PyData} (h : NumF 402 (some 1) d) : PartD "one" d := by
  obtain ⟨i, rfl, hi, hl⟩ := h
  exact ⟨by rw [part_one]; exact decide_eq_true (hl 1 rfl), .inr ⟨i, rfl, hi⟩⟩
theorem pd_nought {d : PyData} (h : NumF 402 (some 0) d) : PartD "nought" d := by
  obtain ⟨i, rfl, hi, hl⟩ := h
  exact ⟨by rw [part_nought]; exact decide_eq_true (hl 0 rfl), .inr ⟨i, rfl, hi⟩⟩
theorem sort_three {s : Str} (h : s ∈ sortL) (h1 : ¬ V.str s = V.str "name") (h2 : ¬ V.str s = V.str "way") (h3 : ¬ V.str s = V.str "word") : s = "any" ∨ (s = "one" ∨ s = "nought") := by
  unfold sortL at h
  simp only [List.mem_cons, List.not_mem_nil, or_false] at h
  rcases h with e | e | e | e | e | e
  · exact absurd (by rw [e]) h1
  · exact absurd (by rw [e]) h2
  · exact absurd (by rw [e]) h3
  · exact .inl e
  · exact .inr (.inl e)
  · exact .inr (.inr e)
section
variable {P : Program} {w : World} {K : PySem.W.Frag} {mg : Str → Option Value} {base : Heap}
abbrev s_law_part : Stmt := (topS 17)
theorem sc_law_part : FnScope ["_law_draw", "_law_sort"] ["_law_draw", "_law_sort"] (defScope s_law_part) := ⟨rfl, rfl, rfl, by decide +kernel, rfl, by decide +kernel, by decide +kernel⟩
theorem ok_law_part {f : Addr} {fd : FuncData} (F : L2.Fun K "_law_part" "_law_part" s_law_part f fd) (cpick : Cal P w K mg base CX0 2 "_law_pick" (spPick K)) (cname : Cal P w K mg base CX0 3 "_law_name" spNameD) (cnum : Cal P w K mg base CX0 3 "_law_number" spNumF) : FnOk P w K mg base CX0 4 f fd ["_law_draw", "_law_sort"] spPartD := by
  refine F.ok sc_law_part (fun vs H Q E h => ?_) (fun cdv A outer s H0 vs Q E hr h => ?_)
  · obtain ⟨dp, dg, dc, dr, dt, dm, gs, cs, T, R, S, hd, ⟨s, hs, rfl, rfl⟩, k⟩ := h
    rfl
  · obtain ⟨dp, dg, dc, dr, dt, dm, gs, cs, T, R, S, hd, ⟨s, hs, rfl, rfl⟩, k⟩ := h
    have hu := hu_of hr
    have gr := Grow.refl T
    refine ⟨_, pss_cons (ps_if (pt_cmpR op_eq (pv 1) (pe_str) (nomark _)) (pss_one (ps_ret (pe_c cname hr (by decide) (by rfl) pass0 (pa_cons (pv 0) pa_nil)))) (pss_nil))
      (pss_cons (ps_if (pt_cmpR op_eq (pv 1) (pe_str) (nomark _)) (pss_one (ps_ret (pe_c cpick hr (by decide) (by rfl) pass0 (pa_cons (pv 0) (pa_cons (pe_lst1 (pa_cons (pe_str) (pa_cons (pe_str) pa_nil))) pa_nil))))) (pss_nil))
      (pss_cons (ps_if (pt_cmpR op_eq (pv 1) (pe_str) (nomark _)) (pss_one (ps_ret (pe_c cpick hr (by decide) (by rfl) pass0 (pa_cons (pv 0) (pa_cons (pe_lst1 (pa_cons (pe_str) (pa_cons (pe_str) (pa_cons (pe_str) (pa_cons (pe_str) pa_nil))))) pa_nil))))) (pss_nil))
      (pss_one (ps_ret (pe_c cnum hr (by decide) (by rfl) pass0 (pa_cons (pv 0) (pa_cons (pe_dget1v hu (pe_disp (pps_cons pe_str (pe_non) (pps_cons pe_str (pe_int) (pps_cons pe_str (pe_int) pps_nil))) rfl rfl (by simp) (by decide)) (pv 1) (fun _ _ => rfl)) pa_nil))))))), ?_⟩
    rw [show start ["_law_draw", "_law_sort"] [V.ref dp, V.str s] = [some (V.ref dp), some (V.str s)] from rfl]
    try dsimp only [tMethS1, tMethKS1, WE, tSeq, tAsg, gName, tOp, tUn, tCB, tCons, tNil, tCall, tMethK1, tCallK1, tPar3, tRet, tRetN, tDrop, tTest, tB, tC, tNext, tAugS, tAug, sFld1, sFldAug1, tMeth1, tMake, tMakeK1, tSl, tPart, tNoPart, sDPut1, tDPop, tBM, tBM0, tPar, gSub, tChain, tNot, tNotV, tDG1, tDG2, tDNewT1, iKeys1, iEnum1, iList1, iTup1, iRng1, iRng2, List.set_cons_zero, List.set_cons_succ]
    refine x_if ?_
    try dsimp only [tMethS1, tMethKS1, WE, tSeq, tAsg, gName, tOp, tUn, tCB, tCons, tNil, tCall, tMethK1, tCallK1, tPar3, tRet, tRetN, tDrop, tTest, tB, tC, tNext, tAugS, tAug, sFld1, sFldAug1, tMeth1, tMake, tMakeK1, tSl, tPart, tNoPart, sDPut1, tDPop, tBM, tBM0, tPar, gSub, tChain, tNot, tNotV, tDG1, tDG2, tDNewT1, iKeys1, iEnum1, iList1, iTup1, iRng1, iRng2, List.set_cons_zero, List.set_cons_succ]
    refine x_var (by exact rfl) ?_
    refine x_eq ?_
    refine ⟨_, rfl, ?_⟩
    refine ited (fun c1 => ?_) (fun c1 => ?_)
    · obtain rfl : s = _ := V.str.inj c1
      try dsimp only [tMethS1, tMethKS1, WE, tSeq, tAsg, gName, tOp, tUn, tCB, tCons, tNil, tCall, tMethK1, tCallK1, tPar3, tRet, tRetN, tDrop, tTest, tB, tC, tNext, tAugS, tAug, sFld1, sFldAug1, tMeth1, tMake, tMakeK1, tSl, tPart, tNoPart, sDPut1, tDPop, tBM, tBM0, tPar, gSub, tChain, tNot, tNotV, tDG1, tDG2, tDNewT1, iKeys1, iEnum1, iList1, iTup1, iRng1, iRng2, List.set_cons_zero, List.set_cons_succ]
      refine x_var (by exact rfl) ?_
      refine c_dat (NameD) S 3 0 1 2 (by exact rfl) (by exact rfl) (by exact rfl) (by exact rfl) hd (⟨rfl, rfl⟩) (fun v1 d1 T1 dr dt dm gs H hRd1 hd1 gr9 hle9 hd S => ?_)
      simp only [List.set_cons_zero, List.set_cons_succ, List.take_succ_cons, List.take_zero, List.eraseIdx_cons_zero, List.eraseIdx_cons_succ, List.cons_append, List.nil_append] at S
      replace gr := gr.trans gr9
      obtain ⟨nm1, rfl, oknm1⟩ := hRd1
      obtain ⟨rfl, hlnm1⟩ := hd1.str1
      exact k _ _ _ _ _ _ _ _ (pd_name oknm1) (DH.str nm1 hlnm1) gr hd (S.subT 3 [0, 1, 2])
    · try dsimp only [tMethS1, tMethKS1, WE, tSeq, tAsg, gName, tOp, tUn, tCB, tCons, tNil, tCall, tMethK1, tCallK1, tPar3, tRet, tRetN, tDrop, tTest, tB, tC, tNext, tAugS, tAug, sFld1, sFldAug1, tMeth1, tMake, tMakeK1, tSl, tPart, tNoPart, sDPut1, tDPop, tBM, tBM0, tPar, gSub, tChain, tNot, tNotV, tDG1, tDG2, tDNewT1, iKeys1, iEnum1, iList1, iTup1, iRng1, iRng2, List.set_cons_zero, List.set_cons_succ]
      refine x_if ?_
      try dsimp only [tMethS1, tMethKS1, WE, tSeq, tAsg, gName, tOp, tUn, tCB, tCons, tNil, tCall, tMethK1, tCallK1, tPar3, tRet, tRetN, tDrop, tTest, tB, tC, tNext, tAugS, tAug, sFld1, sFldAug1, tMeth1, tMake, tMakeK1, tSl, tPart, tNoPart, sDPut1, tDPop, tBM, tBM0, tPar, gSub, tChain, tNot, tNotV, tDG1, tDG2, tDNewT1, iKeys1, iEnum1, iList1, iTup1, iRng1, iRng2, List.set_cons_zero, List.set_cons_succ]
      refine x_var (by exact rfl) ?_
      refine x_eq ?_
      refine ⟨_, rfl, ?_⟩
      refine ited (fun c2 => ?_) (fun c2 => ?_)
      · obtain rfl : s = _ := V.str.inj c2
        try dsimp only [tMethS1, tMethKS1, WE, tSeq, tAsg, gName, tOp, tUn, tCB, tCons, tNil, tCall, tMethK1, tCallK1, tPar3, tRet, tRetN, tDrop, tTest, tB, tC, tNext, tAugS, tAug, sFld1, sFldAug1, tMeth1, tMake, tMakeK1, tSl, tPart, tNoPart, sDPut1, tDPop, tBM, tBM0, tPar, gSub, tChain, tNot, tNotV, tDG1, tDG2, tDNewT1, iKeys1, iEnum1, iList1, iTup1, iRng1, iRng2, List.set_cons_zero, List.set_cons_succ]
        refine x_var (by exact rfl) ?_
        refine x_lst S (by exact Nat.le_of_ble_eq_true rfl) (fun L1 H S => ?_)
        refine c_pick (fun v => ∃ t ∈ wayL, v = .str t) S 1 2 3 (by exact rfl) (by exact rfl) (by exact rfl) hd (SomeV.lst (xs := wayL.map V.str) S 0 1 2 (by exact rfl) (by exact rfl) (by exact rfl) (by decide) (by decide) (fun v hv => by obtain ⟨s, hs, rfl⟩ := List.mem_map.mp hv; exact ⟨s, hs, rfl⟩)) (fun pk1 dr dt dm gs H hpk1 hd S => ?_)
        simp only [List.set_cons_zero, List.set_cons_succ] at S
        obtain ⟨t9, ht9, rfl⟩ := hpk1
        exact k _ _ _ _ _ _ _ _ (pd_way ht9) (DH.str t9 ((by decide +kernel : ∀ s ∈ wayL, s.length ≤ 100000) _ ht9)) gr hd (S.subT 4 [1, 2, 3])
      · try dsimp only [tMethS1, tMethKS1, WE, tSeq, tAsg, gName, tOp, tUn, tCB, tCons, tNil, tCall, tMethK1, tCallK1, tPar3, tRet, tRetN, tDrop, tTest, tB, tC, tNext, tAugS, tAug, sFld1, sFldAug1, tMeth1, tMake, tMakeK1, tSl, tPart, tNoPart, sDPut1, tDPop, tBM, tBM0, tPar, gSub, tChain, tNot, tNotV, tDG1, tDG2, tDNewT1, iKeys1, iEnum1, iList1, iTup1, iRng1, iRng2, List.set_cons_zero, List.set_cons_succ]
        refine x_if ?_
        try dsimp only [tMethS1, tMethKS1, WE, tSeq, tAsg, gName, tOp, tUn, tCB, tCons, tNil, tCall, tMethK1, tCallK1, tPar3, tRet, tRetN, tDrop, tTest, tB, tC, tNext, tAugS, tAug, sFld1, sFldAug1, tMeth1, tMake, tMakeK1, tSl, tPart, tNoPart, sDPut1, tDPop, tBM, tBM0, tPar, gSub, tChain, tNot, tNotV, tDG1, tDG2, tDNewT1, iKeys1, iEnum1, iList1, iTup1, iRng1, iRng2, List.set_cons_zero, List.set_cons_succ]
        refine x_var (by exact rfl) ?_
        refine x_eq ?_
        refine ⟨_, rfl, ?_⟩
        refine ited (fun c3 => ?_) (fun c3 => ?_)
        · obtain rfl : s = _ := V.str.inj c3
          try dsimp only [tMethS1, tMethKS1, WE, tSeq, tAsg, gName, tOp, tUn, tCB, tCons, tNil, tCall, tMethK1, tCallK1, tPar3, tRet, tRetN, tDrop, tTest, tB, tC, tNext, tAugS, tAug, sFld1, sFldAug1, tMeth1, tMake, tMakeK1, tSl, tPart, tNoPart, sDPut1, tDPop, tBM, tBM0, tPar, gSub, tChain, tNot, tNotV, tDG1, tDG2, tDNewT1, iKeys1, iEnum1, iList1, iTup1, iRng1, iRng2, List.set_cons_zero, List.set_cons_succ]
          refine x_var (by exact rfl) ?_
          refine x_lst S (by exact Nat.le_of_ble_eq_true rfl) (fun L2 H S => ?_)
          refine c_pick (fun v => ∃ t ∈ wordL, v = .str t) S 1 2 3 (by exact rfl) (by exact rfl) (by exact rfl) hd (SomeV.lst (xs := wordL.map V.str) S 0 1 2 (by exact rfl) (by exact rfl) (by exact rfl) (by decide) (by decide) (fun v hv => by obtain ⟨s, hs, rfl⟩ := List.mem_map.mp hv; exact ⟨s, hs, rfl⟩)) (fun pk2 dr dt dm gs H hpk2 hd S => ?_)
          simp only [List.set_cons_zero, List.set_cons_succ] at S
          obtain ⟨t9, ht9, rfl⟩ := hpk2
          exact k _ _ _ _ _ _ _ _ (pd_word ht9) (DH.str t9 ((by decide +kernel : ∀ s ∈ wordL, s.length ≤ 100000) _ ht9)) gr hd (S.subT 4 [1, 2, 3])
        · try dsimp only [tMethS1, tMethKS1, WE, tSeq, tAsg, gName, tOp, tUn, tCB, tCons, tNil, tCall, tMethK1, tCallK1, tPar3, tRet, tRetN, tDrop, tTest, tB, tC, tNext, tAugS, tAug, sFld1, sFldAug1, tMeth1, tMake, tMakeK1, tSl, tPart, tNoPart, sDPut1, tDPop, tBM, tBM0, tPar, gSub, tChain, tNot, tNotV, tDG1, tDG2, tDNewT1, iKeys1, iEnum1, iList1, iTup1, iRng1, iRng2, List.set_cons_zero, List.set_cons_succ]
          refine x_var (by exact rfl) ?_
          refine x_disp S (fun rd1 H S => ?_)
          try dsimp only [tPairs, tC]
          refine x_dispE (kvs := [(.inr "any", .non), (.inr "one", .int 1), (.inr "nought", .int 0)]) S 0 (by exact (by exact rfl)) (by exact (by exact rfl)) (by exact Nat.le_of_ble_eq_true (by exact rfl)) (by exact rfl) (fun H S => ?_)
          simp only [List.set_cons_zero, List.set_cons_succ] at S
          refine x_var (by exact rfl) ?_
          rcases sort_three hs (by assumption) (by assumption) (by assumption) with rfl | rfl | rfl
          · refine x_dget (k := Sum.inr _) S 0 (by exact (by exact rfl)) (v := .non) (by kernel_rfl) ?_
            refine c_dat (NumF 402 none) S 4 1 2 3 (by exact rfl) (by exact rfl) (by exact rfl) (by exact rfl) hd (⟨none, .inl rfl, rfl, rfl⟩) (fun v2 d2 T2 dr dt dm gs H hRd2 hd2 gr9 hle9 hd S => ?_)
            simp only [List.set_cons_zero, List.set_cons_succ, List.take_succ_cons, List.take_zero, List.eraseIdx_cons_zero, List.eraseIdx_cons_succ, List.cons_append, List.nil_append] at S
            replace gr := gr.trans gr9
            exact k _ _ _ _ _ _ _ _ (pd_any hRd2) hd2 gr hd (S.subT 4 [1, 2, 3])
          · refine x_dget (k := Sum.inr _) S 0 (by exact (by exact rfl)) (v := .int 1) (by kernel_rfl) ?_
            refine c_dat (NumF 402 (some 1)) S 4 1 2 3 (by exact rfl) (by exact rfl) (by exact rfl) (by exact rfl) hd (⟨(some 1), .inr (.inr (by exact rfl)), rfl, rfl⟩) (fun v3 d3 T3 dr dt dm gs H hRd3 hd3 gr9 hle9 hd S => ?_)
            simp only [List.set_cons_zero, List.set_cons_succ, List.take_succ_cons, List.take_zero, List.eraseIdx_cons_zero, List.eraseIdx_cons_succ, List.cons_append, List.nil_append] at S
            replace gr := gr.trans gr9
            exact k _ _ _ _ _ _ _ _ (pd_one hRd3) hd3 gr hd (S.subT 4 [1, 2, 3])
          · refine x_dget (k := Sum.inr _) S 0 (by exact (by exact rfl)) (v := .int 0) (by kernel_rfl) ?_
            refine c_dat (NumF 402 (some 0)) S 4 1 2 3 (by exact rfl) (by exact rfl) (by exact rfl) (by exact rfl) hd (⟨(some 0), .inr (.inl (by exact rfl)), rfl, rfl⟩) (fun v4 d4 T4 dr dt dm gs H hRd4 hd4 gr9 hle9 hd S => ?_)
            simp only [List.set_cons_zero, List.set_cons_succ, List.take_succ_cons, List.take_zero, List.eraseIdx_cons_zero, List.eraseIdx_cons_succ, List.cons_append, List.nil_append] at S
            replace gr := gr.trans gr9
            exact k _ _ _ _ _ _ _ _ (pd_nought hRd4) hd4 gr hd (S.subT 4 [1, 2, 3])
end
end G

set_option linter.all false
set_option maxRecDepth 100000
set_option maxHeartbeats 4000000
namespace G
open PySem PySem.Spec PyProof.Rows L2

def KNL : List Str := ["clock", "past", "ask", "stop", "told", "piece", "shut", "room"]
theorem KNL_so {k : Str} (h : k ∈ KNL) : ∃ ss, sortsOf k = some ss := by
  have all : ∀ k ∈ KNL, (sortsOf k).isSome = true := by decide +kernel
  exact Option.isSome_iff_exists.mp (all k h)
theorem KNL_len {k : Str} (h : k ∈ KNL) : k.length ≤ 1000 := (by decide +kernel : ∀ k ∈ KNL, k.length ≤ 1000) k h
theorem ok_one (c : Nat) (h : 97 ≤ c ∧ c ≤ 122) : OkN ⟨#[c]⟩ := ⟨Nat.le_refl 1, (by decide : 1 ≤ 8), fun d hd => (show d = c by simpa using hd) ▸ h⟩
theorem ok_a : OkN "a" := ok_one 97 (by decide)
theorem ok_b : OkN "b" := ok_one 98 (by decide)
inductive FrameD : PyData → Prop
  | mk {k x y : Str} {ss : List Str} {ds : List PyData} : k ∈ KNL → sortsOf k = some ss → OkN x → OkN y → x ≠ y → Paired PartD ss ds → FrameD (.tuple (.str k :: .str x :: .str y :: ds))
def spFrameD : Sp := spDat fun dp _ vs R => vs = [.ref dp] ∧ R = FrameD
theorem Paired.snoc {α β : Type} {R : α → β → Prop} {xs : List α} {ys : List β} {x : α} {y : β} (h : Paired R xs ys) (hx : R x y) : Paired R (xs ++ [x]) (ys ++ [y]) := by
  induction h with
  | nil => exact .cons hx .nil
  | cons a _ ih => exact .cons a ih
theorem x_listDK {H0 H : Hp} {ft : List Addr} {l : List Cell} {p : Addr} {Q : VK} {kvs : List (Key × V)} (S : Sep H0 ft H l) (h : H p = some (.dK kvs)) (q : ∀ r H', Sep H0 ft H' ((2, r, .lst (kvs.map fun kv => kV kv.1)) :: l) → Q (.ref r) H') : rListD [.ref p] H Q := ⟨p, kvs, rfl, h, x_new S _ q⟩
theorem cl_sortedSK {X : Cx} (K : PySem.W.Frag) (h : X.K = K := by rfl) : CallR X (.builtin "sorted") (rSortedS K) := by subst h; exact cr_sortedS
theorem x_sortedS {K : PySem.W.Frag} {H0 H : Hp} {ft : List Addr} {l : List Cell} {t : Nat} {p : Addr} {Q : VK} {ss : List Str} (S : Sep H0 ft H l) (n : Nat) (h : l[n]? = some (t, p, .lst (ss.map V.str))) (hl : ss.length < 64) (q : ∀ (ys : List Str) r H', ys.Perm ss → Sep H0 ft H' ((2, r, .lst (ys.map V.str)) :: l) → Q (.ref r) H') : rSortedS K [.ref p] H Q :=
  ⟨p, ss, rfl, S.sl n h, hl, fun ys r hp _ hr => q ys r _ hp (S.new hr _)⟩
theorem kg_so {kvs : List (Key × V)} {k : Str} {ss : List Str} {C : List Cell} (h : (valV kvs (.inr k : Key) = none ∧ sortsOf k = none) ∨ ∃ ss a, valV kvs (.inr k : Key) = some (.ref a) ∧ sortsOf k = some ss ∧ (2, a, HO.tup (ss.map V.str)) ∈ C) (e : sortsOf k = some ss) : ∃ a, valV kvs (.inr k : Key) = some (.ref a) ∧ (2, a, HO.tup (ss.map V.str)) ∈ C := by
  rcases h with ⟨_, h⟩ | ⟨ss', a, h, h2, h3⟩
  · rw [e] at h; cases h
  · rw [e] at h2; cases h2; exact ⟨a, h, h3⟩
theorem x_dgetH {p : Addr} {k : Key} {v : V} {kvs : List (Key × V)} {H : Hp} {Q : VK} (h : H p = some (.dK kvs)) (hv : valV kvs k = some v) (q : Q v H) : rDGet (.ref p) (kV k) H Q := ⟨p, v, rfl, by rw [← hv]; exact DGet.k h, q⟩
theorem c_kindsT {H0 H : Hp} {ft : List Addr} {l T : List Cell} {Q : VK} {E : XK} (S : Sep H0 ft H l) (n : Nat) (hT : l.drop n = T) (k : ∀ (p a0 a1 a2 a3 a4 a5 a6 a7 : Addr) (T' : List Cell) (H' : Hp), Grow T T' → Le (tl T) (tl T') → (∀ c ∈ kindC p a0 a1 a2 a3 a4 a5 a6 a7, tl T' c.2.1 = some c.2.2) → Sep H0 ft H' (l.take n ++ T') → Q (.ref p) H') : spKinds [] H Q E :=
  ⟨rfl, fun p a0 a1 a2 a3 a4 a5 a6 a7 H' S' => by
    have S1 := (S.callN S' kind_new).tail n
    have S2 : Sep H0 ft H' (l.take n ++ (kindC p a0 a1 a2 a3 a4 a5 a6 a7 ++ l.drop n)) := S1
    rw [hT] at S2
    have g : Grow T (kindC p a0 a1 a2 a3 a4 a5 a6 a7 ++ T) := ⟨_, rfl, kind_new⟩
    exact k p a0 a1 a2 a3 a4 a5 a6 a7 _ H' g (g.le S2.ndT) (fun c hc => tl_mem S2.ndT (List.mem_append_left _ hc)) S2⟩
section
variable {P : Program} {w : World} {K : PySem.W.Frag} {mg : Str → Option Value} {base : Heap}
abbrev s_law_frame : Stmt := (topS 18)
theorem sc_law_frame : FnScope ["_law_draw", "_law_kinds_here", "_law_kind", "_law_to", "_law_of", "_law_sort"] ["_law_draw"] (defScope s_law_frame) := ⟨rfl, rfl, rfl, by decide +kernel, rfl, by decide +kernel, by decide +kernel⟩
theorem ok_law_frame {f : Addr} {fd : FuncData} (F : L2.Fun K "_law_frame" "_law_frame" s_law_frame f fd) (cpick : Cal P w K mg base CX0 2 "_law_pick" (spPick K)) (ckinds : Cal P w K mg base CX0 1 "_law_kinds" spKinds) (cname : Cal P w K mg base CX0 3 "_law_name" spNameD) (cpart : Cal P w K mg base CX0 4 "_law_part" spPartD) (z_sorted : mg "sorted" = none) (z_list : mg "list" = none) (z_tuple : mg "tuple" = none) : FnOk P w K mg base CX0 5 f fd ["_law_draw"] spFrameD := by
  refine F.ok sc_law_frame (fun vs H Q E h => ?_) (fun cdv A outer s H0 vs Q E hr h => ?_)
  · obtain ⟨dp, dg, dc, dr, dt, dm, gs, cs, T, R, S, hd, ⟨rfl, rfl⟩, k⟩ := h
    rfl
  · obtain ⟨dp, dg, dc, dr, dt, dm, gs, cs, T, R, S, hd, ⟨rfl, rfl⟩, k⟩ := h
    have hu := hu_of hr
    have gr := Grow.refl T
    refine ⟨_, pss_cons (ps_set (i := 1) sc_law_frame.nd rfl (.inl rfl) (pe_c0 ckinds hr (by decide) (by rfl) pass0))
      (pss_cons (ps_set (i := 2) sc_law_frame.nd rfl (.inl rfl) (pe_c cpick hr (by decide) (by rfl) pass0 (pa_cons (pv 0) (pa_cons (pe_callB (cl_sortedSK K) (by rfl) z_sorted (by decide +kernel) (pa_cons (pe_callTy (call_list_dK rfl) (by rfl) z_list (by decide +kernel) (pa_cons (pv 1) pa_nil)) pa_nil)) pa_nil))))
      (pss_cons (ps_set (i := 3) sc_law_frame.nd rfl (.inl rfl) (pe_c cname hr (by decide) (by rfl) pass0 (pa_cons (pv 0) pa_nil)))
      (pss_cons (ps_set (i := 4) sc_law_frame.nd rfl (.inl rfl) (pe_c cname hr (by decide) (by rfl) pass0 (pa_cons (pv 0) pa_nil)))
      (pss_cons (ps_if (pt_cmpR op_eq (pv 4) (pv 3) (nomark _)) (pss_one (ps_set (i := 4) sc_law_frame.nd rfl (.inl rfl) (pe_ifExp (pt_cmpR op_eq (pv 3) (pe_str) (nomark _)) (pe_str) (pe_str)))) (pss_nil))
      (pss_one (ps_ret (pe_op (op_catAK K) (pe_tup1 (pa_cons (pv 2) (pa_cons (pv 3) (pa_cons (pv 4) pa_nil)))) (pe_callTy (cl_tupleK K) (by rfl) z_tuple (by decide +kernel) (pa_cons (pe_lc (own := [("_law_sort", 5)]) (g := gName 5) rfl sc_law_frame.nd (pi_tupK K (pe_dget1v hu (pv 1) (pv 2) (fun _ _ => rfl))) (blkOk_by (N := ["_law_draw", "_law_kinds_here", "_law_kind", "_law_to", "_law_of", "_law_sort"]) (sc := defScope s_law_frame) (by decide +kernel)) (fun _ _ _ _ _ => pg_name (i := 5) sc_law_frame.nd rfl (.inl rfl)) (fun _ _ _ _ _ => pts_nil) (fun _ _ _ _ _ => pe_c cpart hr (by decide) (by rfl) pass0 (pa_cons (pv 0) (pa_cons (pv 5) pa_nil)))) pa_nil))))))))), ?_⟩
    rw [show start ["_law_draw", "_law_kinds_here", "_law_kind", "_law_to", "_law_of", "_law_sort"] [V.ref dp] = [some (V.ref dp), none, none, none, none, none] from rfl]
    try dsimp only [tMethS1, tMethKS1, WE, tSeq, tAsg, gName, tOp, tUn, tCB, tCons, tNil, tCall, tMethK1, tCallK1, tPar3, tRet, tRetN, tDrop, tTest, tB, tC, tNext, tAugS, tAug, sFld1, sFldAug1, tMeth1, tMake, tMakeK1, tSl, tPart, tNoPart, sDPut1, tDPop, tBM, tBM0, tPar, gSub, tChain, tNot, tNotV, tDG1, tDG2, tDNewT1, iKeys1, iEnum1, iList1, iTup1, iRng1, iRng2, List.set_cons_zero, List.set_cons_succ]
    refine c_kindsT S 3 (by exact rfl) (fun kd ka0 ka1 ka2 ka3 ka4 ka5 ka6 ka7 T1 H gr9 hle9 hkc S => ?_)
    simp only [List.set_cons_zero, List.set_cons_succ, List.take_succ_cons, List.take_zero, List.eraseIdx_cons_zero, List.eraseIdx_cons_succ, List.cons_append, List.nil_append] at S
    replace gr := gr.trans gr9
    have hkd := hkc _ (show (2, kd, HO.dK (kindKV ka0 ka1 ka2 ka3 ka4 ka5 ka6 ka7)) ∈ _ from List.mem_cons_self)
    try dsimp only [tMethS1, tMethKS1, WE, tSeq, tAsg, gName, tOp, tUn, tCB, tCons, tNil, tCall, tMethK1, tCallK1, tPar3, tRet, tRetN, tDrop, tTest, tB, tC, tNext, tAugS, tAug, sFld1, sFldAug1, tMeth1, tMake, tMakeK1, tSl, tPart, tNoPart, sDPut1, tDPop, tBM, tBM0, tPar, gSub, tChain, tNot, tNotV, tDG1, tDG2, tDNewT1, iKeys1, iEnum1, iList1, iTup1, iRng1, iRng2, List.set_cons_zero, List.set_cons_succ]
    refine x_var (by exact rfl) ?_
    refine x_var (by exact rfl) ?_
    refine x_listDK S ((S.tl (T := T1) fun c h => List.mem_cons_of_mem _ (List.mem_cons_of_mem _ (List.mem_cons_of_mem _ (h)))) _ _ hkd) (fun l1 H S => ?_)
    replace S : Sep H0 [dp, dg] H ((2, l1, .lst (KNL.map V.str)) :: _) := S
    refine x_sortedS S 0 (by exact rfl) (by decide) (fun ks9 so1 H hpm S => ?_)
    refine c_pick (fun v => ∃ t ∈ KNL, v = .str t) S 2 3 4 (by exact rfl) (by exact rfl) (by exact rfl) hd (SomeV.lst S 0 2 3 (by exact rfl) (by exact rfl) (by exact rfl) (by rw [List.length_map, hpm.length_eq]; decide) (by rw [List.length_map, hpm.length_eq]; decide) (fun v hv => by obtain ⟨s, hs, rfl⟩ := List.mem_map.mp hv; exact ⟨s, hpm.mem_iff.mp hs, rfl⟩)) (fun pk1 dr dt dm gs H hpk1 hd S => ?_)
    simp only [List.set_cons_zero, List.set_cons_succ] at S
    obtain ⟨kk, hkk, rfl⟩ := hpk1
    obtain ⟨ss, hso⟩ := KNL_so hkk
    try dsimp only [tMethS1, tMethKS1, WE, tSeq, tAsg, gName, tOp, tUn, tCB, tCons, tNil, tCall, tMethK1, tCallK1, tPar3, tRet, tRetN, tDrop, tTest, tB, tC, tNext, tAugS, tAug, sFld1, sFldAug1, tMeth1, tMake, tMakeK1, tSl, tPart, tNoPart, sDPut1, tDPop, tBM, tBM0, tPar, gSub, tChain, tNot, tNotV, tDG1, tDG2, tDNewT1, iKeys1, iEnum1, iList1, iTup1, iRng1, iRng2, List.set_cons_zero, List.set_cons_succ]
    refine x_var (by exact rfl) ?_
    refine c_dat (NameD) S 5 2 3 4 (by exact rfl) (by exact rfl) (by exact rfl) (by exact rfl) hd (⟨rfl, rfl⟩) (fun v1 d1 T2 dr dt dm gs H hRd1 hd1 gr9 hle9 hd S => ?_)
    simp only [List.set_cons_zero, List.set_cons_succ, List.take_succ_cons, List.take_zero, List.eraseIdx_cons_zero, List.eraseIdx_cons_succ, List.cons_append, List.nil_append] at S
    replace gr := gr.trans gr9
    replace hkd := hle9 _ _ hkd
    replace hkc := fun u m => hle9 _ _ (hkc u m)
    obtain ⟨nm1, rfl, oknm1⟩ := hRd1
    obtain ⟨rfl, hlnm1⟩ := hd1.str1
    try dsimp only [tMethS1, tMethKS1, WE, tSeq, tAsg, gName, tOp, tUn, tCB, tCons, tNil, tCall, tMethK1, tCallK1, tPar3, tRet, tRetN, tDrop, tTest, tB, tC, tNext, tAugS, tAug, sFld1, sFldAug1, tMeth1, tMake, tMakeK1, tSl, tPart, tNoPart, sDPut1, tDPop, tBM, tBM0, tPar, gSub, tChain, tNot, tNotV, tDG1, tDG2, tDNewT1, iKeys1, iEnum1, iList1, iTup1, iRng1, iRng2, List.set_cons_zero, List.set_cons_succ]
    refine x_var (by exact rfl) ?_
    refine c_dat (NameD) S 5 2 3 4 (by exact rfl) (by exact rfl) (by exact rfl) (by exact rfl) hd (⟨rfl, rfl⟩) (fun v2 d2 T3 dr dt dm gs H hRd2 hd2 gr9 hle9 hd S => ?_)
    simp only [List.set_cons_zero, List.set_cons_succ, List.take_succ_cons, List.take_zero, List.eraseIdx_cons_zero, List.eraseIdx_cons_succ, List.cons_append, List.nil_append] at S
    replace gr := gr.trans gr9
    replace hkd := hle9 _ _ hkd
    replace hkc := fun u m => hle9 _ _ (hkc u m)
    obtain ⟨nm2, rfl, oknm2⟩ := hRd2
    obtain ⟨rfl, hlnm2⟩ := hd2.str1
    try dsimp only [tMethS1, tMethKS1, WE, tSeq, tAsg, gName, tOp, tUn, tCB, tCons, tNil, tCall, tMethK1, tCallK1, tPar3, tRet, tRetN, tDrop, tTest, tB, tC, tNext, tAugS, tAug, sFld1, sFldAug1, tMeth1, tMake, tMakeK1, tSl, tPart, tNoPart, sDPut1, tDPop, tBM, tBM0, tPar, gSub, tChain, tNot, tNotV, tDG1, tDG2, tDNewT1, iKeys1, iEnum1, iList1, iTup1, iRng1, iRng2, List.set_cons_zero, List.set_cons_succ]
    refine x_if ?_
    try dsimp only [tMethS1, tMethKS1, WE, tSeq, tAsg, gName, tOp, tUn, tCB, tCons, tNil, tCall, tMethK1, tCallK1, tPar3, tRet, tRetN, tDrop, tTest, tB, tC, tNext, tAugS, tAug, sFld1, sFldAug1, tMeth1, tMake, tMakeK1, tSl, tPart, tNoPart, sDPut1, tDPop, tBM, tBM0, tPar, gSub, tChain, tNot, tNotV, tDG1, tDG2, tDNewT1, iKeys1, iEnum1, iList1, iTup1, iRng1, iRng2, List.set_cons_zero, List.set_cons_succ]
    refine x_var (by exact rfl) ?_
    refine x_var (by exact rfl) ?_
    refine x_eq ?_
    refine ⟨_, rfl, ?_⟩
    refine ited (fun c1 => ?_) (fun c1 => ?_)
    · try dsimp only [tMethS1, tMethKS1, WE, tSeq, tAsg, gName, tOp, tUn, tCB, tCons, tNil, tCall, tMethK1, tCallK1, tPar3, tRet, tRetN, tDrop, tTest, tB, tC, tNext, tAugS, tAug, sFld1, sFldAug1, tMeth1, tMake, tMakeK1, tSl, tPart, tNoPart, sDPut1, tDPop, tBM, tBM0, tPar, gSub, tChain, tNot, tNotV, tDG1, tDG2, tDNewT1, iKeys1, iEnum1, iList1, iTup1, iRng1, iRng2, List.set_cons_zero, List.set_cons_succ]
      refine x_ifE ?_
      try dsimp only [tMethS1, tMethKS1, WE, tSeq, tAsg, gName, tOp, tUn, tCB, tCons, tNil, tCall, tMethK1, tCallK1, tPar3, tRet, tRetN, tDrop, tTest, tB, tC, tNext, tAugS, tAug, sFld1, sFldAug1, tMeth1, tMake, tMakeK1, tSl, tPart, tNoPart, sDPut1, tDPop, tBM, tBM0, tPar, gSub, tChain, tNot, tNotV, tDG1, tDG2, tDNewT1, iKeys1, iEnum1, iList1, iTup1, iRng1, iRng2, List.set_cons_zero, List.set_cons_succ]
      refine x_var (by exact rfl) ?_
      refine x_eq ?_
      refine ⟨_, rfl, ?_⟩
      refine ited (fun c2 => ?_) (fun c2 => ?_)
      · have hne : nm1 ≠ Str.ofString "b" := fun e => absurd ((V.str.inj c2).symm.trans e) (by decide)
        try dsimp only [tMethS1, tMethKS1, WE, tSeq, tAsg, gName, tOp, tUn, tCB, tCons, tNil, tCall, tMethK1, tCallK1, tPar3, tRet, tRetN, tDrop, tTest, tB, tC, tNext, tAugS, tAug, sFld1, sFldAug1, tMeth1, tMake, tMakeK1, tSl, tPart, tNoPart, sDPut1, tDPop, tBM, tBM0, tPar, gSub, tChain, tNot, tNotV, tDG1, tDG2, tDNewT1, iKeys1, iEnum1, iList1, iTup1, iRng1, iRng2, List.set_cons_zero, List.set_cons_succ]
        refine x_var (by exact rfl) ?_
        refine x_var (by exact rfl) ?_
        refine x_var (by exact rfl) ?_
        refine x_tup S (by exact Nat.le_of_ble_eq_true rfl) (fun U1 H S => ?_)
        obtain ⟨T4, gr9, hle9, hfU1, S⟩ := S.freeze 6 0 rfl (by decide) rfl
        simp only [List.set_cons_zero, List.set_cons_succ, List.take_succ_cons, List.take_zero, List.eraseIdx_cons_zero, List.eraseIdx_cons_succ, List.cons_append, List.nil_append] at S
        replace gr := gr.trans gr9
        replace hkd := hle9 _ _ hkd
        replace hkc := fun u m => hle9 _ _ (hkc u m)
        refine x_lc ?_
        try dsimp only [tMethS1, tMethKS1, tOp, tUn, tCB, tCons, tNil, tCall, tMethK1, tCallK1, tC, tMeth1, tMake, tMakeK1, tSl, tPart, tNoPart, tDPop, tChain, tNotV, tBM, tBM0, tDG1, tDG2, tDNewT1, iKeys1, iEnum1, iList1, iTup1, iRng1, iRng2]
        try dsimp only [tOp]
        refine x_var (by exact rfl) ?_
        refine x_var (by exact rfl) ?_
        obtain ⟨ka, hkv, hkm⟩ := kg_so (kind_get (p := kd) (k := kk) (a0 := ka0) (a1 := ka1) (a2 := ka2) (a3 := ka3) (a4 := ka4) (a5 := ka5) (a6 := ka6) (a7 := ka7)) hso
        have hka := hkc _ hkm
        refine x_dgetH (k := Sum.inr kk) ((S.tl (T := T4) fun c h => List.mem_cons_of_mem _ (List.mem_cons_of_mem _ (List.mem_cons_of_mem _ (List.mem_cons_of_mem _ (List.mem_cons_of_mem _ (h)))))) _ _ hkd) hkv ?_
        refine ⟨_, rfl, ⟨_, .of ((S.tl (T := T4) fun c h => List.mem_cons_of_mem _ (List.mem_cons_of_mem _ (List.mem_cons_of_mem _ (List.mem_cons_of_mem _ (List.mem_cons_of_mem _ (h)))))) _ _ hka)⟩, ?_⟩
        refine lcW (walk_tup (xs := ss.map V.str)) S (fun pl1 H S => ⟨fun j H1 => ∃ (Tj : List Cell) (vs : List V) (ds : List PyData) (dr dt dm : Int) (gs : List Int), vs.length = j ∧ Grow T Tj ∧ Le (tl T4) (tl Tj) ∧ DHs (tl Tj) vs ds ∧ Paired PartD (ss.take j) ds ∧ Drw dr dt dm gs ∧ Sep H0 [dp, dg] H1 ((2, pl1, .lst vs) :: (1, dp, .dK (R_drw dg dc dr dt dm)) :: (1, dg, .lst (gs.map V.int)) :: (0, dc, .lst (cs.map V.int)) :: Tj), ?_, ?_, ?_, ?_⟩)
        · exact ⟨_, [], [], _, _, _, _, rfl, gr, (fun a o e => e), .nil, .nil, hd, S.subT 6 [0, 3, 4, 5]⟩
        · rintro j H hi ⟨Tj, vs, ds, dr, dt, dm, gs, hvl, gr, hlj, hds, hpd, hd, S⟩
          exact .of (S.tl (T := Tj) (fun c h => List.mem_cons_of_mem _ (List.mem_cons_of_mem _ (List.mem_cons_of_mem _ (List.mem_cons_of_mem _ h)))) _ _ (hlj _ _ hka))
        · rintro j y H H9 hi ⟨Tj, vs, ds, dr, dt, dm, gs, hvl, gr, hlj, hds, hpd, hd, S⟩ hy
          obtain ⟨rfl, hy9⟩ := hy
          obtain ⟨sj, hsj, rfl⟩ := elem_of hy9
          refine ⟨rfl, ?_⟩
          try dsimp only [tMethS1, tMethKS1, WE, wipe, tYes, tSeq, tAsg, gName, tOp, tUn, tCB, tCons, tNil, tCall, tMethK1, tCallK1, tPar3, tRet, tRetN, tDrop, tTest, tB, tC, tNext, tAugS, tAug, sFld1, sFldAug1, tMeth1, tMake, tMakeK1, tSl, tPart, tNoPart, sDPut1, tDPop, tBM, tBM0, tPar, gSub, tChain, tNot, tNotV, tDG1, tDG2, tDNewT1, iKeys1, iEnum1, iList1, iTup1, iRng1, iRng2, List.set_cons_zero, List.set_cons_succ]
          refine iteT ?_
          refine x_var (by exact rfl) ?_
          refine x_var (by exact rfl) ?_
          refine c_dat (PartD sj) S 4 1 2 3 (by exact rfl) (by exact rfl) (by exact rfl) (by exact rfl) hd (⟨sj, sorts_in hso _ (List.mem_of_getElem? hsj), rfl, rfl⟩) (fun v3 d3 T5 dr dt dm gs H hRd3 hd3 gr9 hle9 hd S => ?_)
          simp only [List.set_cons_zero, List.set_cons_succ, List.take_succ_cons, List.take_zero, List.eraseIdx_cons_zero, List.eraseIdx_cons_succ, List.cons_append, List.nil_append] at S
          replace gr := gr.trans gr9
          replace hds := hds.mono hle9
          replace hlj : Le _ (tl T5) := fun a o e => hle9 _ _ (hlj _ _ e)
          refine x_lcapp S 0 (by exact rfl) (by have := lt_of_get hsj; have := sorts_len hso; omega) (fun H S => ?_)
          simp only [List.set_cons_zero, List.set_cons_succ] at S
          exact ⟨_, _, _, _, _, _, _, by rw [List.length_append, hvl]; rfl, gr, hlj, hds.app (.cons hd3 .nil), by rw [take_snoc hsj]; exact hpd.snoc hRd3, hd, S.subT 4 [0, 1, 2, 3]⟩
        · rintro H ⟨Tj, vs, ds, dr, dt, dm, gs, hvl, gr, hlj, hds, hpd, hd, S⟩
          have h3 := hlj _ _ hfU1
          rw [List.length_map, List.take_length] at hpd
          try dsimp only [tMethS1, tMethKS1, WE, tSeq, tAsg, gName, tOp, tUn, tCB, tCons, tNil, tCall, tMethK1, tCallK1, tPar3, tRet, tRetN, tDrop, tTest, tB, tC, tNext, tAugS, tAug, sFld1, sFldAug1, tMeth1, tMake, tMakeK1, tSl, tPart, tNoPart, sDPut1, tDPop, tBM, tBM0, tPar, gSub, tChain, tNot, tNotV, tDG1, tDG2, tDNewT1, iKeys1, iEnum1, iList1, iTup1, iRng1, iRng2, List.set_cons_zero, List.set_cons_succ]
          refine x_tupL S 0 (by exact rfl) (fun tp1 H S => ?_)
          obtain ⟨T6, gr9, hle9, hftp1, S⟩ := S.freeze 5 0 rfl (by decide) rfl
          simp only [List.set_cons_zero, List.set_cons_succ, List.take_succ_cons, List.take_zero, List.eraseIdx_cons_zero, List.eraseIdx_cons_succ, List.cons_append, List.nil_append] at S
          replace gr := gr.trans gr9
          replace hds := hds.mono hle9
          replace h3 := hle9 _ _ h3
          have hap9 := (DHs.cons (DH.str kk (Nat.le_trans (KNL_len hkk) (by decide))) (DHs.cons (DH.str nm1 hlnm1) (DHs.cons (DH.str (Str.ofString "b") (by exact Nat.le_of_ble_eq_true rfl)) hds)))
          have hvd := hds.len
          have hpl := Paired.length hpd
          have hsn := sorts_len hso
          refine x_catD S 4 (by exact rfl) h3 hftp1 (by simp only [List.length_cons, List.length_nil]; omega) (fun fr9 T7 H gr9 hle9 hffr9 S => ?_)
          simp only [List.set_cons_zero, List.set_cons_succ, List.take_succ_cons, List.take_zero, List.eraseIdx_cons_zero, List.eraseIdx_cons_succ, List.cons_append, List.nil_append] at S
          replace gr := gr.trans gr9
          replace hds := hds.mono hle9
          replace h3 := hle9 _ _ h3
          replace hftp1 := hle9 _ _ hftp1
          replace hap9 := hap9.mono hle9
          exact k _ _ _ _ _ _ _ _ (FrameD.mk hkk hso oknm1 ok_b hne hpd) (DH.tup hffr9 hap9) gr hd (S.subT 4 [1, 2, 3])
      · have hne : nm1 ≠ Str.ofString "a" := fun e => c2 (by rw [e])
        try dsimp only [tMethS1, tMethKS1, WE, tSeq, tAsg, gName, tOp, tUn, tCB, tCons, tNil, tCall, tMethK1, tCallK1, tPar3, tRet, tRetN, tDrop, tTest, tB, tC, tNext, tAugS, tAug, sFld1, sFldAug1, tMeth1, tMake, tMakeK1, tSl, tPart, tNoPart, sDPut1, tDPop, tBM, tBM0, tPar, gSub, tChain, tNot, tNotV, tDG1, tDG2, tDNewT1, iKeys1, iEnum1, iList1, iTup1, iRng1, iRng2, List.set_cons_zero, List.set_cons_succ]
        refine x_var (by exact rfl) ?_
        refine x_var (by exact rfl) ?_
        refine x_var (by exact rfl) ?_
        refine x_tup S (by exact Nat.le_of_ble_eq_true rfl) (fun U2 H S => ?_)
        obtain ⟨T8, gr9, hle9, hfU2, S⟩ := S.freeze 6 0 rfl (by decide) rfl
        simp only [List.set_cons_zero, List.set_cons_succ, List.take_succ_cons, List.take_zero, List.eraseIdx_cons_zero, List.eraseIdx_cons_succ, List.cons_append, List.nil_append] at S
        replace gr := gr.trans gr9
        replace hkd := hle9 _ _ hkd
        replace hkc := fun u m => hle9 _ _ (hkc u m)
        refine x_lc ?_
        try dsimp only [tMethS1, tMethKS1, tOp, tUn, tCB, tCons, tNil, tCall, tMethK1, tCallK1, tC, tMeth1, tMake, tMakeK1, tSl, tPart, tNoPart, tDPop, tChain, tNotV, tBM, tBM0, tDG1, tDG2, tDNewT1, iKeys1, iEnum1, iList1, iTup1, iRng1, iRng2]
        try dsimp only [tOp]
        refine x_var (by exact rfl) ?_
        refine x_var (by exact rfl) ?_
        obtain ⟨ka, hkv, hkm⟩ := kg_so (kind_get (p := kd) (k := kk) (a0 := ka0) (a1 := ka1) (a2 := ka2) (a3 := ka3) (a4 := ka4) (a5 := ka5) (a6 := ka6) (a7 := ka7)) hso
        have hka := hkc _ hkm
        refine x_dgetH (k := Sum.inr kk) ((S.tl (T := T8) fun c h => List.mem_cons_of_mem _ (List.mem_cons_of_mem _ (List.mem_cons_of_mem _ (List.mem_cons_of_mem _ (List.mem_cons_of_mem _ (h)))))) _ _ hkd) hkv ?_
        refine ⟨_, rfl, ⟨_, .of ((S.tl (T := T8) fun c h => List.mem_cons_of_mem _ (List.mem_cons_of_mem _ (List.mem_cons_of_mem _ (List.mem_cons_of_mem _ (List.mem_cons_of_mem _ (h)))))) _ _ hka)⟩, ?_⟩
        refine lcW (walk_tup (xs := ss.map V.str)) S (fun pl2 H S => ⟨fun j H1 => ∃ (Tj : List Cell) (vs : List V) (ds : List PyData) (dr dt dm : Int) (gs : List Int), vs.length = j ∧ Grow T Tj ∧ Le (tl T8) (tl Tj) ∧ DHs (tl Tj) vs ds ∧ Paired PartD (ss.take j) ds ∧ Drw dr dt dm gs ∧ Sep H0 [dp, dg] H1 ((2, pl2, .lst vs) :: (1, dp, .dK (R_drw dg dc dr dt dm)) :: (1, dg, .lst (gs.map V.int)) :: (0, dc, .lst (cs.map V.int)) :: Tj), ?_, ?_, ?_, ?_⟩)
        · exact ⟨_, [], [], _, _, _, _, rfl, gr, (fun a o e => e), .nil, .nil, hd, S.subT 6 [0, 3, 4, 5]⟩
        · rintro j H hi ⟨Tj, vs, ds, dr, dt, dm, gs, hvl, gr, hlj, hds, hpd, hd, S⟩
          exact .of (S.tl (T := Tj) (fun c h => List.mem_cons_of_mem _ (List.mem_cons_of_mem _ (List.mem_cons_of_mem _ (List.mem_cons_of_mem _ h)))) _ _ (hlj _ _ hka))
        · rintro j y H H9 hi ⟨Tj, vs, ds, dr, dt, dm, gs, hvl, gr, hlj, hds, hpd, hd, S⟩ hy
          obtain ⟨rfl, hy9⟩ := hy
          obtain ⟨sj, hsj, rfl⟩ := elem_of hy9
          refine ⟨rfl, ?_⟩
          try dsimp only [tMethS1, tMethKS1, WE, wipe, tYes, tSeq, tAsg, gName, tOp, tUn, tCB, tCons, tNil, tCall, tMethK1, tCallK1, tPar3, tRet, tRetN, tDrop, tTest, tB, tC, tNext, tAugS, tAug, sFld1, sFldAug1, tMeth1, tMake, tMakeK1, tSl, tPart, tNoPart, sDPut1, tDPop, tBM, tBM0, tPar, gSub, tChain, tNot, tNotV, tDG1, tDG2, tDNewT1, iKeys1, iEnum1, iList1, iTup1, iRng1, iRng2, List.set_cons_zero, List.set_cons_succ]
          refine iteT ?_
          refine x_var (by exact rfl) ?_
          refine x_var (by exact rfl) ?_
          refine c_dat (PartD sj) S 4 1 2 3 (by exact rfl) (by exact rfl) (by exact rfl) (by exact rfl) hd (⟨sj, sorts_in hso _ (List.mem_of_getElem? hsj), rfl, rfl⟩) (fun v4 d4 T9 dr dt dm gs H hRd4 hd4 gr9 hle9 hd S => ?_)
          simp only [List.set_cons_zero, List.set_cons_succ, List.take_succ_cons, List.take_zero, List.eraseIdx_cons_zero, List.eraseIdx_cons_succ, List.cons_append, List.nil_append] at S
          replace gr := gr.trans gr9
          replace hds := hds.mono hle9
          replace hlj : Le _ (tl T9) := fun a o e => hle9 _ _ (hlj _ _ e)
          refine x_lcapp S 0 (by exact rfl) (by have := lt_of_get hsj; have := sorts_len hso; omega) (fun H S => ?_)
          simp only [List.set_cons_zero, List.set_cons_succ] at S
          exact ⟨_, _, _, _, _, _, _, by rw [List.length_append, hvl]; rfl, gr, hlj, hds.app (.cons hd4 .nil), by rw [take_snoc hsj]; exact hpd.snoc hRd4, hd, S.subT 4 [0, 1, 2, 3]⟩
        · rintro H ⟨Tj, vs, ds, dr, dt, dm, gs, hvl, gr, hlj, hds, hpd, hd, S⟩
          have h3 := hlj _ _ hfU2
          rw [List.length_map, List.take_length] at hpd
          try dsimp only [tMethS1, tMethKS1, WE, tSeq, tAsg, gName, tOp, tUn, tCB, tCons, tNil, tCall, tMethK1, tCallK1, tPar3, tRet, tRetN, tDrop, tTest, tB, tC, tNext, tAugS, tAug, sFld1, sFldAug1, tMeth1, tMake, tMakeK1, tSl, tPart, tNoPart, sDPut1, tDPop, tBM, tBM0, tPar, gSub, tChain, tNot, tNotV, tDG1, tDG2, tDNewT1, iKeys1, iEnum1, iList1, iTup1, iRng1, iRng2, List.set_cons_zero, List.set_cons_succ]
          refine x_tupL S 0 (by exact rfl) (fun tp2 H S => ?_)
          obtain ⟨T10, gr9, hle9, hftp2, S⟩ := S.freeze 5 0 rfl (by decide) rfl
          simp only [List.set_cons_zero, List.set_cons_succ, List.take_succ_cons, List.take_zero, List.eraseIdx_cons_zero, List.eraseIdx_cons_succ, List.cons_append, List.nil_append] at S
          replace gr := gr.trans gr9
          replace hds := hds.mono hle9
          replace h3 := hle9 _ _ h3
          have hap9 := (DHs.cons (DH.str kk (Nat.le_trans (KNL_len hkk) (by decide))) (DHs.cons (DH.str nm1 hlnm1) (DHs.cons (DH.str (Str.ofString "a") (by exact Nat.le_of_ble_eq_true rfl)) hds)))
          have hvd := hds.len
          have hpl := Paired.length hpd
          have hsn := sorts_len hso
          refine x_catD S 4 (by exact rfl) h3 hftp2 (by simp only [List.length_cons, List.length_nil]; omega) (fun fr9 T11 H gr9 hle9 hffr9 S => ?_)
          simp only [List.set_cons_zero, List.set_cons_succ, List.take_succ_cons, List.take_zero, List.eraseIdx_cons_zero, List.eraseIdx_cons_succ, List.cons_append, List.nil_append] at S
          replace gr := gr.trans gr9
          replace hds := hds.mono hle9
          replace h3 := hle9 _ _ h3
          replace hftp2 := hle9 _ _ hftp2
          replace hap9 := hap9.mono hle9
          exact k _ _ _ _ _ _ _ _ (FrameD.mk hkk hso oknm1 ok_a hne hpd) (DH.tup hffr9 hap9) gr hd (S.subT 4 [1, 2, 3])
    · have hne : nm1 ≠ nm2 := fun e => c1 (by rw [e])
      try dsimp only [tMethS1, tMethKS1, WE, tSeq, tAsg, gName, tOp, tUn, tCB, tCons, tNil, tCall, tMethK1, tCallK1, tPar3, tRet, tRetN, tDrop, tTest, tB, tC, tNext, tAugS, tAug, sFld1, sFldAug1, tMeth1, tMake, tMakeK1, tSl, tPart, tNoPart, sDPut1, tDPop, tBM, tBM0, tPar, gSub, tChain, tNot, tNotV, tDG1, tDG2, tDNewT1, iKeys1, iEnum1, iList1, iTup1, iRng1, iRng2, List.set_cons_zero, List.set_cons_succ]
      refine x_var (by exact rfl) ?_
      refine x_var (by exact rfl) ?_
      refine x_var (by exact rfl) ?_
      refine x_tup S (by exact Nat.le_of_ble_eq_true rfl) (fun U3 H S => ?_)
      obtain ⟨T12, gr9, hle9, hfU3, S⟩ := S.freeze 6 0 rfl (by decide) rfl
      simp only [List.set_cons_zero, List.set_cons_succ, List.take_succ_cons, List.take_zero, List.eraseIdx_cons_zero, List.eraseIdx_cons_succ, List.cons_append, List.nil_append] at S
      replace gr := gr.trans gr9
      replace hkd := hle9 _ _ hkd
      replace hkc := fun u m => hle9 _ _ (hkc u m)
      refine x_lc ?_
      try dsimp only [tMethS1, tMethKS1, tOp, tUn, tCB, tCons, tNil, tCall, tMethK1, tCallK1, tC, tMeth1, tMake, tMakeK1, tSl, tPart, tNoPart, tDPop, tChain, tNotV, tBM, tBM0, tDG1, tDG2, tDNewT1, iKeys1, iEnum1, iList1, iTup1, iRng1, iRng2]
      try dsimp only [tOp]
      refine x_var (by exact rfl) ?_
      refine x_var (by exact rfl) ?_
      obtain ⟨ka, hkv, hkm⟩ := kg_so (kind_get (p := kd) (k := kk) (a0 := ka0) (a1 := ka1) (a2 := ka2) (a3 := ka3) (a4 := ka4) (a5 := ka5) (a6 := ka6) (a7 := ka7)) hso
      have hka := hkc _ hkm
      refine x_dgetH (k := Sum.inr kk) ((S.tl (T := T12) fun c h => List.mem_cons_of_mem _ (List.mem_cons_of_mem _ (List.mem_cons_of_mem _ (List.mem_cons_of_mem _ (List.mem_cons_of_mem _ (h)))))) _ _ hkd) hkv ?_
      refine ⟨_, rfl, ⟨_, .of ((S.tl (T := T12) fun c h => List.mem_cons_of_mem _ (List.mem_cons_of_mem _ (List.mem_cons_of_mem _ (List.mem_cons_of_mem _ (List.mem_cons_of_mem _ (h)))))) _ _ hka)⟩, ?_⟩
      refine lcW (walk_tup (xs := ss.map V.str)) S (fun pl3 H S => ⟨fun j H1 => ∃ (Tj : List Cell) (vs : List V) (ds : List PyData) (dr dt dm : Int) (gs : List Int), vs.length = j ∧ Grow T Tj ∧ Le (tl T12) (tl Tj) ∧ DHs (tl Tj) vs ds ∧ Paired PartD (ss.take j) ds ∧ Drw dr dt dm gs ∧ Sep H0 [dp, dg] H1 ((2, pl3, .lst vs) :: (1, dp, .dK (R_drw dg dc dr dt dm)) :: (1, dg, .lst (gs.map V.int)) :: (0, dc, .lst (cs.map V.int)) :: Tj), ?_, ?_, ?_, ?_⟩)
      · exact ⟨_, [], [], _, _, _, _, rfl, gr, (fun a o e => e), .nil, .nil, hd, S.subT 6 [0, 3, 4, 5]⟩
      · rintro j H hi ⟨Tj, vs, ds, dr, dt, dm, gs, hvl, gr, hlj, hds, hpd, hd, S⟩
        exact .of (S.tl (T := Tj) (fun c h => List.mem_cons_of_mem _ (List.mem_cons_of_mem _ (List.mem_cons_of_mem _ (List.mem_cons_of_mem _ h)))) _ _ (hlj _ _ hka))
      · rintro j y H H9 hi ⟨Tj, vs, ds, dr, dt, dm, gs, hvl, gr, hlj, hds, hpd, hd, S⟩ hy
        obtain ⟨rfl, hy9⟩ := hy
        obtain ⟨sj, hsj, rfl⟩ := elem_of hy9
        refine ⟨rfl, ?_⟩
        try dsimp only [tMethS1, tMethKS1, WE, wipe, tYes, tSeq, tAsg, gName, tOp, tUn, tCB, tCons, tNil, tCall, tMethK1, tCallK1, tPar3, tRet, tRetN, tDrop, tTest, tB, tC, tNext, tAugS, tAug, sFld1, sFldAug1, tMeth1, tMake, tMakeK1, tSl, tPart, tNoPart, sDPut1, tDPop, tBM, tBM0, tPar, gSub, tChain, tNot, tNotV, tDG1, tDG2, tDNewT1, iKeys1, iEnum1, iList1, iTup1, iRng1, iRng2, List.set_cons_zero, List.set_cons_succ]
        refine iteT ?_
        refine x_var (by exact rfl) ?_
        refine x_var (by exact rfl) ?_
        refine c_dat (PartD sj) S 4 1 2 3 (by exact rfl) (by exact rfl) (by exact rfl) (by exact rfl) hd (⟨sj, sorts_in hso _ (List.mem_of_getElem? hsj), rfl, rfl⟩) (fun v5 d5 T13 dr dt dm gs H hRd5 hd5 gr9 hle9 hd S => ?_)
        simp only [List.set_cons_zero, List.set_cons_succ, List.take_succ_cons, List.take_zero, List.eraseIdx_cons_zero, List.eraseIdx_cons_succ, List.cons_append, List.nil_append] at S
        replace gr := gr.trans gr9
        replace hds := hds.mono hle9
        replace hlj : Le _ (tl T13) := fun a o e => hle9 _ _ (hlj _ _ e)
        refine x_lcapp S 0 (by exact rfl) (by have := lt_of_get hsj; have := sorts_len hso; omega) (fun H S => ?_)
        simp only [List.set_cons_zero, List.set_cons_succ] at S
        exact ⟨_, _, _, _, _, _, _, by rw [List.length_append, hvl]; rfl, gr, hlj, hds.app (.cons hd5 .nil), by rw [take_snoc hsj]; exact hpd.snoc hRd5, hd, S.subT 4 [0, 1, 2, 3]⟩
      · rintro H ⟨Tj, vs, ds, dr, dt, dm, gs, hvl, gr, hlj, hds, hpd, hd, S⟩
        have h3 := hlj _ _ hfU3
        rw [List.length_map, List.take_length] at hpd
        try dsimp only [tMethS1, tMethKS1, WE, tSeq, tAsg, gName, tOp, tUn, tCB, tCons, tNil, tCall, tMethK1, tCallK1, tPar3, tRet, tRetN, tDrop, tTest, tB, tC, tNext, tAugS, tAug, sFld1, sFldAug1, tMeth1, tMake, tMakeK1, tSl, tPart, tNoPart, sDPut1, tDPop, tBM, tBM0, tPar, gSub, tChain, tNot, tNotV, tDG1, tDG2, tDNewT1, iKeys1, iEnum1, iList1, iTup1, iRng1, iRng2, List.set_cons_zero, List.set_cons_succ]
        refine x_tupL S 0 (by exact rfl) (fun tp3 H S => ?_)
        obtain ⟨T14, gr9, hle9, hftp3, S⟩ := S.freeze 5 0 rfl (by decide) rfl
        simp only [List.set_cons_zero, List.set_cons_succ, List.take_succ_cons, List.take_zero, List.eraseIdx_cons_zero, List.eraseIdx_cons_succ, List.cons_append, List.nil_append] at S
        replace gr := gr.trans gr9
        replace hds := hds.mono hle9
        replace h3 := hle9 _ _ h3
        have hap9 := (DHs.cons (DH.str kk (Nat.le_trans (KNL_len hkk) (by decide))) (DHs.cons (DH.str nm1 hlnm1) (DHs.cons (DH.str nm2 hlnm2) hds)))
        have hvd := hds.len
        have hpl := Paired.length hpd
        have hsn := sorts_len hso
        refine x_catD S 4 (by exact rfl) h3 hftp3 (by simp only [List.length_cons, List.length_nil]; omega) (fun fr9 T15 H gr9 hle9 hffr9 S => ?_)
        simp only [List.set_cons_zero, List.set_cons_succ, List.take_succ_cons, List.take_zero, List.eraseIdx_cons_zero, List.eraseIdx_cons_succ, List.cons_append, List.nil_append] at S
        replace gr := gr.trans gr9
        replace hds := hds.mono hle9
        replace h3 := hle9 _ _ h3
        replace hftp3 := hle9 _ _ hftp3
        replace hap9 := hap9.mono hle9
        exact k _ _ _ _ _ _ _ _ (FrameD.mk hkk hso oknm1 oknm2 hne hpd) (DH.tup hffr9 hap9) gr hd (S.subT 4 [1, 2, 3])
end
end G

set_option linter.all false
set_option maxRecDepth 100000
set_option maxHeartbeats 4000000
namespace G
open PySem PySem.Spec PyProof.Rows L2

def bQ : Nat → Nat
  | 0 => 1000
  | n + 1 => 3 * bQ n
theorem bQ_lo : ∀ n, 1000 ≤ bQ n
  | 0 => Nat.le_refl _
  | n + 1 => by have := bQ_lo n; show 1000 ≤ 3 * bQ n; omega
theorem bQ_hi {n : Nat} (h : n ≤ 1) : bQ n ≤ 3000 := by
  have e : n = 0 ∨ n = 1 := by omega
  rcases e with rfl | rfl <;> decide
def okQ (n : Nat) : PyData → Prop
  | .str s => s.length ≤ bQ n
  | .int i => i.natAbs < 10 ^ 402 + n + 1
  | _ => True
theorem okQ_c {n : Nat} {s : Str} (h : s.length ≤ 1000) : okQ (n + 1) (.str s) := Nat.le_trans h (bQ_lo (n + 1))
theorem okQ_s {n : Nat} {s : Str} (h : s.length ≤ 3 * bQ n) : okQ (n + 1) (.str s) := h
theorem okQ_i {n : Nat} {i : Int} (h : i.natAbs < 10 ^ 402 + n + 2) : okQ (n + 1) (.int i) := h
theorem okQ_big {n : Nat} {i : Int} (h : i.natAbs < 10 ^ 402) : okQ (n + 1) (.int i) := Nat.lt_of_lt_of_le h (Nat.le_trans (Nat.le_add_right _ (n + 1)) (Nat.le_add_right _ 1))
def spOddF : Sp := spDat fun dp h vs R => ∃ v d n, vs = [.ref dp, v] ∧ DH h v d ∧ okQ n d ∧ n ≤ 1 ∧ R = okQ (n + 1)
theorem pm_signs : ∀ v ∈ ([.str "A", .str "1", .str " ", .str "_", .str "-", .str "\n", .str "", .str "z"] : List V), ∃ t : Str, v = .str t ∧ t.length ≤ 1 := by
  intro v hv
  simp only [List.mem_cons, List.not_mem_nil, or_false] at hv
  rcases hv with rfl | rfl | rfl | rfl | rfl | rfl | rfl | rfl <;> exact ⟨_, rfl, by decide⟩
theorem bothD {h : Hp} {xs : List V} {ds : List PyData} {p : PyData → Prop} (a : DHs h xs ds) (b : AllP p ds) : DHs h xs ds ∧ AllP p ds := ⟨a, b⟩
theorem str_pos {s : Str} (h : ¬ V.str s = V.str "") : 0 < s.length := by
  rcases Nat.eq_zero_or_pos s.length with e | e
  · refine absurd ?_ h
    obtain ⟨c⟩ := s
    have : c = #[] := Array.eq_empty_of_size_eq_zero e
    rw [this]; rfl
  · exact e
section
variable {P : Program} {w : World} {K : PySem.W.Frag} {mg : Str → Option Value} {base : Heap}
abbrev s_law_odd : Stmt := (topS 22)
theorem sc_law_odd : FnScope ["_law_draw", "_law_part_here", "_law_at", "_law_sign", "_law_some"] ["_law_draw", "_law_part_here"] (defScope s_law_odd) := ⟨rfl, rfl, rfl, by decide +kernel, rfl, by decide +kernel, by decide +kernel⟩
theorem ok_law_odd {f : Addr} {fd : FuncData} (F : L2.Fun K "_law_odd" "_law_odd" s_law_odd f fd) (ctake : Cal P w K mg base CX0 1 "_law_take" spLTake) (cpick : Cal P w K mg base CX0 2 "_law_pick" (spPick K)) (z_isinstance : mg "isinstance" = none) (z_str : mg "str" = none) (z_int : mg "int" = none) (z_len : mg "len" = none) : FnOk P w K mg base CX0 3 f fd ["_law_draw", "_law_part_here"] spOddF := by
  refine F.ok sc_law_odd (fun vs H Q E h => ?_) (fun cdv A outer s H0 vs Q E hr h => ?_)
  · obtain ⟨dp, dg, dc, dr, dt, dm, gs, cs, T, R, S, hd, ⟨v, d, n, rfl, h, hok, hn1, rfl⟩, k⟩ := h
    rfl
  · obtain ⟨dp, dg, dc, dr, dt, dm, gs, cs, T, R, S, hd, ⟨v, d, n, rfl, h, hok, hn1, rfl⟩, k⟩ := h
    have hu := hu_of hr
    have gr := Grow.refl T
    refine ⟨_, pss_cons (ps_if ((pw_and (pt_val (pe_callB (cl_isiK K) (by rfl) z_isinstance (by decide +kernel) (pa_cons (pv 1) (pa_cons (pe_bltn (v := .ty "str") (by rfl) z_str (by decide +kernel) rfl) pa_nil)))) (pw_and1 (pt_cmpR op_ne (pv 1) (pe_str) (nomark _)))).pt) (pss_cons (ps_set (i := 2) sc_law_odd.nd rfl (.inl rfl) (pe_c ctake hr (by decide) (by rfl) pass0 (pa_cons (pv 0) (pa_cons (pe_callB (cl_lenX K) (by rfl) z_len PySem.boot_len (pa_cons (pv 1) pa_nil)) pa_nil))))
      (pss_cons (ps_set (i := 3) sc_law_odd.nd rfl (.inl rfl) (pe_c cpick hr (by decide) (by rfl) pass0 (pa_cons (pv 0) (pa_cons (pe_lst1 (pa_cons (pe_str) (pa_cons (pe_str) (pa_cons (pe_str) (pa_cons (pe_str) (pa_cons (pe_str) (pa_cons (pe_str) (pa_cons (pe_str) (pa_cons (pe_str) pa_nil))))))))) pa_nil))))
      (pss_cons (ps_set (i := 4) sc_law_odd.nd rfl (.inl rfl) (pe_lst1 (pa_cons (pe_op op_addS (pe_op op_addS (pe_slice sl_str (pv 1) (po_none) (po_some (pv 2))) (pv 3)) (pe_slice sl_str (pv 1) (po_some (pe_op op_add (pv 2) (pe_int))) (po_none))) (pa_cons (pe_op op_addS (pv 1) (pe_str)) (pa_cons (pe_op op_addS (pe_slice sl_str (pv 1) (po_none) (po_some (pe_int))) (pe_op op_mulS1 (pe_str) (pe_op op_sub (pe_int) (pe_callB (cl_lenX K) (by rfl) z_len PySem.boot_len (pa_cons (pv 1) pa_nil))))) (pa_cons (pe_str) (pa_cons (pe_int) (pa_cons (pe_non) pa_nil))))))))
      (pss_cons (ps_set (i := 4) sc_law_odd.nd rfl (.inl rfl) (pe_op op_cat (pv 4) (pe_lst1 (pa_cons (pe_tup1 (pa_cons (pv 1) pa_nil)) (pa_cons (pe_lst1 (pa_cons (pv 1) pa_nil)) (pa_cons (pe_bl) (pa_cons (pe_str) (pa_cons (pe_str) (pa_cons (pe_str) (pa_cons (pe_str) (pa_cons (pe_str) (pa_cons (pe_str) pa_nil))))))))))))
      (pss_one (ps_ret (pe_c cpick hr (by decide) (by rfl) pass0 (pa_cons (pv 0) (pa_cons (pv 4) pa_nil))))))))) (pss_nil))
      (pss_cons (ps_set (i := 4) sc_law_odd.nd rfl (.inl rfl) (pe_lst1 (pa_cons (pe_un un_negN (pe_int)) (pa_cons (pe_int) (pa_cons (pe_int) (pa_cons (pe_bl) (pa_cons (pe_bl) (pa_cons (pe_non) (pa_cons (pe_str) (pa_cons (pe_tup1 (pa_cons (pv 1) pa_nil)) (pa_cons (pe_lst1 (pa_cons (pv 1) pa_nil)) (pa_cons (pe_str) (pa_cons (pe_str) (pa_cons (pe_int) (pa_cons (pe_op op_pow (pe_int) (pe_int)) pa_nil)))))))))))))))
      (pss_cons (ps_if (pt_val (pe_callB (cl_isiK K) (by rfl) z_isinstance (by decide +kernel) (pa_cons (pv 1) (pa_cons (pe_bltn (v := .ty "int") (by rfl) z_int (by decide +kernel) rfl) pa_nil)))) (pss_one (ps_set (i := 4) sc_law_odd.nd rfl (.inl rfl) (pe_op op_cat (pe_slice (sl_listK K) (pv 4) (po_none) (po_some (pe_int))) (pe_lst1 (pa_cons (pe_callTy cl_strN (by rfl) z_str (by decide +kernel) (pa_cons (pv 1) pa_nil)) (pa_cons (pe_tup1 (pa_cons (pv 1) pa_nil)) (pa_cons (pe_lst1 (pa_cons (pv 1) pa_nil)) (pa_cons (pe_str) (pa_cons (pe_un un_negN (pv 1)) (pa_cons (pe_op op_subN (pv 1) (pe_int)) (pa_cons (pe_op op_subN (pe_un un_negN (pv 1)) (pe_int)) pa_nil))))))))))) (pss_nil))
      (pss_one (ps_ret (pe_c cpick hr (by decide) (by rfl) pass0 (pa_cons (pv 0) (pa_cons (pv 4) pa_nil))))))), ?_⟩
    rw [show start ["_law_draw", "_law_part_here", "_law_at", "_law_sign", "_law_some"] [V.ref dp, v] = [some (V.ref dp), some (v), none, none, none] from rfl]
    try dsimp only [tMethS1, tMethKS1, WE, tSeq, tAsg, gName, tOp, tUn, tCB, tCons, tNil, tCall, tMethK1, tCallK1, tPar3, tRet, tRetN, tDrop, tTest, tB, tC, tNext, tAugS, tAug, sFld1, sFldAug1, tMeth1, tMake, tMakeK1, tSl, tPart, tNoPart, sDPut1, tDPop, tBM, tBM0, tPar, gSub, tChain, tNot, tNotV, tDG1, tDG2, tDNewT1, iKeys1, iEnum1, iList1, iTup1, iRng1, iRng2, List.set_cons_zero, List.set_cons_succ]
    refine x_if ?_
    try dsimp only [tMethS1, tMethKS1, WE, tSeq, tAsg, gName, tOp, tUn, tCB, tCons, tNil, tCall, tMethK1, tCallK1, tPar3, tRet, tRetN, tDrop, tTest, tB, tC, tNext, tAugS, tAug, sFld1, sFldAug1, tMeth1, tMake, tMakeK1, tSl, tPart, tNoPart, sDPut1, tDPop, tBM, tBM0, tPar, gSub, tChain, tNot, tNotV, tDG1, tDG2, tDNewT1, iKeys1, iEnum1, iList1, iTup1, iRng1, iRng2, List.set_cons_zero, List.set_cons_succ]
    refine x_and ?_
    try dsimp only [tMethS1, tMethKS1, WE, tSeq, tAsg, gName, tOp, tUn, tCB, tCons, tNil, tCall, tMethK1, tCallK1, tPar3, tRet, tRetN, tDrop, tTest, tB, tC, tNext, tAugS, tAug, sFld1, sFldAug1, tMeth1, tMake, tMakeK1, tSl, tPart, tNoPart, sDPut1, tDPop, tBM, tBM0, tPar, gSub, tChain, tNot, tNotV, tDG1, tDG2, tDNewT1, iKeys1, iEnum1, iList1, iTup1, iRng1, iRng2, List.set_cons_zero, List.set_cons_succ]
    refine x_var (by exact rfl) ?_
    refine (h.mono (S.tl (T := T) fun c h => List.mem_cons_of_mem _ (List.mem_cons_of_mem _ (List.mem_cons_of_mem _ (h))))).isStr ?_
    refine ⟨_, rfl, ?_⟩
    refine iteb (fun c1 => ?_) (fun c1 => ?_)
    · have S9 := S
      obtain ⟨s1, rfl, rfl, hls1⟩ := h.str_of c1
      have S := S9
      have hok : s1.length ≤ bQ n := hok
      have hbq := bQ_hi hn1
      have hbl := bQ_lo n
      have a3 := len_cutS s1 none (some 8)
      refine x_var (by exact rfl) ?_
      refine x_ne ?_
      refine ⟨_, rfl, ?_⟩
      refine itend (fun c2 => ?_) (fun c2 => ?_)
      · have hpos := str_pos c2
        try dsimp only [tMethS1, tMethKS1, WE, tSeq, tAsg, gName, tOp, tUn, tCB, tCons, tNil, tCall, tMethK1, tCallK1, tPar3, tRet, tRetN, tDrop, tTest, tB, tC, tNext, tAugS, tAug, sFld1, sFldAug1, tMeth1, tMake, tMakeK1, tSl, tPart, tNoPart, sDPut1, tDPop, tBM, tBM0, tPar, gSub, tChain, tNot, tNotV, tDG1, tDG2, tDNewT1, iKeys1, iEnum1, iList1, iTup1, iRng1, iRng2, List.set_cons_zero, List.set_cons_succ]
        refine x_var (by exact rfl) ?_
        refine x_var (by exact rfl) ?_
        refine x_lenXs hls1 ?_
        refine c_ltake S 0 1 2 (by exact rfl) (by exact rfl) (by exact rfl) hd (by first | omega | decide | (simp only [len_insAt, List.length_map, List.length_append, List.length_cons, List.length_nil, List.length_take, List.length_drop] at *; omega)) (by first | omega | decide | (simp only [len_insAt, List.length_map, List.length_append, List.length_cons, List.length_nil, List.length_take, List.length_drop] at *; omega)) (fun v1 dr dt dm gs H v1a v1b hd S => ?_)
        simp only [List.set_cons_zero, List.set_cons_succ] at S
        have a1 := len_cutS s1 none (some v1)
        have a2 := len_cutS s1 (some (v1 + 1)) none
        try dsimp only [tMethS1, tMethKS1, WE, tSeq, tAsg, gName, tOp, tUn, tCB, tCons, tNil, tCall, tMethK1, tCallK1, tPar3, tRet, tRetN, tDrop, tTest, tB, tC, tNext, tAugS, tAug, sFld1, sFldAug1, tMeth1, tMake, tMakeK1, tSl, tPart, tNoPart, sDPut1, tDPop, tBM, tBM0, tPar, gSub, tChain, tNot, tNotV, tDG1, tDG2, tDNewT1, iKeys1, iEnum1, iList1, iTup1, iRng1, iRng2, List.set_cons_zero, List.set_cons_succ]
        refine x_var (by exact rfl) ?_
        refine x_lst S (by exact Nat.le_of_ble_eq_true rfl) (fun L1 H S => ?_)
        obtain ⟨T1, gr9, hle9, hfL1, S⟩ := S.freeze 4 0 rfl (by decide) rfl
        simp only [List.set_cons_zero, List.set_cons_succ, List.take_succ_cons, List.take_zero, List.eraseIdx_cons_zero, List.eraseIdx_cons_succ, List.cons_append, List.nil_append] at S
        replace gr := gr.trans gr9
        refine c_pick (fun v => ∃ t : Str, v = .str t ∧ t.length ≤ 1) S 0 1 2 (by exact rfl) (by exact rfl) (by exact rfl) hd (SomeV.tlL S 3 0 1 (by exact rfl) (by exact rfl) (by exact rfl) hfL1 (by decide) (by decide) pm_signs) (fun pk9 dr dt dm gs H hpk9 hd S => ?_)
        simp only [List.set_cons_zero, List.set_cons_succ] at S
        obtain ⟨sg, rfl, hsg⟩ := hpk9
        try dsimp only [tMethS1, tMethKS1, WE, tSeq, tAsg, gName, tOp, tUn, tCB, tCons, tNil, tCall, tMethK1, tCallK1, tPar3, tRet, tRetN, tDrop, tTest, tB, tC, tNext, tAugS, tAug, sFld1, sFldAug1, tMeth1, tMake, tMakeK1, tSl, tPart, tNoPart, sDPut1, tDPop, tBM, tBM0, tPar, gSub, tChain, tNot, tNotV, tDG1, tDG2, tDNewT1, iKeys1, iEnum1, iList1, iTup1, iRng1, iRng2, List.set_cons_zero, List.set_cons_succ]
        refine x_var (by exact rfl) ?_
        refine x_var (by exact rfl) ?_
        refine ⟨_, rfl, ?_⟩
        refine x_slStr hls1 ?_
        refine x_var (by exact rfl) ?_
        refine x_addS (by (try simp only [len_app]); (try have h80 : (Str.ofString "abcdefgh").length = 8 := (by exact rfl)); omega) ?_
        refine x_var (by exact rfl) ?_
        refine x_var (by exact rfl) ?_
        refine x_I0 ?_
        refine ⟨_, rfl, ?_⟩
        refine x_slStr hls1 ?_
        refine x_addS (by (try simp only [len_app]); (try have h80 : (Str.ofString "abcdefgh").length = 8 := (by exact rfl)); omega) ?_
        refine x_var (by exact rfl) ?_
        refine x_addS (by (try simp only [len_app]); (try have h80 : (Str.ofString "abcdefgh").length = 8 := (by exact rfl)); omega) ?_
        refine x_var (by exact rfl) ?_
        refine ⟨_, rfl, ?_⟩
        refine x_slStr hls1 ?_
        refine x_var (by exact rfl) ?_
        refine x_lenXs hls1 ?_
        refine x_I0 ?_
        refine ⟨_, _, rfl, rfl, by decide, by omega, by omega, fun rp9 hrp9 => ?_⟩
        refine x_addS (by (try simp only [len_app]); (try have h80 : (Str.ofString "abcdefgh").length = 8 := (by exact rfl)); omega) ?_
        refine x_lst S (by exact Nat.le_of_ble_eq_true rfl) (fun L2 H S => ?_)
        obtain ⟨T2, gr9, hle9, hfL2, S⟩ := S.freeze 4 0 rfl (by decide) rfl
        simp only [List.set_cons_zero, List.set_cons_succ, List.take_succ_cons, List.take_zero, List.eraseIdx_cons_zero, List.eraseIdx_cons_succ, List.cons_append, List.nil_append] at S
        replace gr := gr.trans gr9
        replace hfL1 := hle9 _ _ hfL1
        try dsimp only [tMethS1, tMethKS1, WE, tSeq, tAsg, gName, tOp, tUn, tCB, tCons, tNil, tCall, tMethK1, tCallK1, tPar3, tRet, tRetN, tDrop, tTest, tB, tC, tNext, tAugS, tAug, sFld1, sFldAug1, tMeth1, tMake, tMakeK1, tSl, tPart, tNoPart, sDPut1, tDPop, tBM, tBM0, tPar, gSub, tChain, tNot, tNotV, tDG1, tDG2, tDNewT1, iKeys1, iEnum1, iList1, iTup1, iRng1, iRng2, List.set_cons_zero, List.set_cons_succ]
        refine x_var (by exact rfl) ?_
        refine x_var (by exact rfl) ?_
        refine x_tup S (by exact Nat.le_of_ble_eq_true rfl) (fun U1 H S => ?_)
        obtain ⟨T3, gr9, hle9, hfU1, S⟩ := S.freeze 4 0 rfl (by decide) rfl
        simp only [List.set_cons_zero, List.set_cons_succ, List.take_succ_cons, List.take_zero, List.eraseIdx_cons_zero, List.eraseIdx_cons_succ, List.cons_append, List.nil_append] at S
        replace gr := gr.trans gr9
        replace hfL1 := hle9 _ _ hfL1
        replace hfL2 := hle9 _ _ hfL2
        refine x_var (by exact rfl) ?_
        refine x_lst S (by exact Nat.le_of_ble_eq_true rfl) (fun L3 H S => ?_)
        obtain ⟨T4, gr9, hle9, hfL3, S⟩ := S.freeze 4 0 rfl (by decide) rfl
        simp only [List.set_cons_zero, List.set_cons_succ, List.take_succ_cons, List.take_zero, List.eraseIdx_cons_zero, List.eraseIdx_cons_succ, List.cons_append, List.nil_append] at S
        replace gr := gr.trans gr9
        replace hfL1 := hle9 _ _ hfL1
        replace hfL2 := hle9 _ _ hfL2
        replace hfU1 := hle9 _ _ hfU1
        refine x_lst S (by exact Nat.le_of_ble_eq_true rfl) (fun L4 H S => ?_)
        obtain ⟨T5, gr9, hle9, hfL4, S⟩ := S.freeze 4 0 rfl (by decide) rfl
        simp only [List.set_cons_zero, List.set_cons_succ, List.take_succ_cons, List.take_zero, List.eraseIdx_cons_zero, List.eraseIdx_cons_succ, List.cons_append, List.nil_append] at S
        replace gr := gr.trans gr9
        replace hfL1 := hle9 _ _ hfL1
        replace hfL2 := hle9 _ _ hfL2
        replace hfU1 := hle9 _ _ hfU1
        replace hfL3 := hle9 _ _ hfL3
        have hapct1 := ((DHs.cons (DH.str (((cutS s1 none (some (v1))) ++ sg) ++ (cutS s1 (some (v1 + 1)) none)) (by (try simp only [len_app]); (try have h80 : (Str.ofString "abcdefgh").length = 8 := rfl); omega)) (DHs.cons (DH.str (s1 ++ (Str.ofString "abcdefgh")) (by (try simp only [len_app]); (try have h80 : (Str.ofString "abcdefgh").length = 8 := rfl); omega)) (DHs.cons (DH.str ((cutS s1 none (some (8))) ++ rp9) (by (try simp only [len_app]); (try have h80 : (Str.ofString "abcdefgh").length = 8 := rfl); omega)) (DHs.cons (DH.str (Str.ofString "") (by exact Nat.le_of_ble_eq_true rfl)) (DHs.cons (DH.int (1)) (DHs.cons DH.non DHs.nil))))))).app (DHs.cons (DH.tup hfU1 (DHs.cons (DH.str s1 hls1) DHs.nil)) (DHs.cons (DH.lst hfL3 (DHs.cons (DH.str s1 hls1) DHs.nil)) (DHs.cons (DH.bl true) (DHs.cons (DH.str (Str.ofString "in") (by exact Nat.le_of_ble_eq_true rfl)) (DHs.cons (DH.str (Str.ofString "out") (by exact Nat.le_of_ble_eq_true rfl)) (DHs.cons (DH.str (Str.ofString "done") (by exact Nat.le_of_ble_eq_true rfl)) (DHs.cons (DH.str (Str.ofString "late") (by exact Nat.le_of_ble_eq_true rfl)) (DHs.cons (DH.str (Str.ofString "clock") (by exact Nat.le_of_ble_eq_true rfl)) (DHs.cons (DH.str (Str.ofString "room") (by exact Nat.le_of_ble_eq_true rfl)) DHs.nil)))))))))
        refine x_catLD S 3 (by exact rfl) hfL2 hfL4 (by first | omega | (simp only [List.length_cons, List.length_nil]; omega)) (fun ct1 T6 H gr9 hle9 hfct1 S => ?_)
        simp only [List.set_cons_zero, List.set_cons_succ, List.take_succ_cons, List.take_zero, List.eraseIdx_cons_zero, List.eraseIdx_cons_succ, List.cons_append, List.nil_append] at S
        replace gr := gr.trans gr9
        replace hfL1 := hle9 _ _ hfL1
        replace hfL2 := hle9 _ _ hfL2
        replace hfU1 := hle9 _ _ hfU1
        replace hfL3 := hle9 _ _ hfL3
        replace hfL4 := hle9 _ _ hfL4
        replace hapct1 := hapct1.mono hle9
        have hlct1 := hapct1.len
        replace hfct1 : tl T6 ct1 = some (.lst [_, _, _, _, _, _, _, _, _, _, _, _, _, _, _]) := hfct1
        try dsimp only [tMethS1, tMethKS1, WE, tSeq, tAsg, gName, tOp, tUn, tCB, tCons, tNil, tCall, tMethK1, tCallK1, tPar3, tRet, tRetN, tDrop, tTest, tB, tC, tNext, tAugS, tAug, sFld1, sFldAug1, tMeth1, tMake, tMakeK1, tSl, tPart, tNoPart, sDPut1, tDPop, tBM, tBM0, tPar, gSub, tChain, tNot, tNotV, tDG1, tDG2, tDNewT1, iKeys1, iEnum1, iList1, iTup1, iRng1, iRng2, List.set_cons_zero, List.set_cons_succ]
        refine x_var (by exact rfl) ?_
        refine x_var (by exact rfl) ?_
        obtain ⟨hD, hQ⟩ := bothD (p := okQ (n + 1)) (DHs.cons (DH.str (((cutS s1 none (some (v1))) ++ sg) ++ (cutS s1 (some (v1 + 1)) none)) (by (try simp only [len_app]); (try have h80 : (Str.ofString "abcdefgh").length = 8 := rfl); omega)) (DHs.cons (DH.str (s1 ++ (Str.ofString "abcdefgh")) (by (try simp only [len_app]); (try have h80 : (Str.ofString "abcdefgh").length = 8 := rfl); omega)) (DHs.cons (DH.str ((cutS s1 none (some (8))) ++ rp9) (by (try simp only [len_app]); (try have h80 : (Str.ofString "abcdefgh").length = 8 := rfl); omega)) (DHs.cons (DH.str (Str.ofString "") (by exact Nat.le_of_ble_eq_true rfl)) (DHs.cons (DH.int (1)) (DHs.cons DH.non (DHs.cons (DH.tup hfU1 (DHs.cons (DH.str s1 hls1) DHs.nil)) (DHs.cons (DH.lst hfL3 (DHs.cons (DH.str s1 hls1) DHs.nil)) (DHs.cons (DH.bl true) (DHs.cons (DH.str (Str.ofString "in") (by exact Nat.le_of_ble_eq_true rfl)) (DHs.cons (DH.str (Str.ofString "out") (by exact Nat.le_of_ble_eq_true rfl)) (DHs.cons (DH.str (Str.ofString "done") (by exact Nat.le_of_ble_eq_true rfl)) (DHs.cons (DH.str (Str.ofString "late") (by exact Nat.le_of_ble_eq_true rfl)) (DHs.cons (DH.str (Str.ofString "clock") (by exact Nat.le_of_ble_eq_true rfl)) (DHs.cons (DH.str (Str.ofString "room") (by exact Nat.le_of_ble_eq_true rfl)) DHs.nil))))))))))))))) ⟨okQ_s (by (try simp only [len_app]); (try have h80 : (Str.ofString "abcdefgh").length = 8 := rfl); omega), okQ_s (by (try simp only [len_app]); (try have h80 : (Str.ofString "abcdefgh").length = 8 := rfl); omega), okQ_s (by (try simp only [len_app]); (try have h80 : (Str.ofString "abcdefgh").length = 8 := rfl); omega), okQ_c (by exact Nat.le_of_ble_eq_true rfl), (by first | exact okQ_i (by omega) | exact okQ_big (by decide +kernel)), trivial, trivial, trivial, trivial, okQ_c (by exact Nat.le_of_ble_eq_true rfl), okQ_c (by exact Nat.le_of_ble_eq_true rfl), okQ_c (by exact Nat.le_of_ble_eq_true rfl), okQ_c (by exact Nat.le_of_ble_eq_true rfl), okQ_c (by exact Nat.le_of_ble_eq_true rfl), okQ_c (by exact Nat.le_of_ble_eq_true rfl), trivial⟩
        refine c_pick (fun v => ∃ d, DH (tl T6) v d ∧ okQ (n + 1) d) S 0 1 2 (by exact rfl) (by exact rfl) (by exact rfl) hd (SomeV.tlL S 3 0 1 (by exact rfl) (by exact rfl) (by exact rfl) hfct1 (by rw [hD.len]; exact Nat.succ_pos _) (by rw [hD.len]; exact Nat.lt_of_lt_of_le (show _ < 100 by exact Nat.le_of_ble_eq_true (by exact rfl)) (by decide)) (fun v hv => by obtain ⟨i, hi⟩ := List.mem_iff_getElem?.mp hv; obtain ⟨d, h1, h2⟩ := hD.get hi; exact ⟨d, h2, AllP.all hQ _ (List.mem_of_getElem? h1)⟩)) (fun pk9 dr dt dm gs H hpk9 hd S => ?_)
        simp only [List.set_cons_zero, List.set_cons_succ] at S
        obtain ⟨d9, hd9, hq9⟩ := hpk9
        exact k _ _ _ _ _ _ _ _ (hq9) hd9 gr hd (S.subT 3 [0, 1, 2])
      · try dsimp only [tMethS1, tMethKS1, WE, tSeq, tAsg, gName, tOp, tUn, tCB, tCons, tNil, tCall, tMethK1, tCallK1, tPar3, tRet, tRetN, tDrop, tTest, tB, tC, tNext, tAugS, tAug, sFld1, sFldAug1, tMeth1, tMake, tMakeK1, tSl, tPart, tNoPart, sDPut1, tDPop, tBM, tBM0, tPar, gSub, tChain, tNot, tNotV, tDG1, tDG2, tDNewT1, iKeys1, iEnum1, iList1, iTup1, iRng1, iRng2, List.set_cons_zero, List.set_cons_succ]
        refine x_negI ?_
        refine x_var (by exact rfl) ?_
        refine x_tup S (by exact Nat.le_of_ble_eq_true rfl) (fun U2 H S => ?_)
        obtain ⟨T7, gr9, hle9, hfU2, S⟩ := S.freeze 4 0 rfl (by decide) rfl
        simp only [List.set_cons_zero, List.set_cons_succ, List.take_succ_cons, List.take_zero, List.eraseIdx_cons_zero, List.eraseIdx_cons_succ, List.cons_append, List.nil_append] at S
        replace gr := gr.trans gr9
        refine x_var (by exact rfl) ?_
        refine x_lst S (by exact Nat.le_of_ble_eq_true rfl) (fun L5 H S => ?_)
        obtain ⟨T8, gr9, hle9, hfL5, S⟩ := S.freeze 4 0 rfl (by decide) rfl
        simp only [List.set_cons_zero, List.set_cons_succ, List.take_succ_cons, List.take_zero, List.eraseIdx_cons_zero, List.eraseIdx_cons_succ, List.cons_append, List.nil_append] at S
        replace gr := gr.trans gr9
        replace hfU2 := hle9 _ _ hfU2
        refine x_I ⟨by decide, by decide, by first | assumption | omega⟩ ?_
        refine x_lst S (by exact Nat.le_of_ble_eq_true rfl) (fun L6 H S => ?_)
        obtain ⟨T9, gr9, hle9, hfL6, S⟩ := S.freeze 4 0 rfl (by decide) rfl
        simp only [List.set_cons_zero, List.set_cons_succ, List.take_succ_cons, List.take_zero, List.eraseIdx_cons_zero, List.eraseIdx_cons_succ, List.cons_append, List.nil_append] at S
        replace gr := gr.trans gr9
        replace hfU2 := hle9 _ _ hfU2
        replace hfL5 := hle9 _ _ hfL5
        try dsimp only [tMethS1, tMethKS1, WE, tSeq, tAsg, gName, tOp, tUn, tCB, tCons, tNil, tCall, tMethK1, tCallK1, tPar3, tRet, tRetN, tDrop, tTest, tB, tC, tNext, tAugS, tAug, sFld1, sFldAug1, tMeth1, tMake, tMakeK1, tSl, tPart, tNoPart, sDPut1, tDPop, tBM, tBM0, tPar, gSub, tChain, tNot, tNotV, tDG1, tDG2, tDNewT1, iKeys1, iEnum1, iList1, iTup1, iRng1, iRng2, List.set_cons_zero, List.set_cons_succ]
        refine x_if ?_
        try dsimp only [tMethS1, tMethKS1, WE, tSeq, tAsg, gName, tOp, tUn, tCB, tCons, tNil, tCall, tMethK1, tCallK1, tPar3, tRet, tRetN, tDrop, tTest, tB, tC, tNext, tAugS, tAug, sFld1, sFldAug1, tMeth1, tMake, tMakeK1, tSl, tPart, tNoPart, sDPut1, tDPop, tBM, tBM0, tPar, gSub, tChain, tNot, tNotV, tDG1, tDG2, tDNewT1, iKeys1, iEnum1, iList1, iTup1, iRng1, iRng2, List.set_cons_zero, List.set_cons_succ]
        refine x_var (by exact rfl) ?_
        refine x_isi ty_str (by decide +kernel : kitB "str" "int" = some false) ?_
        refine ⟨_, rfl, ?_⟩
        refine iteF ?_
        try dsimp only [tMethS1, tMethKS1, WE, tSeq, tAsg, gName, tOp, tUn, tCB, tCons, tNil, tCall, tMethK1, tCallK1, tPar3, tRet, tRetN, tDrop, tTest, tB, tC, tNext, tAugS, tAug, sFld1, sFldAug1, tMeth1, tMake, tMakeK1, tSl, tPart, tNoPart, sDPut1, tDPop, tBM, tBM0, tPar, gSub, tChain, tNot, tNotV, tDG1, tDG2, tDNewT1, iKeys1, iEnum1, iList1, iTup1, iRng1, iRng2, List.set_cons_zero, List.set_cons_succ]
        refine x_var (by exact rfl) ?_
        refine x_var (by exact rfl) ?_
        obtain ⟨hD, hQ⟩ := bothD (p := okQ (n + 1)) (DHs.cons (DH.int (-1)) (DHs.cons (DH.int (0)) (DHs.cons (DH.int (1)) (DHs.cons (DH.bl true) (DHs.cons (DH.bl false) (DHs.cons DH.non (DHs.cons (DH.str (Str.ofString "3") (by exact Nat.le_of_ble_eq_true rfl)) (DHs.cons (DH.tup hfU2 (DHs.cons (DH.str s1 hls1) DHs.nil)) (DHs.cons (DH.lst hfL5 (DHs.cons (DH.str s1 hls1) DHs.nil)) (DHs.cons (DH.str (Str.ofString "in") (by exact Nat.le_of_ble_eq_true rfl)) (DHs.cons (DH.str (Str.ofString "a") (by exact Nat.le_of_ble_eq_true rfl)) (DHs.cons (DH.int (2)) (DHs.cons (DH.int ((10 ^ Int.toNat 39))) DHs.nil))))))))))))) ⟨(by first | exact okQ_i (by omega) | exact okQ_big (by decide +kernel)), (by first | exact okQ_i (by omega) | exact okQ_big (by decide +kernel)), (by first | exact okQ_i (by omega) | exact okQ_big (by decide +kernel)), trivial, trivial, trivial, okQ_c (by exact Nat.le_of_ble_eq_true rfl), trivial, trivial, okQ_c (by exact Nat.le_of_ble_eq_true rfl), okQ_c (by exact Nat.le_of_ble_eq_true rfl), (by first | exact okQ_i (by omega) | exact okQ_big (by decide +kernel)), (by first | exact okQ_i (by omega) | exact okQ_big (by decide +kernel)), trivial⟩
        refine c_pick (fun v => ∃ d, DH (tl T9) v d ∧ okQ (n + 1) d) S 0 1 2 (by exact rfl) (by exact rfl) (by exact rfl) hd (SomeV.tlL S 3 0 1 (by exact rfl) (by exact rfl) (by exact rfl) hfL6 (by rw [hD.len]; exact Nat.succ_pos _) (by rw [hD.len]; exact Nat.lt_of_lt_of_le (show _ < 100 by exact Nat.le_of_ble_eq_true (by exact rfl)) (by decide)) (fun v hv => by obtain ⟨i, hi⟩ := List.mem_iff_getElem?.mp hv; obtain ⟨d, h1, h2⟩ := hD.get hi; exact ⟨d, h2, AllP.all hQ _ (List.mem_of_getElem? h1)⟩)) (fun pk9 dr dt dm gs H hpk9 hd S => ?_)
        simp only [List.set_cons_zero, List.set_cons_succ] at S
        obtain ⟨d9, hd9, hq9⟩ := hpk9
        exact k _ _ _ _ _ _ _ _ (hq9) hd9 gr hd (S.subT 3 [0, 1, 2])
    · refine iteF ?_
      try dsimp only [tMethS1, tMethKS1, WE, tSeq, tAsg, gName, tOp, tUn, tCB, tCons, tNil, tCall, tMethK1, tCallK1, tPar3, tRet, tRetN, tDrop, tTest, tB, tC, tNext, tAugS, tAug, sFld1, sFldAug1, tMeth1, tMake, tMakeK1, tSl, tPart, tNoPart, sDPut1, tDPop, tBM, tBM0, tPar, gSub, tChain, tNot, tNotV, tDG1, tDG2, tDNewT1, iKeys1, iEnum1, iList1, iTup1, iRng1, iRng2, List.set_cons_zero, List.set_cons_succ]
      refine x_negI ?_
      refine x_var (by exact rfl) ?_
      refine x_tup S (by exact Nat.le_of_ble_eq_true rfl) (fun U3 H S => ?_)
      obtain ⟨T10, gr9, hle9, hfU3, S⟩ := S.freeze 4 0 rfl (by decide) rfl
      simp only [List.set_cons_zero, List.set_cons_succ, List.take_succ_cons, List.take_zero, List.eraseIdx_cons_zero, List.eraseIdx_cons_succ, List.cons_append, List.nil_append] at S
      replace gr := gr.trans gr9
      replace h := h.mono hle9
      refine x_var (by exact rfl) ?_
      refine x_lst S (by exact Nat.le_of_ble_eq_true rfl) (fun L7 H S => ?_)
      obtain ⟨T11, gr9, hle9, hfL7, S⟩ := S.freeze 4 0 rfl (by decide) rfl
      simp only [List.set_cons_zero, List.set_cons_succ, List.take_succ_cons, List.take_zero, List.eraseIdx_cons_zero, List.eraseIdx_cons_succ, List.cons_append, List.nil_append] at S
      replace gr := gr.trans gr9
      replace h := h.mono hle9
      replace hfU3 := hle9 _ _ hfU3
      refine x_I ⟨by decide, by decide, by first | assumption | omega⟩ ?_
      refine x_lst S (by exact Nat.le_of_ble_eq_true rfl) (fun L8 H S => ?_)
      obtain ⟨T12, gr9, hle9, hfL8, S⟩ := S.freeze 4 0 rfl (by decide) rfl
      simp only [List.set_cons_zero, List.set_cons_succ, List.take_succ_cons, List.take_zero, List.eraseIdx_cons_zero, List.eraseIdx_cons_succ, List.cons_append, List.nil_append] at S
      replace gr := gr.trans gr9
      replace h := h.mono hle9
      replace hfU3 := hle9 _ _ hfU3
      replace hfL7 := hle9 _ _ hfL7
      try dsimp only [tMethS1, tMethKS1, WE, tSeq, tAsg, gName, tOp, tUn, tCB, tCons, tNil, tCall, tMethK1, tCallK1, tPar3, tRet, tRetN, tDrop, tTest, tB, tC, tNext, tAugS, tAug, sFld1, sFldAug1, tMeth1, tMake, tMakeK1, tSl, tPart, tNoPart, sDPut1, tDPop, tBM, tBM0, tPar, gSub, tChain, tNot, tNotV, tDG1, tDG2, tDNewT1, iKeys1, iEnum1, iList1, iTup1, iRng1, iRng2, List.set_cons_zero, List.set_cons_succ]
      refine x_if ?_
      try dsimp only [tMethS1, tMethKS1, WE, tSeq, tAsg, gName, tOp, tUn, tCB, tCons, tNil, tCall, tMethK1, tCallK1, tPar3, tRet, tRetN, tDrop, tTest, tB, tC, tNext, tAugS, tAug, sFld1, sFldAug1, tMeth1, tMake, tMakeK1, tSl, tPart, tNoPart, sDPut1, tDPop, tBM, tBM0, tPar, gSub, tChain, tNot, tNotV, tDG1, tDG2, tDNewT1, iKeys1, iEnum1, iList1, iTup1, iRng1, iRng2, List.set_cons_zero, List.set_cons_succ]
      refine x_var (by exact rfl) ?_
      refine (h.mono (S.tl (T := T12) fun c h => List.mem_cons_of_mem _ (List.mem_cons_of_mem _ (List.mem_cons_of_mem _ (h))))).isInt ?_
      refine ⟨_, rfl, ?_⟩
      refine iteb (fun c3 => ?_) (fun c3 => ?_)
      · have S9 := S
        rcases h.int_of c3 with ⟨i1, rfl, rfl⟩ | ⟨b1, rfl, rfl⟩
        · have S := S9
          have hok : (i1 : Int).natAbs < 10 ^ 402 + n + 1 := hok
          try dsimp only [tMethS1, tMethKS1, WE, tSeq, tAsg, gName, tOp, tUn, tCB, tCons, tNil, tCall, tMethK1, tCallK1, tPar3, tRet, tRetN, tDrop, tTest, tB, tC, tNext, tAugS, tAug, sFld1, sFldAug1, tMeth1, tMake, tMakeK1, tSl, tPart, tNoPart, sDPut1, tDPop, tBM, tBM0, tPar, gSub, tChain, tNot, tNotV, tDG1, tDG2, tDNewT1, iKeys1, iEnum1, iList1, iTup1, iRng1, iRng2, List.set_cons_zero, List.set_cons_succ]
          refine x_var (by exact rfl) ?_
          refine ⟨_, rfl, ?_⟩
          refine x_slLD S 3 (by exact rfl) hfL8 (fun sl1 T13 H gr9 hle9 hfsl1 S => ?_)
          simp only [List.set_cons_zero, List.set_cons_succ, List.take_succ_cons, List.take_zero, List.eraseIdx_cons_zero, List.eraseIdx_cons_succ, List.cons_append, List.nil_append] at S
          replace gr := gr.trans gr9
          replace hfU3 := hle9 _ _ hfU3
          replace hfL7 := hle9 _ _ hfL7
          replace hfL8 := hle9 _ _ hfL8
          replace hfsl1 : tl T13 sl1 = some (.lst [_, _, _, _, _, _]) := hfsl1
          refine x_var (by exact rfl) ?_
          refine x_strNI (by omega) ?_
          refine x_var (by exact rfl) ?_
          refine x_tup S (by exact Nat.le_of_ble_eq_true rfl) (fun U4 H S => ?_)
          obtain ⟨T14, gr9, hle9, hfU4, S⟩ := S.freeze 4 0 rfl (by decide) rfl
          simp only [List.set_cons_zero, List.set_cons_succ, List.take_succ_cons, List.take_zero, List.eraseIdx_cons_zero, List.eraseIdx_cons_succ, List.cons_append, List.nil_append] at S
          replace gr := gr.trans gr9
          replace hfU3 := hle9 _ _ hfU3
          replace hfL7 := hle9 _ _ hfL7
          replace hfL8 := hle9 _ _ hfL8
          replace hfsl1 := hle9 _ _ hfsl1
          refine x_var (by exact rfl) ?_
          refine x_lst S (by exact Nat.le_of_ble_eq_true rfl) (fun L9 H S => ?_)
          obtain ⟨T15, gr9, hle9, hfL9, S⟩ := S.freeze 4 0 rfl (by decide) rfl
          simp only [List.set_cons_zero, List.set_cons_succ, List.take_succ_cons, List.take_zero, List.eraseIdx_cons_zero, List.eraseIdx_cons_succ, List.cons_append, List.nil_append] at S
          replace gr := gr.trans gr9
          replace hfU3 := hle9 _ _ hfU3
          replace hfL7 := hle9 _ _ hfL7
          replace hfL8 := hle9 _ _ hfL8
          replace hfsl1 := hle9 _ _ hfsl1
          replace hfU4 := hle9 _ _ hfU4
          refine x_var (by exact rfl) ?_
          refine x_negI ?_
          refine x_var (by exact rfl) ?_
          refine x_subI ?_
          refine x_var (by exact rfl) ?_
          refine x_negI ?_
          refine x_subI ?_
          refine x_lst S (by exact Nat.le_of_ble_eq_true rfl) (fun L10 H S => ?_)
          obtain ⟨T16, gr9, hle9, hfL10, S⟩ := S.freeze 4 0 rfl (by decide) rfl
          simp only [List.set_cons_zero, List.set_cons_succ, List.take_succ_cons, List.take_zero, List.eraseIdx_cons_zero, List.eraseIdx_cons_succ, List.cons_append, List.nil_append] at S
          replace gr := gr.trans gr9
          replace hfU3 := hle9 _ _ hfU3
          replace hfL7 := hle9 _ _ hfL7
          replace hfL8 := hle9 _ _ hfL8
          replace hfsl1 := hle9 _ _ hfsl1
          replace hfU4 := hle9 _ _ hfU4
          replace hfL9 := hle9 _ _ hfL9
          have hapct2 := ((DHs.cons (DH.int (-1)) (DHs.cons (DH.int (0)) (DHs.cons (DH.int (1)) (DHs.cons (DH.bl true) (DHs.cons (DH.bl false) (DHs.cons DH.non DHs.nil))))))).app (DHs.cons (DH.str (Str.ofString (toString i1)) (len_big (by omega))) (DHs.cons (DH.tup hfU4 (DHs.cons (DH.int (i1)) DHs.nil)) (DHs.cons (DH.lst hfL9 (DHs.cons (DH.int (i1)) DHs.nil)) (DHs.cons (DH.str (Str.ofString "in") (by exact Nat.le_of_ble_eq_true rfl)) (DHs.cons (DH.int ((-(i1)))) (DHs.cons (DH.int ((i1 - 1))) (DHs.cons (DH.int (((-(i1)) - 1))) DHs.nil)))))))
          refine x_catLD S 3 (by exact rfl) hfsl1 hfL10 (by first | omega | (simp only [List.length_cons, List.length_nil]; omega)) (fun ct2 T17 H gr9 hle9 hfct2 S => ?_)
          simp only [List.set_cons_zero, List.set_cons_succ, List.take_succ_cons, List.take_zero, List.eraseIdx_cons_zero, List.eraseIdx_cons_succ, List.cons_append, List.nil_append] at S
          replace gr := gr.trans gr9
          replace hfU3 := hle9 _ _ hfU3
          replace hfL7 := hle9 _ _ hfL7
          replace hfL8 := hle9 _ _ hfL8
          replace hfsl1 := hle9 _ _ hfsl1
          replace hfU4 := hle9 _ _ hfU4
          replace hfL9 := hle9 _ _ hfL9
          replace hfL10 := hle9 _ _ hfL10
          replace hapct2 := hapct2.mono hle9
          have hlct2 := hapct2.len
          replace hfct2 : tl T17 ct2 = some (.lst [_, _, _, _, _, _, _, _, _, _, _, _, _]) := hfct2
          try dsimp only [tMethS1, tMethKS1, WE, tSeq, tAsg, gName, tOp, tUn, tCB, tCons, tNil, tCall, tMethK1, tCallK1, tPar3, tRet, tRetN, tDrop, tTest, tB, tC, tNext, tAugS, tAug, sFld1, sFldAug1, tMeth1, tMake, tMakeK1, tSl, tPart, tNoPart, sDPut1, tDPop, tBM, tBM0, tPar, gSub, tChain, tNot, tNotV, tDG1, tDG2, tDNewT1, iKeys1, iEnum1, iList1, iTup1, iRng1, iRng2, List.set_cons_zero, List.set_cons_succ]
          refine x_var (by exact rfl) ?_
          refine x_var (by exact rfl) ?_
          obtain ⟨hD, hQ⟩ := bothD (p := okQ (n + 1)) (DHs.cons (DH.int (-1)) (DHs.cons (DH.int (0)) (DHs.cons (DH.int (1)) (DHs.cons (DH.bl true) (DHs.cons (DH.bl false) (DHs.cons DH.non (DHs.cons (DH.str (Str.ofString (toString i1)) (len_big (by omega))) (DHs.cons (DH.tup hfU4 (DHs.cons (DH.int (i1)) DHs.nil)) (DHs.cons (DH.lst hfL9 (DHs.cons (DH.int (i1)) DHs.nil)) (DHs.cons (DH.str (Str.ofString "in") (by exact Nat.le_of_ble_eq_true rfl)) (DHs.cons (DH.int ((-(i1)))) (DHs.cons (DH.int ((i1 - 1))) (DHs.cons (DH.int (((-(i1)) - 1))) DHs.nil))))))))))))) ⟨(by first | exact okQ_i (by omega) | exact okQ_big (by decide +kernel)), (by first | exact okQ_i (by omega) | exact okQ_big (by decide +kernel)), (by first | exact okQ_i (by omega) | exact okQ_big (by decide +kernel)), trivial, trivial, trivial, okQ_s (Nat.le_trans (PyProof.Rows.int_text_len_1921 (log_big (by omega))) (by have := bQ_lo n; omega)), trivial, trivial, okQ_c (by exact Nat.le_of_ble_eq_true rfl), (by first | exact okQ_i (by omega) | exact okQ_big (by decide +kernel)), (by first | exact okQ_i (by omega) | exact okQ_big (by decide +kernel)), (by first | exact okQ_i (by omega) | exact okQ_big (by decide +kernel)), trivial⟩
          refine c_pick (fun v => ∃ d, DH (tl T17) v d ∧ okQ (n + 1) d) S 0 1 2 (by exact rfl) (by exact rfl) (by exact rfl) hd (SomeV.tlL S 3 0 1 (by exact rfl) (by exact rfl) (by exact rfl) hfct2 (by rw [hD.len]; exact Nat.succ_pos _) (by rw [hD.len]; exact Nat.lt_of_lt_of_le (show _ < 100 by exact Nat.le_of_ble_eq_true (by exact rfl)) (by decide)) (fun v hv => by obtain ⟨i, hi⟩ := List.mem_iff_getElem?.mp hv; obtain ⟨d, h1, h2⟩ := hD.get hi; exact ⟨d, h2, AllP.all hQ _ (List.mem_of_getElem? h1)⟩)) (fun pk9 dr dt dm gs H hpk9 hd S => ?_)
          simp only [List.set_cons_zero, List.set_cons_succ] at S
          obtain ⟨d9, hd9, hq9⟩ := hpk9
          exact k _ _ _ _ _ _ _ _ (hq9) hd9 gr hd (S.subT 3 [0, 1, 2])
        · have S := S9
          have hb01 := b01_le b1
          try dsimp only [tMethS1, tMethKS1, WE, tSeq, tAsg, gName, tOp, tUn, tCB, tCons, tNil, tCall, tMethK1, tCallK1, tPar3, tRet, tRetN, tDrop, tTest, tB, tC, tNext, tAugS, tAug, sFld1, sFldAug1, tMeth1, tMake, tMakeK1, tSl, tPart, tNoPart, sDPut1, tDPop, tBM, tBM0, tPar, gSub, tChain, tNot, tNotV, tDG1, tDG2, tDNewT1, iKeys1, iEnum1, iList1, iTup1, iRng1, iRng2, List.set_cons_zero, List.set_cons_succ]
          refine x_var (by exact rfl) ?_
          refine ⟨_, rfl, ?_⟩
          refine x_slLD S 3 (by exact rfl) hfL8 (fun sl2 T18 H gr9 hle9 hfsl2 S => ?_)
          simp only [List.set_cons_zero, List.set_cons_succ, List.take_succ_cons, List.take_zero, List.eraseIdx_cons_zero, List.eraseIdx_cons_succ, List.cons_append, List.nil_append] at S
          replace gr := gr.trans gr9
          replace hfU3 := hle9 _ _ hfU3
          replace hfL7 := hle9 _ _ hfL7
          replace hfL8 := hle9 _ _ hfL8
          replace hfsl2 : tl T18 sl2 = some (.lst [_, _, _, _, _, _]) := hfsl2
          refine x_var (by exact rfl) ?_
          refine x_strNB (fun t9 ht9 => ?_)
          refine x_var (by exact rfl) ?_
          refine x_tup S (by exact Nat.le_of_ble_eq_true rfl) (fun U5 H S => ?_)
          obtain ⟨T19, gr9, hle9, hfU5, S⟩ := S.freeze 4 0 rfl (by decide) rfl
          simp only [List.set_cons_zero, List.set_cons_succ, List.take_succ_cons, List.take_zero, List.eraseIdx_cons_zero, List.eraseIdx_cons_succ, List.cons_append, List.nil_append] at S
          replace gr := gr.trans gr9
          replace hfU3 := hle9 _ _ hfU3
          replace hfL7 := hle9 _ _ hfL7
          replace hfL8 := hle9 _ _ hfL8
          replace hfsl2 := hle9 _ _ hfsl2
          refine x_var (by exact rfl) ?_
          refine x_lst S (by exact Nat.le_of_ble_eq_true rfl) (fun L11 H S => ?_)
          obtain ⟨T20, gr9, hle9, hfL11, S⟩ := S.freeze 4 0 rfl (by decide) rfl
          simp only [List.set_cons_zero, List.set_cons_succ, List.take_succ_cons, List.take_zero, List.eraseIdx_cons_zero, List.eraseIdx_cons_succ, List.cons_append, List.nil_append] at S
          replace gr := gr.trans gr9
          replace hfU3 := hle9 _ _ hfU3
          replace hfL7 := hle9 _ _ hfL7
          replace hfL8 := hle9 _ _ hfL8
          replace hfsl2 := hle9 _ _ hfsl2
          replace hfU5 := hle9 _ _ hfU5
          refine x_var (by exact rfl) ?_
          refine x_negB ?_
          refine x_var (by exact rfl) ?_
          refine x_subB ?_
          refine x_var (by exact rfl) ?_
          refine x_negB ?_
          refine x_subI ?_
          refine x_lst S (by exact Nat.le_of_ble_eq_true rfl) (fun L12 H S => ?_)
          obtain ⟨T21, gr9, hle9, hfL12, S⟩ := S.freeze 4 0 rfl (by decide) rfl
          simp only [List.set_cons_zero, List.set_cons_succ, List.take_succ_cons, List.take_zero, List.eraseIdx_cons_zero, List.eraseIdx_cons_succ, List.cons_append, List.nil_append] at S
          replace gr := gr.trans gr9
          replace hfU3 := hle9 _ _ hfU3
          replace hfL7 := hle9 _ _ hfL7
          replace hfL8 := hle9 _ _ hfL8
          replace hfsl2 := hle9 _ _ hfsl2
          replace hfU5 := hle9 _ _ hfU5
          replace hfL11 := hle9 _ _ hfL11
          have hapct3 := ((DHs.cons (DH.int (-1)) (DHs.cons (DH.int (0)) (DHs.cons (DH.int (1)) (DHs.cons (DH.bl true) (DHs.cons (DH.bl false) (DHs.cons DH.non DHs.nil))))))).app (DHs.cons (DH.str t9 (Nat.le_trans ht9 (by decide))) (DHs.cons (DH.tup hfU5 (DHs.cons (DH.bl b1) DHs.nil)) (DHs.cons (DH.lst hfL11 (DHs.cons (DH.bl b1) DHs.nil)) (DHs.cons (DH.str (Str.ofString "in") (by exact Nat.le_of_ble_eq_true rfl)) (DHs.cons (DH.int ((-(b01 b1)))) (DHs.cons (DH.int ((b01 b1 - 1))) (DHs.cons (DH.int (((-(b01 b1)) - 1))) DHs.nil)))))))
          refine x_catLD S 3 (by exact rfl) hfsl2 hfL12 (by first | omega | (simp only [List.length_cons, List.length_nil]; omega)) (fun ct3 T22 H gr9 hle9 hfct3 S => ?_)
          simp only [List.set_cons_zero, List.set_cons_succ, List.take_succ_cons, List.take_zero, List.eraseIdx_cons_zero, List.eraseIdx_cons_succ, List.cons_append, List.nil_append] at S
          replace gr := gr.trans gr9
          replace hfU3 := hle9 _ _ hfU3
          replace hfL7 := hle9 _ _ hfL7
          replace hfL8 := hle9 _ _ hfL8
          replace hfsl2 := hle9 _ _ hfsl2
          replace hfU5 := hle9 _ _ hfU5
          replace hfL11 := hle9 _ _ hfL11
          replace hfL12 := hle9 _ _ hfL12
          replace hapct3 := hapct3.mono hle9
          have hlct3 := hapct3.len
          replace hfct3 : tl T22 ct3 = some (.lst [_, _, _, _, _, _, _, _, _, _, _, _, _]) := hfct3
          try dsimp only [tMethS1, tMethKS1, WE, tSeq, tAsg, gName, tOp, tUn, tCB, tCons, tNil, tCall, tMethK1, tCallK1, tPar3, tRet, tRetN, tDrop, tTest, tB, tC, tNext, tAugS, tAug, sFld1, sFldAug1, tMeth1, tMake, tMakeK1, tSl, tPart, tNoPart, sDPut1, tDPop, tBM, tBM0, tPar, gSub, tChain, tNot, tNotV, tDG1, tDG2, tDNewT1, iKeys1, iEnum1, iList1, iTup1, iRng1, iRng2, List.set_cons_zero, List.set_cons_succ]
          refine x_var (by exact rfl) ?_
          refine x_var (by exact rfl) ?_
          obtain ⟨hD, hQ⟩ := bothD (p := okQ (n + 1)) (DHs.cons (DH.int (-1)) (DHs.cons (DH.int (0)) (DHs.cons (DH.int (1)) (DHs.cons (DH.bl true) (DHs.cons (DH.bl false) (DHs.cons DH.non (DHs.cons (DH.str t9 (Nat.le_trans ht9 (by decide))) (DHs.cons (DH.tup hfU5 (DHs.cons (DH.bl b1) DHs.nil)) (DHs.cons (DH.lst hfL11 (DHs.cons (DH.bl b1) DHs.nil)) (DHs.cons (DH.str (Str.ofString "in") (by exact Nat.le_of_ble_eq_true rfl)) (DHs.cons (DH.int ((-(b01 b1)))) (DHs.cons (DH.int ((b01 b1 - 1))) (DHs.cons (DH.int (((-(b01 b1)) - 1))) DHs.nil))))))))))))) ⟨(by first | exact okQ_i (by omega) | exact okQ_big (by decide +kernel)), (by first | exact okQ_i (by omega) | exact okQ_big (by decide +kernel)), (by first | exact okQ_i (by omega) | exact okQ_big (by decide +kernel)), trivial, trivial, trivial, okQ_c (Nat.le_trans ht9 (by decide)), trivial, trivial, okQ_c (by exact Nat.le_of_ble_eq_true rfl), (by first | exact okQ_i (by omega) | exact okQ_big (by decide +kernel)), (by first | exact okQ_i (by omega) | exact okQ_big (by decide +kernel)), (by first | exact okQ_i (by omega) | exact okQ_big (by decide +kernel)), trivial⟩
          refine c_pick (fun v => ∃ d, DH (tl T22) v d ∧ okQ (n + 1) d) S 0 1 2 (by exact rfl) (by exact rfl) (by exact rfl) hd (SomeV.tlL S 3 0 1 (by exact rfl) (by exact rfl) (by exact rfl) hfct3 (by rw [hD.len]; exact Nat.succ_pos _) (by rw [hD.len]; exact Nat.lt_of_lt_of_le (show _ < 100 by exact Nat.le_of_ble_eq_true (by exact rfl)) (by decide)) (fun v hv => by obtain ⟨i, hi⟩ := List.mem_iff_getElem?.mp hv; obtain ⟨d, h1, h2⟩ := hD.get hi; exact ⟨d, h2, AllP.all hQ _ (List.mem_of_getElem? h1)⟩)) (fun pk9 dr dt dm gs H hpk9 hd S => ?_)
          simp only [List.set_cons_zero, List.set_cons_succ] at S
          obtain ⟨d9, hd9, hq9⟩ := hpk9
          exact k _ _ _ _ _ _ _ _ (hq9) hd9 gr hd (S.subT 3 [0, 1, 2])
      · try dsimp only [tMethS1, tMethKS1, WE, tSeq, tAsg, gName, tOp, tUn, tCB, tCons, tNil, tCall, tMethK1, tCallK1, tPar3, tRet, tRetN, tDrop, tTest, tB, tC, tNext, tAugS, tAug, sFld1, sFldAug1, tMeth1, tMake, tMakeK1, tSl, tPart, tNoPart, sDPut1, tDPop, tBM, tBM0, tPar, gSub, tChain, tNot, tNotV, tDG1, tDG2, tDNewT1, iKeys1, iEnum1, iList1, iTup1, iRng1, iRng2, List.set_cons_zero, List.set_cons_succ]
        refine x_var (by exact rfl) ?_
        refine x_var (by exact rfl) ?_
        obtain ⟨hD, hQ⟩ := bothD (p := okQ (n + 1)) (DHs.cons (DH.int (-1)) (DHs.cons (DH.int (0)) (DHs.cons (DH.int (1)) (DHs.cons (DH.bl true) (DHs.cons (DH.bl false) (DHs.cons DH.non (DHs.cons (DH.str (Str.ofString "3") (by exact Nat.le_of_ble_eq_true rfl)) (DHs.cons (DH.tup hfU3 (DHs.cons h DHs.nil)) (DHs.cons (DH.lst hfL7 (DHs.cons h DHs.nil)) (DHs.cons (DH.str (Str.ofString "in") (by exact Nat.le_of_ble_eq_true rfl)) (DHs.cons (DH.str (Str.ofString "a") (by exact Nat.le_of_ble_eq_true rfl)) (DHs.cons (DH.int (2)) (DHs.cons (DH.int ((10 ^ Int.toNat 39))) DHs.nil))))))))))))) ⟨(by first | exact okQ_i (by omega) | exact okQ_big (by decide +kernel)), (by first | exact okQ_i (by omega) | exact okQ_big (by decide +kernel)), (by first | exact okQ_i (by omega) | exact okQ_big (by decide +kernel)), trivial, trivial, trivial, okQ_c (by exact Nat.le_of_ble_eq_true rfl), trivial, trivial, okQ_c (by exact Nat.le_of_ble_eq_true rfl), okQ_c (by exact Nat.le_of_ble_eq_true rfl), (by first | exact okQ_i (by omega) | exact okQ_big (by decide +kernel)), (by first | exact okQ_i (by omega) | exact okQ_big (by decide +kernel)), trivial⟩
        refine c_pick (fun v => ∃ d, DH (tl T12) v d ∧ okQ (n + 1) d) S 0 1 2 (by exact rfl) (by exact rfl) (by exact rfl) hd (SomeV.tlL S 3 0 1 (by exact rfl) (by exact rfl) (by exact rfl) hfL8 (by rw [hD.len]; exact Nat.succ_pos _) (by rw [hD.len]; exact Nat.lt_of_lt_of_le (show _ < 100 by exact Nat.le_of_ble_eq_true (by exact rfl)) (by decide)) (fun v hv => by obtain ⟨i, hi⟩ := List.mem_iff_getElem?.mp hv; obtain ⟨d, h1, h2⟩ := hD.get hi; exact ⟨d, h2, AllP.all hQ _ (List.mem_of_getElem? h1)⟩)) (fun pk9 dr dt dm gs H hpk9 hd S => ?_)
        simp only [List.set_cons_zero, List.set_cons_succ] at S
        obtain ⟨d9, hd9, hq9⟩ := hpk9
        exact k _ _ _ _ _ _ _ _ (hq9) hd9 gr hd (S.subT 3 [0, 1, 2])
end
end G

set_option linter.all false
set_option maxRecDepth 100000
set_option maxHeartbeats 4000000
namespace G
open PySem PySem.Spec PyProof.Rows L2

def bF : Nat → Nat
  | 0 => 100
  | n + 1 => 3 * bF n
theorem bF_lo : ∀ n, 100 ≤ bF n
  | 0 => Nat.le_refl _
  | n + 1 => by have := bF_lo n; show 100 ≤ 3 * bF n; omega
theorem bF_hi {n : Nat} (h : n ≤ 2) : bF n ≤ 900 := by
  have e : n = 0 ∨ n = 1 ∨ n = 2 := by omega
  rcases e with rfl | rfl | rfl <;> decide
def FrL (n : Nat) (ds : List PyData) : Prop := ds.length ≤ bF n ∧ ∀ e ∈ ds, okQ n e
def FrS (n : Nat) (d : PyData) : Prop := ∃ ds, d = .tuple ds ∧ FrL n ds
def LQ (n m : Nat) (ds : List PyData) : Prop := ds.length ≤ m * bF n ∧ ∀ e ∈ ds, okQ (n + 1) e
theorem okQ_mono {n : Nat} {d : PyData} (h : okQ n d) : okQ (n + 1) d := by
  cases d <;> try trivial
  · exact Nat.lt_of_lt_of_le (show _ < 10 ^ 402 + n + 1 from h) (Nat.le_succ _)
  · have h : _ ≤ bQ n := h
    exact Nat.le_trans h (by show bQ n ≤ 3 * bQ n; omega)
theorem cutI_mem {α : Type} {ds : List α} {lo hi : Option Int} {e : α} (h : e ∈ cutI ds lo hi) : e ∈ ds := List.mem_of_mem_drop (List.mem_of_mem_take h)
theorem LQ.cut {n : Nat} {ds : List PyData} {lo hi : Option Int} (h : FrL n ds) : LQ n 1 (cutI ds lo hi) :=
  ⟨by have : (cutI ds lo hi).length ≤ ds.length := by unfold cutI; rw [List.length_take, List.length_drop]; omega
      have := h.1; omega, fun e he => okQ_mono (h.2 e (cutI_mem he))⟩
theorem LQ.one {n : Nat} {d : PyData} (h : okQ (n + 1) d) : LQ n 1 [d] :=
  ⟨by have := bF_lo n; simp only [List.length_cons, List.length_nil]; omega, fun e he => by rw [List.mem_singleton.mp he]; exact h⟩
theorem LQ.two {n : Nat} {d e : PyData} (h : okQ n d) (h2 : okQ n e) : LQ n 1 [d, e] :=
  ⟨by have := bF_lo n; simp only [List.length_cons, List.length_nil]; omega, fun x hx => by
    rcases List.mem_cons.mp hx with r | r
    · rw [r]; exact okQ_mono h
    · rw [List.mem_singleton.mp r]; exact okQ_mono h2⟩
theorem LQ.app {n a b : Nat} {ds es : List PyData} (h : LQ n a ds) (g : LQ n b es) : LQ n (a + b) (ds ++ es) :=
  ⟨by have := h.1; have := g.1; rw [List.length_append, Nat.add_mul]; omega, fun e he => (List.mem_append.mp he).elim (h.2 e) (g.2 e)⟩
theorem FrS.of {n m : Nat} {ds : List PyData} (h : LQ n m ds) (hm : m ≤ 3 := by decide) : FrS (n + 1) (.tuple ds) :=
  ⟨ds, rfl, Nat.le_trans h.1 (Nat.mul_le_mul_right _ hm), h.2⟩
def spSpoilF : Sp := spDat fun dp hh vs R => ∃ (ma : Addr) (xs : List V) (ds : List PyData) (n : Nat), vs = [.ref dp, .ref ma] ∧ hh ma = some (.tup xs) ∧ DHs hh xs ds ∧ 0 < xs.length ∧ FrL n ds ∧ n ≤ 1 ∧ R = FrS (n + 1)
theorem len_cutV (xs : List V) (lo hi : Option Int) : (cutV xs lo hi).length ≤ xs.length := by
  unfold cutV
  rw [List.length_take, List.length_drop]
  omega
theorem cut_one {xs : List V} {lo hi : Option Int} {y : V} (h : xs.length ≤ 2000) : (cutV xs lo hi).length + [y].length ≤ 100000 := by
  have := len_cutV xs lo hi
  simp only [List.length_cons, List.length_nil]; omega
theorem cut_two {xs : List V} {lo hi : Option Int} {y z : V} (h : xs.length ≤ 2000) : (cutV xs lo hi).length + [y, z].length ≤ 100000 := by
  have := len_cutV xs lo hi
  simp only [List.length_cons, List.length_nil]; omega
theorem one_cut {xs : List V} {lo hi : Option Int} {y : V} (h : xs.length ≤ 2000) : [y].length + (cutV xs lo hi).length ≤ 100000 := by
  have := len_cutV xs lo hi
  simp only [List.length_cons, List.length_nil]; omega
theorem cut_cut {xs : List V} {lo hi lo' hi' : Option Int} {y : V} (h : xs.length ≤ 2000) : (cutV xs lo hi ++ [y]).length + (cutV xs lo' hi').length ≤ 100000 := by
  have := len_cutV xs lo hi
  have := len_cutV xs lo' hi'
  simp only [List.length_append, List.length_cons, List.length_nil]; omega
theorem cut_cutT {xs : List V} {lo hi lo' hi' : Option Int} {y z : V} (h : xs.length ≤ 2000) : (cutV xs lo hi ++ [y, z]).length + (cutV xs lo' hi').length ≤ 100000 := by
  have := len_cutV xs lo hi
  have := len_cutV xs lo' hi'
  simp only [List.length_append, List.length_cons, List.length_nil]; omega
theorem cut_cutF {xs : List V} {lo hi lo' hi' : Option Int} (h : xs.length ≤ 2000) : (cutV xs lo hi).length + (cutV xs lo' hi').length ≤ 100000 := by
  have := len_cutV xs lo hi
  have := len_cutV xs lo' hi'
  omega
theorem cut_cut3 {xs : List V} {lo hi lo' hi' l2 h2 : Option Int} (h : xs.length ≤ 2000) : (cutV xs lo hi ++ cutV xs l2 h2).length + (cutV xs lo' hi').length ≤ 100000 := by
  have := len_cutV xs lo hi
  have := len_cutV xs l2 h2
  have := len_cutV xs lo' hi'
  rw [List.length_append]; omega
section
variable {P : Program} {w : World} {K : PySem.W.Frag} {mg : Str → Option Value} {base : Heap}
abbrev s_law_spoilt : Stmt := (topS 23)
theorem sc_law_spoilt : FnScope ["_law_draw", "_law_matter", "_law_way", "_law_at"] ["_law_draw", "_law_matter"] (defScope s_law_spoilt) := ⟨rfl, rfl, rfl, by decide +kernel, rfl, by decide +kernel, by decide +kernel⟩
theorem ok_law_spoilt {f : Addr} {fd : FuncData} (F : L2.Fun K "_law_spoilt" "_law_spoilt" s_law_spoilt f fd) (ctake : Cal P w K mg base CX0 1 "_law_take" spLTake) (cpick : Cal P w K mg base CX0 2 "_law_pick" (spPick K)) (ckinds : Cal P w K mg base CX0 1 "_law_kinds" spKinds) (codd : Cal P w K mg base CX0 3 "_law_odd" spOddF) (z_len : mg "len" = none) (z_sorted : mg "sorted" = none) (z_list : mg "list" = none) : FnOk P w K mg base CX0 4 f fd ["_law_draw", "_law_matter"] spSpoilF := by
  refine F.ok sc_law_spoilt (fun vs H Q E h => ?_) (fun cdv A outer s H0 vs Q E hr h => ?_)
  · obtain ⟨dp, dg, dc, dr, dt, dm, gs, cs, T, R, S, hd, ⟨ma, xs, ds, n, rfl, hma, h, hpos, hfl, hn1, rfl⟩, k⟩ := h
    rfl
  · obtain ⟨dp, dg, dc, dr, dt, dm, gs, cs, T, R, S, hd, ⟨ma, xs, ds, n, rfl, hma, h, hpos, hfl, hn1, rfl⟩, k⟩ := h
    have hu := hu_of hr
    have gr := Grow.refl T
    have hxl : xs.length ≤ 2000 := by have := h.len; have := hfl.1; have := bF_hi (n := n) (by omega); omega
    refine ⟨_, pss_cons (ps_set (i := 2) sc_law_spoilt.nd rfl (.inl rfl) (pe_c ctake hr (by decide) (by rfl) pass0 (pa_cons (pv 0) (pa_cons (pe_int) pa_nil))))
      (pss_cons (ps_set (i := 3) sc_law_spoilt.nd rfl (.inl rfl) (pe_c ctake hr (by decide) (by rfl) pass0 (pa_cons (pv 0) (pa_cons (pe_callB (cl_lenX K) (by rfl) z_len PySem.boot_len (pa_cons (pv 1) pa_nil)) pa_nil))))
      (pss_cons (ps_if (pt_cmpR op_eq (pv 2) (pe_int) (nomark _)) (pss_one (ps_ret (pe_op (op_catAK K) (pe_slice (sl_tupAK K) (pv 1) (po_none) (po_some (pv 3))) (pe_slice (sl_tupAK K) (pv 1) (po_some (pe_op op_add (pv 3) (pe_int))) (po_none))))) (pss_nil))
      (pss_cons (ps_if (pt_cmpR op_eq (pv 2) (pe_int) (nomark _)) (pss_one (ps_ret (pe_op (op_catAK K) (pe_op (op_catAK K) (pe_slice (sl_tupAK K) (pv 1) (po_none) (po_some (pv 3))) (pe_slice (sl_tupAK K) (pv 1) (po_some (pv 3)) (po_some (pe_op op_add (pv 3) (pe_int))))) (pe_slice (sl_tupAK K) (pv 1) (po_some (pv 3)) (po_none))))) (pss_nil))
      (pss_cons (ps_if ((pw_and (pt_cmpR op_eq (pv 2) (pe_int) (nomark _)) (pw_and1 (pt_cmpR op_gt (pe_callB (cl_lenX K) (by rfl) z_len PySem.boot_len (pa_cons (pv 1) pa_nil)) (pe_int) (nomark _)))).pt) (pss_one (ps_ret (pe_op (op_catAK K) (pe_op (op_catAK K) (pe_slice (sl_tupAK K) (pv 1) (po_none) (po_some (pe_int))) (pe_tup1 (pa_cons (pe_ix (ix_tupK K) (pv 1) (pe_int) (fun _ _ => rfl)) (pa_cons (pe_ix (ix_tupK K) (pv 1) (pe_int) (fun _ _ => rfl)) pa_nil)))) (pe_slice (sl_tupAK K) (pv 1) (po_some (pe_int)) (po_none))))) (pss_nil))
      (pss_cons (ps_if (pt_cmpR op_eq (pv 2) (pe_int) (nomark _)) (pss_one (ps_ret (pe_op (op_catAK K) (pe_tup1 (pa_cons (pe_c cpick hr (by decide) (by rfl) pass0 (pa_cons (pv 0) (pa_cons (pe_callB (cl_sortedSK K) (by rfl) z_sorted (by decide +kernel) (pa_cons (pe_callTy (call_list_dK rfl) (by rfl) z_list (by decide +kernel) (pa_cons (pe_c0 ckinds hr (by decide) (by rfl) pass0) pa_nil)) pa_nil)) pa_nil))) pa_nil)) (pe_slice (sl_tupAK K) (pv 1) (po_some (pe_int)) (po_none))))) (pss_nil))
      (pss_one (ps_ret (pe_op (op_catAK K) (pe_op (op_catAK K) (pe_slice (sl_tupAK K) (pv 1) (po_none) (po_some (pv 3))) (pe_tup1 (pa_cons (pe_c codd hr (by decide) (by rfl) pass0 (pa_cons (pv 0) (pa_cons (pe_ix (ix_tupK K) (pv 1) (pv 3) (fun _ _ => rfl)) pa_nil))) pa_nil))) (pe_slice (sl_tupAK K) (pv 1) (po_some (pe_op op_add (pv 3) (pe_int))) (po_none)))))))))), ?_⟩
    rw [show start ["_law_draw", "_law_matter", "_law_way", "_law_at"] [V.ref dp, V.ref ma] = [some (V.ref dp), some (V.ref ma), none, none] from rfl]
    try dsimp only [tMethS1, tMethKS1, WE, tSeq, tAsg, gName, tOp, tUn, tCB, tCons, tNil, tCall, tMethK1, tCallK1, tPar3, tRet, tRetN, tDrop, tTest, tB, tC, tNext, tAugS, tAug, sFld1, sFldAug1, tMeth1, tMake, tMakeK1, tSl, tPart, tNoPart, sDPut1, tDPop, tBM, tBM0, tPar, gSub, tChain, tNot, tNotV, tDG1, tDG2, tDNewT1, iKeys1, iEnum1, iList1, iTup1, iRng1, iRng2, List.set_cons_zero, List.set_cons_succ]
    refine x_var (by exact rfl) ?_
    refine c_ltake S 0 1 2 (by exact rfl) (by exact rfl) (by exact rfl) hd (by first | omega | decide | (simp only [len_insAt, List.length_map, List.length_append, List.length_cons, List.length_nil, List.length_take, List.length_drop] at *; omega)) (by first | omega | decide | (simp only [len_insAt, List.length_map, List.length_append, List.length_cons, List.length_nil, List.length_take, List.length_drop] at *; omega)) (fun v1 dr dt dm gs H v1a v1b hd S => ?_)
    simp only [List.set_cons_zero, List.set_cons_succ] at S
    try dsimp only [tMethS1, tMethKS1, WE, tSeq, tAsg, gName, tOp, tUn, tCB, tCons, tNil, tCall, tMethK1, tCallK1, tPar3, tRet, tRetN, tDrop, tTest, tB, tC, tNext, tAugS, tAug, sFld1, sFldAug1, tMeth1, tMake, tMakeK1, tSl, tPart, tNoPart, sDPut1, tDPop, tBM, tBM0, tPar, gSub, tChain, tNot, tNotV, tDG1, tDG2, tDNewT1, iKeys1, iEnum1, iList1, iTup1, iRng1, iRng2, List.set_cons_zero, List.set_cons_succ]
    refine x_var (by exact rfl) ?_
    refine x_var (by exact rfl) ?_
    refine x_lenXt (.of ((S.tl (T := T) fun c h => List.mem_cons_of_mem _ (List.mem_cons_of_mem _ (List.mem_cons_of_mem _ (h)))) _ _ hma)) ?_
    refine c_ltake S 0 1 2 (by exact rfl) (by exact rfl) (by exact rfl) hd (by first | omega | decide | (simp only [len_insAt, List.length_map, List.length_append, List.length_cons, List.length_nil, List.length_take, List.length_drop] at *; omega)) (by first | omega | decide | (simp only [len_insAt, List.length_map, List.length_append, List.length_cons, List.length_nil, List.length_take, List.length_drop] at *; omega)) (fun v2 dr dt dm gs H v2a v2b hd S => ?_)
    simp only [List.set_cons_zero, List.set_cons_succ] at S
    try dsimp only [tMethS1, tMethKS1, WE, tSeq, tAsg, gName, tOp, tUn, tCB, tCons, tNil, tCall, tMethK1, tCallK1, tPar3, tRet, tRetN, tDrop, tTest, tB, tC, tNext, tAugS, tAug, sFld1, sFldAug1, tMeth1, tMake, tMakeK1, tSl, tPart, tNoPart, sDPut1, tDPop, tBM, tBM0, tPar, gSub, tChain, tNot, tNotV, tDG1, tDG2, tDNewT1, iKeys1, iEnum1, iList1, iTup1, iRng1, iRng2, List.set_cons_zero, List.set_cons_succ]
    refine x_if ?_
    try dsimp only [tMethS1, tMethKS1, WE, tSeq, tAsg, gName, tOp, tUn, tCB, tCons, tNil, tCall, tMethK1, tCallK1, tPar3, tRet, tRetN, tDrop, tTest, tB, tC, tNext, tAugS, tAug, sFld1, sFldAug1, tMeth1, tMake, tMakeK1, tSl, tPart, tNoPart, sDPut1, tDPop, tBM, tBM0, tPar, gSub, tChain, tNot, tNotV, tDG1, tDG2, tDNewT1, iKeys1, iEnum1, iList1, iTup1, iRng1, iRng2, List.set_cons_zero, List.set_cons_succ]
    refine x_var (by exact rfl) ?_
    refine x_eq ?_
    refine ⟨_, rfl, ?_⟩
    refine iteq (fun c1 => ?_) (fun c1 => ?_)
    · try dsimp only [tMethS1, tMethKS1, WE, tSeq, tAsg, gName, tOp, tUn, tCB, tCons, tNil, tCall, tMethK1, tCallK1, tPar3, tRet, tRetN, tDrop, tTest, tB, tC, tNext, tAugS, tAug, sFld1, sFldAug1, tMeth1, tMake, tMakeK1, tSl, tPart, tNoPart, sDPut1, tDPop, tBM, tBM0, tPar, gSub, tChain, tNot, tNotV, tDG1, tDG2, tDNewT1, iKeys1, iEnum1, iList1, iTup1, iRng1, iRng2, List.set_cons_zero, List.set_cons_succ]
      refine x_var (by exact rfl) ?_
      refine x_var (by exact rfl) ?_
      refine ⟨_, rfl, ?_⟩
      refine x_slD S 3 (by exact rfl) hma (fun sl1 T1 H gr9 hle9 hfsl1 S => ?_)
      simp only [List.set_cons_zero, List.set_cons_succ, List.take_succ_cons, List.take_zero, List.eraseIdx_cons_zero, List.eraseIdx_cons_succ, List.cons_append, List.nil_append] at S
      replace gr := gr.trans gr9
      replace hma := hle9 _ _ hma
      replace h := h.mono hle9
      have hcsl1 := (h).cut none (some (v2))
      have hlsl1 := hcsl1.len
      refine x_var (by exact rfl) ?_
      refine x_var (by exact rfl) ?_
      refine x_I0 ?_
      refine ⟨_, rfl, ?_⟩
      refine x_slD S 3 (by exact rfl) hma (fun sl2 T2 H gr9 hle9 hfsl2 S => ?_)
      simp only [List.set_cons_zero, List.set_cons_succ, List.take_succ_cons, List.take_zero, List.eraseIdx_cons_zero, List.eraseIdx_cons_succ, List.cons_append, List.nil_append] at S
      replace gr := gr.trans gr9
      replace hma := hle9 _ _ hma
      replace h := h.mono hle9
      replace hfsl1 := hle9 _ _ hfsl1
      replace hcsl1 := hcsl1.mono hle9
      have hcsl2 := (h).cut (some (v2 + 1)) none
      have hlsl2 := hcsl2.len
      have hapct1 := (hcsl1).app hcsl2
      refine x_catD S 3 (by exact rfl) hfsl1 hfsl2 (by first | exact cut_cutF hxl | exact cut_cut3 hxl | exact cut_one hxl | exact cut_two hxl | exact one_cut hxl | exact cut_cut hxl | exact cut_cutT hxl) (fun ct1 T3 H gr9 hle9 hfct1 S => ?_)
      simp only [List.set_cons_zero, List.set_cons_succ, List.take_succ_cons, List.take_zero, List.eraseIdx_cons_zero, List.eraseIdx_cons_succ, List.cons_append, List.nil_append] at S
      replace gr := gr.trans gr9
      replace hma := hle9 _ _ hma
      replace h := h.mono hle9
      replace hfsl1 := hle9 _ _ hfsl1
      replace hcsl1 := hcsl1.mono hle9
      replace hfsl2 := hle9 _ _ hfsl2
      replace hcsl2 := hcsl2.mono hle9
      replace hapct1 := hapct1.mono hle9
      have hlct1 := hapct1.len
      exact k _ _ _ _ _ _ _ _ (FrS.of ((LQ.cut hfl).app (LQ.cut hfl))) (DH.tup hfct1 hapct1) gr hd (S.subT 3 [0, 1, 2])
    · try dsimp only [tMethS1, tMethKS1, WE, tSeq, tAsg, gName, tOp, tUn, tCB, tCons, tNil, tCall, tMethK1, tCallK1, tPar3, tRet, tRetN, tDrop, tTest, tB, tC, tNext, tAugS, tAug, sFld1, sFldAug1, tMeth1, tMake, tMakeK1, tSl, tPart, tNoPart, sDPut1, tDPop, tBM, tBM0, tPar, gSub, tChain, tNot, tNotV, tDG1, tDG2, tDNewT1, iKeys1, iEnum1, iList1, iTup1, iRng1, iRng2, List.set_cons_zero, List.set_cons_succ]
      refine x_if ?_
      try dsimp only [tMethS1, tMethKS1, WE, tSeq, tAsg, gName, tOp, tUn, tCB, tCons, tNil, tCall, tMethK1, tCallK1, tPar3, tRet, tRetN, tDrop, tTest, tB, tC, tNext, tAugS, tAug, sFld1, sFldAug1, tMeth1, tMake, tMakeK1, tSl, tPart, tNoPart, sDPut1, tDPop, tBM, tBM0, tPar, gSub, tChain, tNot, tNotV, tDG1, tDG2, tDNewT1, iKeys1, iEnum1, iList1, iTup1, iRng1, iRng2, List.set_cons_zero, List.set_cons_succ]
      refine x_var (by exact rfl) ?_
      refine x_eq ?_
      refine ⟨_, rfl, ?_⟩
      refine iteq (fun c2 => ?_) (fun c2 => ?_)
      · try dsimp only [tMethS1, tMethKS1, WE, tSeq, tAsg, gName, tOp, tUn, tCB, tCons, tNil, tCall, tMethK1, tCallK1, tPar3, tRet, tRetN, tDrop, tTest, tB, tC, tNext, tAugS, tAug, sFld1, sFldAug1, tMeth1, tMake, tMakeK1, tSl, tPart, tNoPart, sDPut1, tDPop, tBM, tBM0, tPar, gSub, tChain, tNot, tNotV, tDG1, tDG2, tDNewT1, iKeys1, iEnum1, iList1, iTup1, iRng1, iRng2, List.set_cons_zero, List.set_cons_succ]
        refine x_var (by exact rfl) ?_
        refine x_var (by exact rfl) ?_
        refine ⟨_, rfl, ?_⟩
        refine x_slD S 3 (by exact rfl) hma (fun sl3 T4 H gr9 hle9 hfsl3 S => ?_)
        simp only [List.set_cons_zero, List.set_cons_succ, List.take_succ_cons, List.take_zero, List.eraseIdx_cons_zero, List.eraseIdx_cons_succ, List.cons_append, List.nil_append] at S
        replace gr := gr.trans gr9
        replace hma := hle9 _ _ hma
        replace h := h.mono hle9
        have hcsl3 := (h).cut none (some (v2))
        have hlsl3 := hcsl3.len
        refine x_var (by exact rfl) ?_
        refine x_var (by exact rfl) ?_
        refine ⟨_, rfl, ?_⟩
        refine x_var (by exact rfl) ?_
        refine x_I0 ?_
        refine ⟨_, rfl, ?_⟩
        refine x_slD S 3 (by exact rfl) hma (fun sl4 T5 H gr9 hle9 hfsl4 S => ?_)
        simp only [List.set_cons_zero, List.set_cons_succ, List.take_succ_cons, List.take_zero, List.eraseIdx_cons_zero, List.eraseIdx_cons_succ, List.cons_append, List.nil_append] at S
        replace gr := gr.trans gr9
        replace hma := hle9 _ _ hma
        replace h := h.mono hle9
        replace hfsl3 := hle9 _ _ hfsl3
        replace hcsl3 := hcsl3.mono hle9
        have hcsl4 := (h).cut (some (v2)) (some (v2 + 1))
        have hlsl4 := hcsl4.len
        have hapct2 := (hcsl3).app hcsl4
        refine x_catD S 3 (by exact rfl) hfsl3 hfsl4 (by first | exact cut_cutF hxl | exact cut_cut3 hxl | exact cut_one hxl | exact cut_two hxl | exact one_cut hxl | exact cut_cut hxl | exact cut_cutT hxl) (fun ct2 T6 H gr9 hle9 hfct2 S => ?_)
        simp only [List.set_cons_zero, List.set_cons_succ, List.take_succ_cons, List.take_zero, List.eraseIdx_cons_zero, List.eraseIdx_cons_succ, List.cons_append, List.nil_append] at S
        replace gr := gr.trans gr9
        replace hma := hle9 _ _ hma
        replace h := h.mono hle9
        replace hfsl3 := hle9 _ _ hfsl3
        replace hcsl3 := hcsl3.mono hle9
        replace hfsl4 := hle9 _ _ hfsl4
        replace hcsl4 := hcsl4.mono hle9
        replace hapct2 := hapct2.mono hle9
        have hlct2 := hapct2.len
        refine x_var (by exact rfl) ?_
        refine x_var (by exact rfl) ?_
        refine ⟨_, rfl, ?_⟩
        refine x_slD S 3 (by exact rfl) hma (fun sl5 T7 H gr9 hle9 hfsl5 S => ?_)
        simp only [List.set_cons_zero, List.set_cons_succ, List.take_succ_cons, List.take_zero, List.eraseIdx_cons_zero, List.eraseIdx_cons_succ, List.cons_append, List.nil_append] at S
        replace gr := gr.trans gr9
        replace hma := hle9 _ _ hma
        replace h := h.mono hle9
        replace hfsl3 := hle9 _ _ hfsl3
        replace hcsl3 := hcsl3.mono hle9
        replace hfsl4 := hle9 _ _ hfsl4
        replace hcsl4 := hcsl4.mono hle9
        replace hapct2 := hapct2.mono hle9
        replace hfct2 := hle9 _ _ hfct2
        have hcsl5 := (h).cut (some (v2)) none
        have hlsl5 := hcsl5.len
        have hapct3 := (hapct2).app hcsl5
        refine x_catD S 3 (by exact rfl) hfct2 hfsl5 (by first | exact cut_cutF hxl | exact cut_cut3 hxl | exact cut_one hxl | exact cut_two hxl | exact one_cut hxl | exact cut_cut hxl | exact cut_cutT hxl) (fun ct3 T8 H gr9 hle9 hfct3 S => ?_)
        simp only [List.set_cons_zero, List.set_cons_succ, List.take_succ_cons, List.take_zero, List.eraseIdx_cons_zero, List.eraseIdx_cons_succ, List.cons_append, List.nil_append] at S
        replace gr := gr.trans gr9
        replace hma := hle9 _ _ hma
        replace h := h.mono hle9
        replace hfsl3 := hle9 _ _ hfsl3
        replace hcsl3 := hcsl3.mono hle9
        replace hfsl4 := hle9 _ _ hfsl4
        replace hcsl4 := hcsl4.mono hle9
        replace hapct2 := hapct2.mono hle9
        replace hfct2 := hle9 _ _ hfct2
        replace hfsl5 := hle9 _ _ hfsl5
        replace hcsl5 := hcsl5.mono hle9
        replace hapct3 := hapct3.mono hle9
        have hlct3 := hapct3.len
        exact k _ _ _ _ _ _ _ _ (FrS.of (((LQ.cut hfl).app (LQ.cut hfl)).app (LQ.cut hfl))) (DH.tup hfct3 hapct3) gr hd (S.subT 3 [0, 1, 2])
      · try dsimp only [tMethS1, tMethKS1, WE, tSeq, tAsg, gName, tOp, tUn, tCB, tCons, tNil, tCall, tMethK1, tCallK1, tPar3, tRet, tRetN, tDrop, tTest, tB, tC, tNext, tAugS, tAug, sFld1, sFldAug1, tMeth1, tMake, tMakeK1, tSl, tPart, tNoPart, sDPut1, tDPop, tBM, tBM0, tPar, gSub, tChain, tNot, tNotV, tDG1, tDG2, tDNewT1, iKeys1, iEnum1, iList1, iTup1, iRng1, iRng2, List.set_cons_zero, List.set_cons_succ]
        refine x_if ?_
        try dsimp only [tMethS1, tMethKS1, WE, tSeq, tAsg, gName, tOp, tUn, tCB, tCons, tNil, tCall, tMethK1, tCallK1, tPar3, tRet, tRetN, tDrop, tTest, tB, tC, tNext, tAugS, tAug, sFld1, sFldAug1, tMeth1, tMake, tMakeK1, tSl, tPart, tNoPart, sDPut1, tDPop, tBM, tBM0, tPar, gSub, tChain, tNot, tNotV, tDG1, tDG2, tDNewT1, iKeys1, iEnum1, iList1, iTup1, iRng1, iRng2, List.set_cons_zero, List.set_cons_succ]
        refine x_and ?_
        try dsimp only [tMethS1, tMethKS1, WE, tSeq, tAsg, gName, tOp, tUn, tCB, tCons, tNil, tCall, tMethK1, tCallK1, tPar3, tRet, tRetN, tDrop, tTest, tB, tC, tNext, tAugS, tAug, sFld1, sFldAug1, tMeth1, tMake, tMakeK1, tSl, tPart, tNoPart, sDPut1, tDPop, tBM, tBM0, tPar, gSub, tChain, tNot, tNotV, tDG1, tDG2, tDNewT1, iKeys1, iEnum1, iList1, iTup1, iRng1, iRng2, List.set_cons_zero, List.set_cons_succ]
        refine x_var (by exact rfl) ?_
        refine x_eq ?_
        refine ⟨_, rfl, ?_⟩
        refine iteq (fun c3 => ?_) (fun c3 => ?_)
        · refine x_var (by exact rfl) ?_
          refine x_lenXt (.of ((S.tl (T := T) fun c h => List.mem_cons_of_mem _ (List.mem_cons_of_mem _ (List.mem_cons_of_mem _ (h)))) _ _ hma)) ?_
          refine x_I0 ?_
          refine ⟨_, rfl, ?_⟩
          refine ited (fun c4 => ?_) (fun c4 => ?_)
          · try dsimp only [tMethS1, tMethKS1, WE, tSeq, tAsg, gName, tOp, tUn, tCB, tCons, tNil, tCall, tMethK1, tCallK1, tPar3, tRet, tRetN, tDrop, tTest, tB, tC, tNext, tAugS, tAug, sFld1, sFldAug1, tMeth1, tMake, tMakeK1, tSl, tPart, tNoPart, sDPut1, tDPop, tBM, tBM0, tPar, gSub, tChain, tNot, tNotV, tDG1, tDG2, tDNewT1, iKeys1, iEnum1, iList1, iTup1, iRng1, iRng2, List.set_cons_zero, List.set_cons_succ]
            refine x_var (by exact rfl) ?_
            refine ⟨_, rfl, ?_⟩
            refine x_slD S 3 (by exact rfl) hma (fun sl6 T9 H gr9 hle9 hfsl6 S => ?_)
            simp only [List.set_cons_zero, List.set_cons_succ, List.take_succ_cons, List.take_zero, List.eraseIdx_cons_zero, List.eraseIdx_cons_succ, List.cons_append, List.nil_append] at S
            replace gr := gr.trans gr9
            replace hma := hle9 _ _ hma
            replace h := h.mono hle9
            have hcsl6 := (h).cut none (some (1))
            have hlsl6 := hcsl6.len
            refine x_var (by exact rfl) ?_
            refine x_ixAT (.of ((S.tl (T := T9) fun c h => List.mem_cons_of_mem _ (List.mem_cons_of_mem _ (List.mem_cons_of_mem _ (h)))) _ _ hma)) (by omega) (by omega) (fun x1 hcx1 => ?_)
            obtain ⟨d1, hid1, hd1⟩ := (h).get hcx1
            have hqd1 := hfl.2 _ (List.mem_of_getElem? hid1)
            refine x_var (by exact rfl) ?_
            refine x_ixAT (.of ((S.tl (T := T9) fun c h => List.mem_cons_of_mem _ (List.mem_cons_of_mem _ (List.mem_cons_of_mem _ (h)))) _ _ hma)) (by omega) (by omega) (fun x2 hcx2 => ?_)
            obtain ⟨d2, hid2, hd2⟩ := (h).get hcx2
            have hqd2 := hfl.2 _ (List.mem_of_getElem? hid2)
            refine x_tup S (by exact Nat.le_of_ble_eq_true rfl) (fun U1 H S => ?_)
            obtain ⟨T10, gr9, hle9, hfU1, S⟩ := S.freeze 4 0 rfl (by decide) rfl
            simp only [List.set_cons_zero, List.set_cons_succ, List.take_succ_cons, List.take_zero, List.eraseIdx_cons_zero, List.eraseIdx_cons_succ, List.cons_append, List.nil_append] at S
            replace gr := gr.trans gr9
            replace hma := hle9 _ _ hma
            replace h := h.mono hle9
            replace hfsl6 := hle9 _ _ hfsl6
            replace hcsl6 := hcsl6.mono hle9
            replace hd1 := hd1.mono hle9
            replace hd2 := hd2.mono hle9
            have hapct4 := (hcsl6).app (DHs.cons hd1 (DHs.cons hd2 DHs.nil))
            refine x_catD S 3 (by exact rfl) hfsl6 hfU1 (by first | exact cut_cutF hxl | exact cut_cut3 hxl | exact cut_one hxl | exact cut_two hxl | exact one_cut hxl | exact cut_cut hxl | exact cut_cutT hxl) (fun ct4 T11 H gr9 hle9 hfct4 S => ?_)
            simp only [List.set_cons_zero, List.set_cons_succ, List.take_succ_cons, List.take_zero, List.eraseIdx_cons_zero, List.eraseIdx_cons_succ, List.cons_append, List.nil_append] at S
            replace gr := gr.trans gr9
            replace hma := hle9 _ _ hma
            replace h := h.mono hle9
            replace hfsl6 := hle9 _ _ hfsl6
            replace hcsl6 := hcsl6.mono hle9
            replace hd1 := hd1.mono hle9
            replace hd2 := hd2.mono hle9
            replace hfU1 := hle9 _ _ hfU1
            replace hapct4 := hapct4.mono hle9
            have hlct4 := hapct4.len
            refine x_var (by exact rfl) ?_
            refine ⟨_, rfl, ?_⟩
            refine x_slD S 3 (by exact rfl) hma (fun sl7 T12 H gr9 hle9 hfsl7 S => ?_)
            simp only [List.set_cons_zero, List.set_cons_succ, List.take_succ_cons, List.take_zero, List.eraseIdx_cons_zero, List.eraseIdx_cons_succ, List.cons_append, List.nil_append] at S
            replace gr := gr.trans gr9
            replace hma := hle9 _ _ hma
            replace h := h.mono hle9
            replace hfsl6 := hle9 _ _ hfsl6
            replace hcsl6 := hcsl6.mono hle9
            replace hd1 := hd1.mono hle9
            replace hd2 := hd2.mono hle9
            replace hfU1 := hle9 _ _ hfU1
            replace hapct4 := hapct4.mono hle9
            replace hfct4 := hle9 _ _ hfct4
            have hcsl7 := (h).cut (some (3)) none
            have hlsl7 := hcsl7.len
            have hapct5 := (hapct4).app hcsl7
            refine x_catD S 3 (by exact rfl) hfct4 hfsl7 (by first | exact cut_cutF hxl | exact cut_cut3 hxl | exact cut_one hxl | exact cut_two hxl | exact one_cut hxl | exact cut_cut hxl | exact cut_cutT hxl) (fun ct5 T13 H gr9 hle9 hfct5 S => ?_)
            simp only [List.set_cons_zero, List.set_cons_succ, List.take_succ_cons, List.take_zero, List.eraseIdx_cons_zero, List.eraseIdx_cons_succ, List.cons_append, List.nil_append] at S
            replace gr := gr.trans gr9
            replace hma := hle9 _ _ hma
            replace h := h.mono hle9
            replace hfsl6 := hle9 _ _ hfsl6
            replace hcsl6 := hcsl6.mono hle9
            replace hd1 := hd1.mono hle9
            replace hd2 := hd2.mono hle9
            replace hfU1 := hle9 _ _ hfU1
            replace hapct4 := hapct4.mono hle9
            replace hfct4 := hle9 _ _ hfct4
            replace hfsl7 := hle9 _ _ hfsl7
            replace hcsl7 := hcsl7.mono hle9
            replace hapct5 := hapct5.mono hle9
            have hlct5 := hapct5.len
            exact k _ _ _ _ _ _ _ _ (FrS.of (((LQ.cut hfl).app (LQ.two (hqd1) (hqd2))).app (LQ.cut hfl))) (DH.tup hfct5 hapct5) gr hd (S.subT 3 [0, 1, 2])
          · try dsimp only [tMethS1, tMethKS1, WE, tSeq, tAsg, gName, tOp, tUn, tCB, tCons, tNil, tCall, tMethK1, tCallK1, tPar3, tRet, tRetN, tDrop, tTest, tB, tC, tNext, tAugS, tAug, sFld1, sFldAug1, tMeth1, tMake, tMakeK1, tSl, tPart, tNoPart, sDPut1, tDPop, tBM, tBM0, tPar, gSub, tChain, tNot, tNotV, tDG1, tDG2, tDNewT1, iKeys1, iEnum1, iList1, iTup1, iRng1, iRng2, List.set_cons_zero, List.set_cons_succ]
            refine x_if ?_
            try dsimp only [tMethS1, tMethKS1, WE, tSeq, tAsg, gName, tOp, tUn, tCB, tCons, tNil, tCall, tMethK1, tCallK1, tPar3, tRet, tRetN, tDrop, tTest, tB, tC, tNext, tAugS, tAug, sFld1, sFldAug1, tMeth1, tMake, tMakeK1, tSl, tPart, tNoPart, sDPut1, tDPop, tBM, tBM0, tPar, gSub, tChain, tNot, tNotV, tDG1, tDG2, tDNewT1, iKeys1, iEnum1, iList1, iTup1, iRng1, iRng2, List.set_cons_zero, List.set_cons_succ]
            refine x_var (by exact rfl) ?_
            refine x_eq ?_
            refine ⟨_, rfl, ?_⟩
            refine iteq (fun c5 => ?_) (fun c5 => ?_)
            · try dsimp only [tMethS1, tMethKS1, WE, tSeq, tAsg, gName, tOp, tUn, tCB, tCons, tNil, tCall, tMethK1, tCallK1, tPar3, tRet, tRetN, tDrop, tTest, tB, tC, tNext, tAugS, tAug, sFld1, sFldAug1, tMeth1, tMake, tMakeK1, tSl, tPart, tNoPart, sDPut1, tDPop, tBM, tBM0, tPar, gSub, tChain, tNot, tNotV, tDG1, tDG2, tDNewT1, iKeys1, iEnum1, iList1, iTup1, iRng1, iRng2, List.set_cons_zero, List.set_cons_succ]
              refine x_var (by exact rfl) ?_
              refine c_kindsT S 3 (by exact rfl) (fun kd ka0 ka1 ka2 ka3 ka4 ka5 ka6 ka7 T14 H gr9 hle9 hkc S => ?_)
              simp only [List.set_cons_zero, List.set_cons_succ, List.take_succ_cons, List.take_zero, List.eraseIdx_cons_zero, List.eraseIdx_cons_succ, List.cons_append, List.nil_append] at S
              replace gr := gr.trans gr9
              replace hma := hle9 _ _ hma
              replace h := h.mono hle9
              have hkd := hkc _ (show (2, kd, HO.dK (kindKV ka0 ka1 ka2 ka3 ka4 ka5 ka6 ka7)) ∈ _ from List.mem_cons_self)
              refine x_listDK S ((S.tl (T := T14) fun c h => List.mem_cons_of_mem _ (List.mem_cons_of_mem _ (List.mem_cons_of_mem _ (h)))) _ _ hkd) (fun l1 H S => ?_)
              replace S : Sep H0 [dp, dg] H ((2, l1, .lst (KNL.map V.str)) :: _) := S
              refine x_sortedS S 0 (by exact rfl) (by decide) (fun ks9 so1 H hpm S => ?_)
              refine c_pick (fun v => ∃ t ∈ KNL, v = .str t) S 2 3 4 (by exact rfl) (by exact rfl) (by exact rfl) hd (SomeV.lst S 0 2 3 (by exact rfl) (by exact rfl) (by exact rfl) (by rw [List.length_map, hpm.length_eq]; decide) (by rw [List.length_map, hpm.length_eq]; decide) (fun v hv => by obtain ⟨s, hs, rfl⟩ := List.mem_map.mp hv; exact ⟨s, hpm.mem_iff.mp hs, rfl⟩)) (fun pk1 dr dt dm gs H hpk1 hd S => ?_)
              simp only [List.set_cons_zero, List.set_cons_succ] at S
              obtain ⟨kk, hkk, rfl⟩ := hpk1
              obtain ⟨ss, hso⟩ := KNL_so hkk
              refine x_tup S (by exact Nat.le_of_ble_eq_true rfl) (fun U2 H S => ?_)
              obtain ⟨T15, gr9, hle9, hfU2, S⟩ := S.freeze 6 0 rfl (by decide) rfl
              simp only [List.set_cons_zero, List.set_cons_succ, List.take_succ_cons, List.take_zero, List.eraseIdx_cons_zero, List.eraseIdx_cons_succ, List.cons_append, List.nil_append] at S
              replace gr := gr.trans gr9
              replace hma := hle9 _ _ hma
              replace h := h.mono hle9
              replace hkd := hle9 _ _ hkd
              replace hkc := fun u m => hle9 _ _ (hkc u m)
              refine x_var (by exact rfl) ?_
              refine ⟨_, rfl, ?_⟩
              refine x_slD S 5 (by exact rfl) hma (fun sl8 T16 H gr9 hle9 hfsl8 S => ?_)
              simp only [List.set_cons_zero, List.set_cons_succ, List.take_succ_cons, List.take_zero, List.eraseIdx_cons_zero, List.eraseIdx_cons_succ, List.cons_append, List.nil_append] at S
              replace gr := gr.trans gr9
              replace hma := hle9 _ _ hma
              replace h := h.mono hle9
              replace hkd := hle9 _ _ hkd
              replace hkc := fun u m => hle9 _ _ (hkc u m)
              replace hfU2 := hle9 _ _ hfU2
              have hcsl8 := (h).cut (some (1)) none
              have hlsl8 := hcsl8.len
              have hapct6 := ((DHs.cons (DH.str kk (Nat.le_trans (KNL_len hkk) (by decide))) DHs.nil)).app hcsl8
              refine x_catD S 5 (by exact rfl) hfU2 hfsl8 (by first | exact cut_cutF hxl | exact cut_cut3 hxl | exact cut_one hxl | exact cut_two hxl | exact one_cut hxl | exact cut_cut hxl | exact cut_cutT hxl) (fun ct6 T17 H gr9 hle9 hfct6 S => ?_)
              simp only [List.set_cons_zero, List.set_cons_succ, List.take_succ_cons, List.take_zero, List.eraseIdx_cons_zero, List.eraseIdx_cons_succ, List.cons_append, List.nil_append] at S
              replace gr := gr.trans gr9
              replace hma := hle9 _ _ hma
              replace h := h.mono hle9
              replace hkd := hle9 _ _ hkd
              replace hkc := fun u m => hle9 _ _ (hkc u m)
              replace hfU2 := hle9 _ _ hfU2
              replace hfsl8 := hle9 _ _ hfsl8
              replace hcsl8 := hcsl8.mono hle9
              replace hapct6 := hapct6.mono hle9
              have hlct6 := hapct6.len
              exact k _ _ _ _ _ _ _ _ (FrS.of ((LQ.one (d := .str kk) (okQ_c (KNL_len hkk))).app (LQ.cut hfl))) (DH.tup hfct6 hapct6) gr hd (S.subT 5 [2, 3, 4])
            · try dsimp only [tMethS1, tMethKS1, WE, tSeq, tAsg, gName, tOp, tUn, tCB, tCons, tNil, tCall, tMethK1, tCallK1, tPar3, tRet, tRetN, tDrop, tTest, tB, tC, tNext, tAugS, tAug, sFld1, sFldAug1, tMeth1, tMake, tMakeK1, tSl, tPart, tNoPart, sDPut1, tDPop, tBM, tBM0, tPar, gSub, tChain, tNot, tNotV, tDG1, tDG2, tDNewT1, iKeys1, iEnum1, iList1, iTup1, iRng1, iRng2, List.set_cons_zero, List.set_cons_succ]
              refine x_var (by exact rfl) ?_
              refine x_var (by exact rfl) ?_
              refine ⟨_, rfl, ?_⟩
              refine x_slD S 3 (by exact rfl) hma (fun sl9 T18 H gr9 hle9 hfsl9 S => ?_)
              simp only [List.set_cons_zero, List.set_cons_succ, List.take_succ_cons, List.take_zero, List.eraseIdx_cons_zero, List.eraseIdx_cons_succ, List.cons_append, List.nil_append] at S
              replace gr := gr.trans gr9
              replace hma := hle9 _ _ hma
              replace h := h.mono hle9
              have hcsl9 := (h).cut none (some (v2))
              have hlsl9 := hcsl9.len
              refine x_var (by exact rfl) ?_
              refine x_var (by exact rfl) ?_
              refine x_var (by exact rfl) ?_
              refine x_ixAT (.of ((S.tl (T := T18) fun c h => List.mem_cons_of_mem _ (List.mem_cons_of_mem _ (List.mem_cons_of_mem _ (h)))) _ _ hma)) (by omega) (by omega) (fun x3 hcx3 => ?_)
              obtain ⟨d3, hid3, hd3⟩ := (h).get hcx3
              have hqd3 := hfl.2 _ (List.mem_of_getElem? hid3)
              refine c_dat (okQ (n + 1)) S 3 0 1 2 (by exact rfl) (by exact rfl) (by exact rfl) (by exact rfl) hd (⟨_, _, n, rfl, hd3, hqd3, hn1, rfl⟩) (fun v3 d4 T19 dr dt dm gs H hRd4 hd4 gr9 hle9 hd S => ?_)
              simp only [List.set_cons_zero, List.set_cons_succ, List.take_succ_cons, List.take_zero, List.eraseIdx_cons_zero, List.eraseIdx_cons_succ, List.cons_append, List.nil_append] at S
              replace gr := gr.trans gr9
              replace hma := hle9 _ _ hma
              replace h := h.mono hle9
              replace hfsl9 := hle9 _ _ hfsl9
              replace hcsl9 := hcsl9.mono hle9
              replace hd3 := hd3.mono hle9
              refine x_tup S (by exact Nat.le_of_ble_eq_true rfl) (fun U3 H S => ?_)
              obtain ⟨T20, gr9, hle9, hfU3, S⟩ := S.freeze 4 0 rfl (by decide) rfl
              simp only [List.set_cons_zero, List.set_cons_succ, List.take_succ_cons, List.take_zero, List.eraseIdx_cons_zero, List.eraseIdx_cons_succ, List.cons_append, List.nil_append] at S
              replace gr := gr.trans gr9
              replace hma := hle9 _ _ hma
              replace h := h.mono hle9
              replace hfsl9 := hle9 _ _ hfsl9
              replace hcsl9 := hcsl9.mono hle9
              replace hd3 := hd3.mono hle9
              replace hd4 := hd4.mono hle9
              have hapct7 := (hcsl9).app (DHs.cons hd4 DHs.nil)
              refine x_catD S 3 (by exact rfl) hfsl9 hfU3 (by first | exact cut_cutF hxl | exact cut_cut3 hxl | exact cut_one hxl | exact cut_two hxl | exact one_cut hxl | exact cut_cut hxl | exact cut_cutT hxl) (fun ct7 T21 H gr9 hle9 hfct7 S => ?_)
              simp only [List.set_cons_zero, List.set_cons_succ, List.take_succ_cons, List.take_zero, List.eraseIdx_cons_zero, List.eraseIdx_cons_succ, List.cons_append, List.nil_append] at S
              replace gr := gr.trans gr9
              replace hma := hle9 _ _ hma
              replace h := h.mono hle9
              replace hfsl9 := hle9 _ _ hfsl9
              replace hcsl9 := hcsl9.mono hle9
              replace hd3 := hd3.mono hle9
              replace hd4 := hd4.mono hle9
              replace hfU3 := hle9 _ _ hfU3
              replace hapct7 := hapct7.mono hle9
              have hlct7 := hapct7.len
              refine x_var (by exact rfl) ?_
              refine x_var (by exact rfl) ?_
              refine x_I0 ?_
              refine ⟨_, rfl, ?_⟩
              refine x_slD S 3 (by exact rfl) hma (fun sl10 T22 H gr9 hle9 hfsl10 S => ?_)
              simp only [List.set_cons_zero, List.set_cons_succ, List.take_succ_cons, List.take_zero, List.eraseIdx_cons_zero, List.eraseIdx_cons_succ, List.cons_append, List.nil_append] at S
              replace gr := gr.trans gr9
              replace hma := hle9 _ _ hma
              replace h := h.mono hle9
              replace hfsl9 := hle9 _ _ hfsl9
              replace hcsl9 := hcsl9.mono hle9
              replace hd3 := hd3.mono hle9
              replace hd4 := hd4.mono hle9
              replace hfU3 := hle9 _ _ hfU3
              replace hapct7 := hapct7.mono hle9
              replace hfct7 := hle9 _ _ hfct7
              have hcsl10 := (h).cut (some (v2 + 1)) none
              have hlsl10 := hcsl10.len
              have hapct8 := (hapct7).app hcsl10
              refine x_catD S 3 (by exact rfl) hfct7 hfsl10 (by first | exact cut_cutF hxl | exact cut_cut3 hxl | exact cut_one hxl | exact cut_two hxl | exact one_cut hxl | exact cut_cut hxl | exact cut_cutT hxl) (fun ct8 T23 H gr9 hle9 hfct8 S => ?_)
              simp only [List.set_cons_zero, List.set_cons_succ, List.take_succ_cons, List.take_zero, List.eraseIdx_cons_zero, List.eraseIdx_cons_succ, List.cons_append, List.nil_append] at S
              replace gr := gr.trans gr9
              replace hma := hle9 _ _ hma
              replace h := h.mono hle9
              replace hfsl9 := hle9 _ _ hfsl9
              replace hcsl9 := hcsl9.mono hle9
              replace hd3 := hd3.mono hle9
              replace hd4 := hd4.mono hle9
              replace hfU3 := hle9 _ _ hfU3
              replace hapct7 := hapct7.mono hle9
              replace hfct7 := hle9 _ _ hfct7
              replace hfsl10 := hle9 _ _ hfsl10
              replace hcsl10 := hcsl10.mono hle9
              replace hapct8 := hapct8.mono hle9
              have hlct8 := hapct8.len
              exact k _ _ _ _ _ _ _ _ (FrS.of (((LQ.cut hfl).app (LQ.one hRd4)).app (LQ.cut hfl))) (DH.tup hfct8 hapct8) gr hd (S.subT 3 [0, 1, 2])
        · refine iteF ?_
          try dsimp only [tMethS1, tMethKS1, WE, tSeq, tAsg, gName, tOp, tUn, tCB, tCons, tNil, tCall, tMethK1, tCallK1, tPar3, tRet, tRetN, tDrop, tTest, tB, tC, tNext, tAugS, tAug, sFld1, sFldAug1, tMeth1, tMake, tMakeK1, tSl, tPart, tNoPart, sDPut1, tDPop, tBM, tBM0, tPar, gSub, tChain, tNot, tNotV, tDG1, tDG2, tDNewT1, iKeys1, iEnum1, iList1, iTup1, iRng1, iRng2, List.set_cons_zero, List.set_cons_succ]
          refine x_if ?_
          try dsimp only [tMethS1, tMethKS1, WE, tSeq, tAsg, gName, tOp, tUn, tCB, tCons, tNil, tCall, tMethK1, tCallK1, tPar3, tRet, tRetN, tDrop, tTest, tB, tC, tNext, tAugS, tAug, sFld1, sFldAug1, tMeth1, tMake, tMakeK1, tSl, tPart, tNoPart, sDPut1, tDPop, tBM, tBM0, tPar, gSub, tChain, tNot, tNotV, tDG1, tDG2, tDNewT1, iKeys1, iEnum1, iList1, iTup1, iRng1, iRng2, List.set_cons_zero, List.set_cons_succ]
          refine x_var (by exact rfl) ?_
          refine x_eq ?_
          refine ⟨_, rfl, ?_⟩
          refine iteq (fun c6 => ?_) (fun c6 => ?_)
          · try dsimp only [tMethS1, tMethKS1, WE, tSeq, tAsg, gName, tOp, tUn, tCB, tCons, tNil, tCall, tMethK1, tCallK1, tPar3, tRet, tRetN, tDrop, tTest, tB, tC, tNext, tAugS, tAug, sFld1, sFldAug1, tMeth1, tMake, tMakeK1, tSl, tPart, tNoPart, sDPut1, tDPop, tBM, tBM0, tPar, gSub, tChain, tNot, tNotV, tDG1, tDG2, tDNewT1, iKeys1, iEnum1, iList1, iTup1, iRng1, iRng2, List.set_cons_zero, List.set_cons_succ]
            refine x_var (by exact rfl) ?_
            refine c_kindsT S 3 (by exact rfl) (fun kd ka0 ka1 ka2 ka3 ka4 ka5 ka6 ka7 T24 H gr9 hle9 hkc S => ?_)
            simp only [List.set_cons_zero, List.set_cons_succ, List.take_succ_cons, List.take_zero, List.eraseIdx_cons_zero, List.eraseIdx_cons_succ, List.cons_append, List.nil_append] at S
            replace gr := gr.trans gr9
            replace hma := hle9 _ _ hma
            replace h := h.mono hle9
            have hkd := hkc _ (show (2, kd, HO.dK (kindKV ka0 ka1 ka2 ka3 ka4 ka5 ka6 ka7)) ∈ _ from List.mem_cons_self)
            refine x_listDK S ((S.tl (T := T24) fun c h => List.mem_cons_of_mem _ (List.mem_cons_of_mem _ (List.mem_cons_of_mem _ (h)))) _ _ hkd) (fun l2 H S => ?_)
            replace S : Sep H0 [dp, dg] H ((2, l2, .lst (KNL.map V.str)) :: _) := S
            refine x_sortedS S 0 (by exact rfl) (by decide) (fun ks9 so2 H hpm S => ?_)
            refine c_pick (fun v => ∃ t ∈ KNL, v = .str t) S 2 3 4 (by exact rfl) (by exact rfl) (by exact rfl) hd (SomeV.lst S 0 2 3 (by exact rfl) (by exact rfl) (by exact rfl) (by rw [List.length_map, hpm.length_eq]; decide) (by rw [List.length_map, hpm.length_eq]; decide) (fun v hv => by obtain ⟨s, hs, rfl⟩ := List.mem_map.mp hv; exact ⟨s, hpm.mem_iff.mp hs, rfl⟩)) (fun pk2 dr dt dm gs H hpk2 hd S => ?_)
            simp only [List.set_cons_zero, List.set_cons_succ] at S
            obtain ⟨kk, hkk, rfl⟩ := hpk2
            obtain ⟨ss, hso⟩ := KNL_so hkk
            refine x_tup S (by exact Nat.le_of_ble_eq_true rfl) (fun U4 H S => ?_)
            obtain ⟨T25, gr9, hle9, hfU4, S⟩ := S.freeze 6 0 rfl (by decide) rfl
            simp only [List.set_cons_zero, List.set_cons_succ, List.take_succ_cons, List.take_zero, List.eraseIdx_cons_zero, List.eraseIdx_cons_succ, List.cons_append, List.nil_append] at S
            replace gr := gr.trans gr9
            replace hma := hle9 _ _ hma
            replace h := h.mono hle9
            replace hkd := hle9 _ _ hkd
            replace hkc := fun u m => hle9 _ _ (hkc u m)
            refine x_var (by exact rfl) ?_
            refine ⟨_, rfl, ?_⟩
            refine x_slD S 5 (by exact rfl) hma (fun sl11 T26 H gr9 hle9 hfsl11 S => ?_)
            simp only [List.set_cons_zero, List.set_cons_succ, List.take_succ_cons, List.take_zero, List.eraseIdx_cons_zero, List.eraseIdx_cons_succ, List.cons_append, List.nil_append] at S
            replace gr := gr.trans gr9
            replace hma := hle9 _ _ hma
            replace h := h.mono hle9
            replace hkd := hle9 _ _ hkd
            replace hkc := fun u m => hle9 _ _ (hkc u m)
            replace hfU4 := hle9 _ _ hfU4
            have hcsl11 := (h).cut (some (1)) none
            have hlsl11 := hcsl11.len
            have hapct9 := ((DHs.cons (DH.str kk (Nat.le_trans (KNL_len hkk) (by decide))) DHs.nil)).app hcsl11
            refine x_catD S 5 (by exact rfl) hfU4 hfsl11 (by first | exact cut_cutF hxl | exact cut_cut3 hxl | exact cut_one hxl | exact cut_two hxl | exact one_cut hxl | exact cut_cut hxl | exact cut_cutT hxl) (fun ct9 T27 H gr9 hle9 hfct9 S => ?_)
            simp only [List.set_cons_zero, List.set_cons_succ, List.take_succ_cons, List.take_zero, List.eraseIdx_cons_zero, List.eraseIdx_cons_succ, List.cons_append, List.nil_append] at S
            replace gr := gr.trans gr9
            replace hma := hle9 _ _ hma
            replace h := h.mono hle9
            replace hkd := hle9 _ _ hkd
            replace hkc := fun u m => hle9 _ _ (hkc u m)
            replace hfU4 := hle9 _ _ hfU4
            replace hfsl11 := hle9 _ _ hfsl11
            replace hcsl11 := hcsl11.mono hle9
            replace hapct9 := hapct9.mono hle9
            have hlct9 := hapct9.len
            exact k _ _ _ _ _ _ _ _ (FrS.of ((LQ.one (d := .str kk) (okQ_c (KNL_len hkk))).app (LQ.cut hfl))) (DH.tup hfct9 hapct9) gr hd (S.subT 5 [2, 3, 4])
          · try dsimp only [tMethS1, tMethKS1, WE, tSeq, tAsg, gName, tOp, tUn, tCB, tCons, tNil, tCall, tMethK1, tCallK1, tPar3, tRet, tRetN, tDrop, tTest, tB, tC, tNext, tAugS, tAug, sFld1, sFldAug1, tMeth1, tMake, tMakeK1, tSl, tPart, tNoPart, sDPut1, tDPop, tBM, tBM0, tPar, gSub, tChain, tNot, tNotV, tDG1, tDG2, tDNewT1, iKeys1, iEnum1, iList1, iTup1, iRng1, iRng2, List.set_cons_zero, List.set_cons_succ]
            refine x_var (by exact rfl) ?_
            refine x_var (by exact rfl) ?_
            refine ⟨_, rfl, ?_⟩
            refine x_slD S 3 (by exact rfl) hma (fun sl12 T28 H gr9 hle9 hfsl12 S => ?_)
            simp only [List.set_cons_zero, List.set_cons_succ, List.take_succ_cons, List.take_zero, List.eraseIdx_cons_zero, List.eraseIdx_cons_succ, List.cons_append, List.nil_append] at S
            replace gr := gr.trans gr9
            replace hma := hle9 _ _ hma
            replace h := h.mono hle9
            have hcsl12 := (h).cut none (some (v2))
            have hlsl12 := hcsl12.len
            refine x_var (by exact rfl) ?_
            refine x_var (by exact rfl) ?_
            refine x_var (by exact rfl) ?_
            refine x_ixAT (.of ((S.tl (T := T28) fun c h => List.mem_cons_of_mem _ (List.mem_cons_of_mem _ (List.mem_cons_of_mem _ (h)))) _ _ hma)) (by omega) (by omega) (fun x4 hcx4 => ?_)
            obtain ⟨d5, hid5, hd5⟩ := (h).get hcx4
            have hqd5 := hfl.2 _ (List.mem_of_getElem? hid5)
            refine c_dat (okQ (n + 1)) S 3 0 1 2 (by exact rfl) (by exact rfl) (by exact rfl) (by exact rfl) hd (⟨_, _, n, rfl, hd5, hqd5, hn1, rfl⟩) (fun v4 d6 T29 dr dt dm gs H hRd6 hd6 gr9 hle9 hd S => ?_)
            simp only [List.set_cons_zero, List.set_cons_succ, List.take_succ_cons, List.take_zero, List.eraseIdx_cons_zero, List.eraseIdx_cons_succ, List.cons_append, List.nil_append] at S
            replace gr := gr.trans gr9
            replace hma := hle9 _ _ hma
            replace h := h.mono hle9
            replace hfsl12 := hle9 _ _ hfsl12
            replace hcsl12 := hcsl12.mono hle9
            replace hd5 := hd5.mono hle9
            refine x_tup S (by exact Nat.le_of_ble_eq_true rfl) (fun U5 H S => ?_)
            obtain ⟨T30, gr9, hle9, hfU5, S⟩ := S.freeze 4 0 rfl (by decide) rfl
            simp only [List.set_cons_zero, List.set_cons_succ, List.take_succ_cons, List.take_zero, List.eraseIdx_cons_zero, List.eraseIdx_cons_succ, List.cons_append, List.nil_append] at S
            replace gr := gr.trans gr9
            replace hma := hle9 _ _ hma
            replace h := h.mono hle9
            replace hfsl12 := hle9 _ _ hfsl12
            replace hcsl12 := hcsl12.mono hle9
            replace hd5 := hd5.mono hle9
            replace hd6 := hd6.mono hle9
            have hapct10 := (hcsl12).app (DHs.cons hd6 DHs.nil)
            refine x_catD S 3 (by exact rfl) hfsl12 hfU5 (by first | exact cut_cutF hxl | exact cut_cut3 hxl | exact cut_one hxl | exact cut_two hxl | exact one_cut hxl | exact cut_cut hxl | exact cut_cutT hxl) (fun ct10 T31 H gr9 hle9 hfct10 S => ?_)
            simp only [List.set_cons_zero, List.set_cons_succ, List.take_succ_cons, List.take_zero, List.eraseIdx_cons_zero, List.eraseIdx_cons_succ, List.cons_append, List.nil_append] at S
            replace gr := gr.trans gr9
            replace hma := hle9 _ _ hma
            replace h := h.mono hle9
            replace hfsl12 := hle9 _ _ hfsl12
            replace hcsl12 := hcsl12.mono hle9
            replace hd5 := hd5.mono hle9
            replace hd6 := hd6.mono hle9
            replace hfU5 := hle9 _ _ hfU5
            replace hapct10 := hapct10.mono hle9
            have hlct10 := hapct10.len
            refine x_var (by exact rfl) ?_
            refine x_var (by exact rfl) ?_
            refine x_I0 ?_
            refine ⟨_, rfl, ?_⟩
            refine x_slD S 3 (by exact rfl) hma (fun sl13 T32 H gr9 hle9 hfsl13 S => ?_)
            simp only [List.set_cons_zero, List.set_cons_succ, List.take_succ_cons, List.take_zero, List.eraseIdx_cons_zero, List.eraseIdx_cons_succ, List.cons_append, List.nil_append] at S
            replace gr := gr.trans gr9
            replace hma := hle9 _ _ hma
            replace h := h.mono hle9
            replace hfsl12 := hle9 _ _ hfsl12
            replace hcsl12 := hcsl12.mono hle9
            replace hd5 := hd5.mono hle9
            replace hd6 := hd6.mono hle9
            replace hfU5 := hle9 _ _ hfU5
            replace hapct10 := hapct10.mono hle9
            replace hfct10 := hle9 _ _ hfct10
            have hcsl13 := (h).cut (some (v2 + 1)) none
            have hlsl13 := hcsl13.len
            have hapct11 := (hapct10).app hcsl13
            refine x_catD S 3 (by exact rfl) hfct10 hfsl13 (by first | exact cut_cutF hxl | exact cut_cut3 hxl | exact cut_one hxl | exact cut_two hxl | exact one_cut hxl | exact cut_cut hxl | exact cut_cutT hxl) (fun ct11 T33 H gr9 hle9 hfct11 S => ?_)
            simp only [List.set_cons_zero, List.set_cons_succ, List.take_succ_cons, List.take_zero, List.eraseIdx_cons_zero, List.eraseIdx_cons_succ, List.cons_append, List.nil_append] at S
            replace gr := gr.trans gr9
            replace hma := hle9 _ _ hma
            replace h := h.mono hle9
            replace hfsl12 := hle9 _ _ hfsl12
            replace hcsl12 := hcsl12.mono hle9
            replace hd5 := hd5.mono hle9
            replace hd6 := hd6.mono hle9
            replace hfU5 := hle9 _ _ hfU5
            replace hapct10 := hapct10.mono hle9
            replace hfct10 := hle9 _ _ hfct10
            replace hfsl13 := hle9 _ _ hfsl13
            replace hcsl13 := hcsl13.mono hle9
            replace hapct11 := hapct11.mono hle9
            have hlct11 := hapct11.len
            exact k _ _ _ _ _ _ _ _ (FrS.of (((LQ.cut hfl).app (LQ.one hRd6)).app (LQ.cut hfl))) (DH.tup hfct11 hapct11) gr hd (S.subT 3 [0, 1, 2])
end
end G

set_option linter.all false
set_option maxRecDepth 100000
set_option maxHeartbeats 4000000
namespace G
open PySem PySem.Spec PyProof.Rows L2

def spLaw (K : PySem.W.Frag) : Sp := fun vs H Q _ => ∃ (a : Addr) (ns : List Int), vs = [.ref a] ∧ SqL K H a (ns.map V.int) ∧ ns.length ≤ 63 ∧ ∀ H', Q (.bl true) H'
theorem x_slScript {K : PySem.W.Frag} {H0 H : Hp} {ft : List Addr} {l : List Cell} {p : Addr} {Q : VK} {ns : List Int} {lo hi : Option Int} (S : Sep H0 ft H l) (h : SqL K H p (ns.map V.int)) (q : ∀ r H', Sep H0 ft H' ((2, r, .lst ((cutI ns lo hi).map V.int)) :: l) → Q (.ref r) H') : rSlL K (.ref p) lo hi H Q :=
  ⟨p, _, rfl, h, by rw [cutV_map]; exact x_new S _ q⟩
theorem cut2_len {ns : List Int} {a b c d : Option Int} (h : ns.length ≤ 63) : (cutI ns a b).length + (cutI ns c d).length ≤ 100000 := by
  have := len_cutI ns a b
  have := len_cutI ns c d
  omega
theorem cut2_app {ns : List Int} {a b c d : Option Int} (h : ns.length ≤ 63) : (cutI ns a b ++ cutI ns c d).length ≤ 1000 := by
  have := len_cutI ns a b
  have := len_cutI ns c d
  rw [List.length_append]; omega
theorem three_new {a b c : Addr} {o u w : HO} : ∀ x ∈ ([(2, a, o), (2, b, u), (2, c, w)] : List Cell), x.1 = 2 := by
  intro x hx
  simp only [List.mem_cons, List.not_mem_nil, or_false] at hx
  rcases hx with rfl | rfl | rfl <;> rfl
theorem frs0 {d : PyData} (h : FrameD d) : FrS 0 d := by
  cases h with
  | mk hk hso hx hy hne hp =>
    refine ⟨_, rfl, ?_, ?_⟩
    · have := Paired.length hp
      have := sorts_len hso
      simp only [List.length_cons]
      show _ ≤ 100
      omega
    · have hall : ∀ {ss : List Str} {ds : List PyData}, Paired PartD ss ds → ∀ e ∈ ds, okQ 0 e := by
        intro ss ds h
        induction h with
        | nil => exact fun e h => nomatch h
        | cons a _ ih =>
          intro e he
          rcases List.mem_cons.mp he with r | r
          · rw [r]
            rcases a.2 with ⟨t, e2, hl⟩ | ⟨i, e2, hl⟩
            · rw [e2]; exact Nat.le_trans hl (by decide)
            · rw [e2]; exact Nat.lt_of_lt_of_le hl (Nat.le_add_right _ 1)
          · exact ih e r
      intro e he
      rcases List.mem_cons.mp he with r | he
      · rw [r]; exact KNL_len hk
      rcases List.mem_cons.mp he with r | he
      · rw [r]; exact Nat.le_trans hx.l8 (by decide)
      rcases List.mem_cons.mp he with r | he
      · rw [r]; exact Nat.le_trans hy.l8 (by decide)
      exact hall hp e he
theorem FrL.mono {n : Nat} {ds : List PyData} (h : FrL n ds) : FrL (n + 1) ds := ⟨by have := h.1; show _ ≤ 3 * bF n; omega, fun e he => okQ_mono (h.2 e he)⟩
theorem frame_cut1 {ds : List PyData} : isFrame (.tuple (cutI ds none (some 1))) = false := by
  have h : (cutI ds none (some 1)).length ≤ 1 := by
    have e : HT.sIx ds.length ds.length (some 1) ≤ 1 := by
      have := HT.sIx_nat ds.length ds.length 1
      have e1 : ((1 : Nat) : Int) = 1 := rfl
      rw [e1] at this
      omega
    unfold cutI
    rw [List.length_take]
    omega
  match cutI ds none (some 1), h with
  | [], _ => rfl
  | [a], _ => cases a <;> rfl
section
variable {P : Program} {w : World} {K : PySem.W.Frag} {mg : Str → Option Value} {base : Heap}
abbrev s_law : Stmt := (topS 24)
theorem sc_law : FnScope ["_law_script", "_law_k", "_law_draw", "_law_spoils", "_law_matter", "_law_turn", "_law_found", "_law_part_here", "_law_some", "_law_other"] ["_law_script"] (defScope s_law) := ⟨rfl, rfl, rfl, by decide +kernel, rfl, by decide +kernel, by decide +kernel⟩
theorem ok_law {f : Addr} {fd : FuncData} (F : L2.Fun K "law" "law" s_law f fd) (cbegun : Cal P w K mg base CX0 1 "_law_begun" (spBegun K)) (ctake : Cal P w K mg base CX0 1 "_law_take" spLTake) (cpick : Cal P w K mg base CX0 2 "_law_pick" (spPick K)) (cframe : Cal P w K mg base CX0 5 "_law_frame" spFrameD) (cspoilt : Cal P w K mg base CX0 4 "_law_spoilt" spSpoilF) (cisFK : CalK P w K mg base CX0 3 "is_frame" ["thing"] [0] (spPure isFrame)) (cisF : Cal P w K mg base CX0 3 "is_frame" (spPure isFrame)) (clisF : Cal P w K mg base CX0 3 "_law_is_frame" (spPure isFrame)) (cisNK : CalK P w K mg base CX0 1 "is_name" ["thing"] [0] (spPure isName)) (cisN : Cal P w K mg base CX0 1 "is_name" (spPure isName)) (clisN : Cal P w K mg base CX0 1 "_law_is_name" (spPure isName)) (z_range : mg "range" = none) (z_isinstance : mg "isinstance" = none) (z_bool : mg "bool" = none) (z_len : mg "len" = none) (z_max : mg "max" = none) (z_min : mg "min" = none) (z_list : mg "list" = none) (z_repr : mg "repr" = none) : FnOk P w K mg base CX0 6 f fd ["_law_script"] (spLaw K) := by
  refine F.ok sc_law (fun vs H Q E h => ?_) (fun cdv A outer s H0 vs Q E hr h => ?_)
  · obtain ⟨a, ns, rfl, hs, hl, k⟩ := h
    rfl
  · obtain ⟨a, ns, rfl, hs, hl, k⟩ := h
    have hu := hu_of hr
    have S := Sep.of0 (H := H0)
    refine ⟨_, pss_cons (ps_for PassesOwn.never rfl (pi_range1 (by rfl) z_range (pa_cons (pe_callB (cl_max rfl) (by rfl) z_max (by decide +kernel) (pa_cons (pe_int) (pa_cons (pe_callB (cl_min rfl) (by rfl) z_min (by decide +kernel) (pa_cons (pe_int) (pa_cons (pe_callB (cl_lenK K) (by rfl) z_len PySem.boot_len (pa_cons (pv 0) pa_nil)) pa_nil))) pa_nil))) pa_nil)) (pg_name (i := 1) sc_law.nd rfl (.inl rfl)) (pss_cons (ps_set (i := 2) sc_law.nd rfl (.inl rfl) (pe_c cbegun hr (by decide) (by rfl) pass0 (pa_cons (pe_op op_cat (pe_slice (sl_listK K) (pv 0) (po_some (pv 1)) (po_none)) (pe_slice (sl_listK K) (pv 0) (po_none) (po_some (pv 1)))) pa_nil)))
      (pss_cons (ps_set (i := 3) sc_law.nd rfl (.inl rfl) (pe_c ctake hr (by decide) (by rfl) pass0 (pa_cons (pv 2) (pa_cons (pe_int) pa_nil))))
      (pss_cons (ps_set (i := 4) sc_law.nd rfl (.inl rfl) (pe_c cframe hr (by decide) (by rfl) pass0 (pa_cons (pv 2) pa_nil)))
      (pss_cons (ps_for PassesOwn.never rfl (pi_range1 (by rfl) z_range (pa_cons (pv 3) pa_nil)) (pg_name (i := 5) sc_law.nd rfl (.inl rfl)) (pss_one (ps_if (pt_cmpR op_gt (pe_callB (cl_lenX K) (by rfl) z_len PySem.boot_len (pa_cons (pv 4) pa_nil)) (pe_int) (nomark _)) (pss_one (ps_set (i := 4) sc_law.nd rfl (.inl rfl) (pe_c cspoilt hr (by decide) (by rfl) pass0 (pa_cons (pv 2) (pa_cons (pv 4) pa_nil))))) (pss_nil))))
      (pss_cons (ps_set (i := 6) sc_law.nd rfl (.inl rfl) (pe_ck cisFK hr (by decide) (by rfl) pass0 (pk_cons (pv 4) pk_nil)))
      (pss_cons (ps_if ((pw_or (pt_not (pt_val (pe_callB (cl_isiK K) (by rfl) z_isinstance (by decide +kernel) (pa_cons (pv 6) (pa_cons (pe_bltn (v := .ty "bool") (by rfl) z_bool (by decide +kernel) rfl) pa_nil))))) (pw_or1 (pt_cmpR op_ne (pv 6) (pe_c clisF hr (by decide) (by rfl) pass0 (pa_cons (pv 4) pa_nil)) (nomark _)))).pt) (pss_one (ps_never)) (pss_nil))
      (pss_cons (ps_for PassesOwn.never rfl (pi_tupK K (pv 4)) (pg_name (i := 7) sc_law.nd rfl (.inl rfl)) (pss_cons (ps_set (i := 6) sc_law.nd rfl (.inl rfl) (pe_ck cisNK hr (by decide) (by rfl) pass0 (pk_cons (pv 7) pk_nil)))
      (pss_one (ps_if ((pw_or (pt_not (pt_val (pe_callB (cl_isiK K) (by rfl) z_isinstance (by decide +kernel) (pa_cons (pv 6) (pa_cons (pe_bltn (v := .ty "bool") (by rfl) z_bool (by decide +kernel) rfl) pa_nil))))) (pw_or1 (pt_cmpR op_ne (pv 6) (pe_c clisN hr (by decide) (by rfl) pass0 (pa_cons (pv 7) pa_nil)) (nomark _)))).pt) (pss_one (ps_never)) (pss_nil)))))
      (pss_cons (ps_set (i := 8) sc_law.nd rfl (.inl rfl) (pe_lst1 (pa_cons (pe_non) (pa_cons (pe_int) (pa_cons (pe_bl) (pa_cons (pe_str) (pa_cons (pe_tup1 (pa_nil)) (pa_cons (pe_lst1 pa_nil) (pa_cons (pe_dnewK) (pa_cons (pe_callTy (cl_listK K) (by rfl) z_list (by decide +kernel) (pa_cons (pv 4) pa_nil)) (pa_cons (pe_disp (pps_cons pe_str (pv 4) pps_nil) rfl rfl (by simp) (by decide)) (pa_cons (pe_tup1 (pa_cons (pv 4) pa_nil)) (pa_cons (pe_slice (sl_tupAK K) (pv 4) (po_none) (po_some (pe_int))) pa_nil)))))))))))))
      (pss_cons (ps_set (i := 9) sc_law.nd rfl (.inl rfl) (pe_c cpick hr (by decide) (by rfl) pass0 (pa_cons (pv 2) (pa_cons (pv 8) pa_nil))))
      (pss_one (ps_if ((pw_or (pt_cmpR op_isnot_bl (pe_c cisF hr (by decide) (by rfl) pass0 (pa_cons (pv 9) pa_nil)) (pe_bl) (nomark _)) (pw_or1 (pt_cmpR op_ne (pe_callB cl_reprB (by rfl) z_repr (by decide +kernel) (pa_cons (pe_c cisN hr (by decide) (by rfl) pass0 (pa_cons (pv 9) pa_nil)) pa_nil)) (pe_callB cl_reprB (by rfl) z_repr (by decide +kernel) (pa_cons (pe_c clisN hr (by decide) (by rfl) pass0 (pa_cons (pv 9) pa_nil)) pa_nil)) (nomark _)))).pt) (pss_one (ps_never)) (pss_nil)))))))))))))
      (pss_one (ps_ret (pe_bl))), ?_⟩
    rw [show start ["_law_script", "_law_k", "_law_draw", "_law_spoils", "_law_matter", "_law_turn", "_law_found", "_law_part_here", "_law_some", "_law_other"] [V.ref a] = [some (V.ref a), none, none, none, none, none, none, none, none, none] from rfl]
    try dsimp only [tMethS1, tMethKS1, WE, tSeq, tAsg, gName, tOp, tUn, tCB, tCons, tNil, tCall, tMethK1, tCallK1, tPar3, tRet, tRetN, tDrop, tTest, tB, tC, tNext, tAugS, tAug, sFld1, sFldAug1, tMeth1, tMake, tMakeK1, tSl, tPart, tNoPart, sDPut1, tDPop, tBM, tBM0, tPar, gSub, tChain, tNot, tNotV, tDG1, tDG2, tDNewT1, iKeys1, iEnum1, iList1, iTup1, iRng1, iRng2, List.set_cons_zero, List.set_cons_succ]
    refine x_for ?_
    try dsimp only [tMethS1, tMethKS1, tOp, tUn, tCB, tCons, tNil, tCall, tMethK1, tCallK1, tC, tMeth1, tMake, tMakeK1, tSl, tPart, tNoPart, tDPop, tChain, tNotV, tBM, tBM0, tDG1, tDG2, tDNewT1, iKeys1, iEnum1, iList1, iTup1, iRng1, iRng2]
    refine x_var (by exact rfl) ?_
    refine x_lenS (S.sq hs (by simp)) ?_
    refine x_min ?_
    refine x_max ?_
    refine ⟨_, rfl, by omega, by omega, ?_⟩
    refine forR (fun i σ H1 => ∃ (o1 o2 o3 o4 o5 o6 o7 o8 o9 : Option V), σ = [some (.ref a), o1, o2, o3, o4, o5, o6, o7, o8, o9] ∧ Sep H0 [] H1 []) ?_ ?_ ?_
    · exact ⟨_, _, _, _, _, _, _, _, _, rfl, S⟩
    · rintro i σ H hi ⟨o1, o2, o3, o4, o5, o6, o7, o8, o9, rfl, S⟩
      try dsimp only [tMethS1, tMethKS1, WE, tSeq, tAsg, gName, tOp, tUn, tCB, tCons, tNil, tCall, tMethK1, tCallK1, tPar3, tRet, tRetN, tDrop, tTest, tB, tC, tNext, tAugS, tAug, sFld1, sFldAug1, tMeth1, tMake, tMakeK1, tSl, tPart, tNoPart, sDPut1, tDPop, tBM, tBM0, tPar, gSub, tChain, tNot, tNotV, tDG1, tDG2, tDNewT1, iKeys1, iEnum1, iList1, iTup1, iRng1, iRng2, List.set_cons_zero, List.set_cons_succ]
      try dsimp only [tMethS1, tMethKS1, WE, tSeq, tAsg, gName, tOp, tUn, tCB, tCons, tNil, tCall, tMethK1, tCallK1, tPar3, tRet, tRetN, tDrop, tTest, tB, tC, tNext, tAugS, tAug, sFld1, sFldAug1, tMeth1, tMake, tMakeK1, tSl, tPart, tNoPart, sDPut1, tDPop, tBM, tBM0, tPar, gSub, tChain, tNot, tNotV, tDG1, tDG2, tDNewT1, iKeys1, iEnum1, iList1, iTup1, iRng1, iRng2, List.set_cons_zero, List.set_cons_succ]
      refine x_var (by exact rfl) ?_
      refine x_var (by exact rfl) ?_
      refine ⟨_, rfl, ?_⟩
      refine x_slScript S (S.sq hs (by simp)) (fun sc1 H S => ?_)
      refine x_var (by exact rfl) ?_
      refine x_var (by exact rfl) ?_
      refine ⟨_, rfl, ?_⟩
      refine x_slScript S (S.sq hs (by simp)) (fun sc2 H S => ?_)
      refine x_catM V.int S 1 0 (by exact rfl) (by exact rfl) (cut2_len hl) (fun sc3 H S => ?_)
      refine ⟨_, _, rfl, S.sl 0 rfl, cut2_app hl, fun dp dg dc gs cs H hd S9 => ?_⟩
      have S := (S.callN S9 three_new).sub [0, 1, 2]
      obtain ⟨T, hT9⟩ : ∃ T : List Cell, T = [] := ⟨_, rfl⟩
      replace S : Sep H0 [] H ((2, dp, .dK (R_drw dg dc 0 0 7)) :: (2, dg, .lst (gs.map V.int)) :: (2, dc, .lst (cs.map V.int)) :: T) := by rw [hT9]; exact S
      have gr := Grow.refl T
      try dsimp only [tMethS1, tMethKS1, WE, tSeq, tAsg, gName, tOp, tUn, tCB, tCons, tNil, tCall, tMethK1, tCallK1, tPar3, tRet, tRetN, tDrop, tTest, tB, tC, tNext, tAugS, tAug, sFld1, sFldAug1, tMeth1, tMake, tMakeK1, tSl, tPart, tNoPart, sDPut1, tDPop, tBM, tBM0, tPar, gSub, tChain, tNot, tNotV, tDG1, tDG2, tDNewT1, iKeys1, iEnum1, iList1, iTup1, iRng1, iRng2, List.set_cons_zero, List.set_cons_succ]
      refine x_var (by exact rfl) ?_
      refine c_ltake S 0 1 2 (by exact rfl) (by exact rfl) (by exact rfl) hd (by first | omega | decide | (simp only [len_insAt, List.length_map, List.length_append, List.length_cons, List.length_nil, List.length_take, List.length_drop] at *; omega)) (by first | omega | decide | (simp only [len_insAt, List.length_map, List.length_append, List.length_cons, List.length_nil, List.length_take, List.length_drop] at *; omega)) (fun v1 dr dt dm gs H v1a v1b hd S => ?_)
      simp only [List.set_cons_zero, List.set_cons_succ] at S
      try dsimp only [tMethS1, tMethKS1, WE, tSeq, tAsg, gName, tOp, tUn, tCB, tCons, tNil, tCall, tMethK1, tCallK1, tPar3, tRet, tRetN, tDrop, tTest, tB, tC, tNext, tAugS, tAug, sFld1, sFldAug1, tMeth1, tMake, tMakeK1, tSl, tPart, tNoPart, sDPut1, tDPop, tBM, tBM0, tPar, gSub, tChain, tNot, tNotV, tDG1, tDG2, tDNewT1, iKeys1, iEnum1, iList1, iTup1, iRng1, iRng2, List.set_cons_zero, List.set_cons_succ]
      refine x_var (by exact rfl) ?_
      refine c_dat (FrameD) S 3 0 1 2 (by exact rfl) (by exact rfl) (by exact rfl) (by exact rfl) hd (⟨rfl, rfl⟩) (fun v2 d1 T1 dr dt dm gs H hRd1 hd1 gr9 hle9 hd S => ?_)
      simp only [List.set_cons_zero, List.set_cons_succ, List.take_succ_cons, List.take_zero, List.eraseIdx_cons_zero, List.eraseIdx_cons_succ, List.cons_append, List.nil_append] at S
      replace gr := gr.trans gr9
      obtain ⟨ds, rfl, hfl⟩ := frs0 hRd1
      obtain ⟨ma, xs, rfl, hp, hds⟩ := hd1.tup1
      try dsimp only [tMethS1, tMethKS1, WE, tSeq, tAsg, gName, tOp, tUn, tCB, tCons, tNil, tCall, tMethK1, tCallK1, tPar3, tRet, tRetN, tDrop, tTest, tB, tC, tNext, tAugS, tAug, sFld1, sFldAug1, tMeth1, tMake, tMakeK1, tSl, tPart, tNoPart, sDPut1, tDPop, tBM, tBM0, tPar, gSub, tChain, tNot, tNotV, tDG1, tDG2, tDNewT1, iKeys1, iEnum1, iList1, iTup1, iRng1, iRng2, List.set_cons_zero, List.set_cons_succ]
      refine x_for ?_
      try dsimp only [tMethS1, tMethKS1, tOp, tUn, tCB, tCons, tNil, tCall, tMethK1, tCallK1, tC, tMeth1, tMake, tMakeK1, tSl, tPart, tNoPart, tDPop, tChain, tNotV, tBM, tBM0, tDG1, tDG2, tDNewT1, iKeys1, iEnum1, iList1, iTup1, iRng1, iRng2]
      refine x_var (by exact rfl) ?_
      refine ⟨_, rfl, by omega, by omega, ?_⟩
      refine forR (fun j σ H1 => ∃ (T : List Cell) (dr dt dm : Int) (gs : List Int) (ma : Addr) (xs : List V) (ds : List PyData) (ot : Option V), σ = [some (.ref a), some (.int (0 + (i : Int))), some (.ref dp), some (.int v1), some (.ref ma), ot, o6, o7, o8, o9] ∧ tl T ma = some (.tup xs) ∧ DHs (tl T) xs ds ∧ FrL j ds ∧ Drw dr dt dm gs ∧ Sep H0 [] H1 ((2, dp, .dK (R_drw dg dc dr dt dm)) :: (2, dg, .lst (gs.map V.int)) :: (2, dc, .lst (cs.map V.int)) :: T)) ?_ ?_ ?_
      · exact ⟨_, _, _, _, _, ma, xs, ds, _, rfl, hp, hds, hfl, hd, S.subT 3 [0, 1, 2]⟩
      · rintro j σ H hi ⟨T, dr, dt, dm, gs, ma, xs, ds, ot, rfl, hp, hds, hfl, hd, S⟩
        have gr := Grow.refl T
        try dsimp only [tMethS1, tMethKS1, WE, tSeq, tAsg, gName, tOp, tUn, tCB, tCons, tNil, tCall, tMethK1, tCallK1, tPar3, tRet, tRetN, tDrop, tTest, tB, tC, tNext, tAugS, tAug, sFld1, sFldAug1, tMeth1, tMake, tMakeK1, tSl, tPart, tNoPart, sDPut1, tDPop, tBM, tBM0, tPar, gSub, tChain, tNot, tNotV, tDG1, tDG2, tDNewT1, iKeys1, iEnum1, iList1, iTup1, iRng1, iRng2, List.set_cons_zero, List.set_cons_succ]
        try dsimp only [tMethS1, tMethKS1, WE, tSeq, tAsg, gName, tOp, tUn, tCB, tCons, tNil, tCall, tMethK1, tCallK1, tPar3, tRet, tRetN, tDrop, tTest, tB, tC, tNext, tAugS, tAug, sFld1, sFldAug1, tMeth1, tMake, tMakeK1, tSl, tPart, tNoPart, sDPut1, tDPop, tBM, tBM0, tPar, gSub, tChain, tNot, tNotV, tDG1, tDG2, tDNewT1, iKeys1, iEnum1, iList1, iTup1, iRng1, iRng2, List.set_cons_zero, List.set_cons_succ]
        refine x_if ?_
        try dsimp only [tMethS1, tMethKS1, WE, tSeq, tAsg, gName, tOp, tUn, tCB, tCons, tNil, tCall, tMethK1, tCallK1, tPar3, tRet, tRetN, tDrop, tTest, tB, tC, tNext, tAugS, tAug, sFld1, sFldAug1, tMeth1, tMake, tMakeK1, tSl, tPart, tNoPart, sDPut1, tDPop, tBM, tBM0, tPar, gSub, tChain, tNot, tNotV, tDG1, tDG2, tDNewT1, iKeys1, iEnum1, iList1, iTup1, iRng1, iRng2, List.set_cons_zero, List.set_cons_succ]
        refine x_var (by exact rfl) ?_
        refine x_lenXt (.of ((S.tl (T := T) fun c h => List.mem_cons_of_mem _ (List.mem_cons_of_mem _ (List.mem_cons_of_mem _ (h)))) _ _ hp)) ?_
        refine x_I0 ?_
        refine ⟨_, rfl, ?_⟩
        refine ited (fun c1 => ?_) (fun c1 => ?_)
        · try dsimp only [tMethS1, tMethKS1, WE, tSeq, tAsg, gName, tOp, tUn, tCB, tCons, tNil, tCall, tMethK1, tCallK1, tPar3, tRet, tRetN, tDrop, tTest, tB, tC, tNext, tAugS, tAug, sFld1, sFldAug1, tMeth1, tMake, tMakeK1, tSl, tPart, tNoPart, sDPut1, tDPop, tBM, tBM0, tPar, gSub, tChain, tNot, tNotV, tDG1, tDG2, tDNewT1, iKeys1, iEnum1, iList1, iTup1, iRng1, iRng2, List.set_cons_zero, List.set_cons_succ]
          refine x_var (by exact rfl) ?_
          refine x_var (by exact rfl) ?_
          refine c_dat (FrS (j + 1)) S 3 0 1 2 (by exact rfl) (by exact rfl) (by exact rfl) (by exact rfl) hd (⟨_, xs, ds, j, rfl, hp, hds, by omega, hfl, by omega, rfl⟩) (fun v3 d2 T2 dr dt dm gs H hRd2 hd2 gr9 hle9 hd S => ?_)
          simp only [List.set_cons_zero, List.set_cons_succ, List.take_succ_cons, List.take_zero, List.eraseIdx_cons_zero, List.eraseIdx_cons_succ, List.cons_append, List.nil_append] at S
          replace gr := gr.trans gr9
          replace hp := hle9 _ _ hp
          replace hds := hds.mono hle9
          obtain ⟨ds2, rfl, hfl2⟩ := hRd2
          obtain ⟨ma2, xs2, rfl, hp2, hds2⟩ := hd2.tup1
          exact ⟨_, _, _, _, _, ma2, _, _, _, rfl, hp2, hds2, hfl2, hd, S.subT 3 [0, 1, 2]⟩
        · exact ⟨_, _, _, _, _, ma, _, _, _, rfl, hp, hds, hfl.mono, hd, S.subT 3 [0, 1, 2]⟩
      · rintro σ H ⟨T, dr, dt, dm, gs, ma, xs, ds, ot, rfl, hp, hds, hfl, hd, S⟩
        have gr := Grow.refl T
        try dsimp only [tMethS1, tMethKS1, WE, tSeq, tAsg, gName, tOp, tUn, tCB, tCons, tNil, tCall, tMethK1, tCallK1, tPar3, tRet, tRetN, tDrop, tTest, tB, tC, tNext, tAugS, tAug, sFld1, sFldAug1, tMeth1, tMake, tMakeK1, tSl, tPart, tNoPart, sDPut1, tDPop, tBM, tBM0, tPar, gSub, tChain, tNot, tNotV, tDG1, tDG2, tDNewT1, iKeys1, iEnum1, iList1, iTup1, iRng1, iRng2, List.set_cons_zero, List.set_cons_succ]
        try dsimp only [tMethS1, tMethKS1, WE, tSeq, tAsg, gName, tOp, tUn, tCB, tCons, tNil, tCall, tMethK1, tCallK1, tPar3, tRet, tRetN, tDrop, tTest, tB, tC, tNext, tAugS, tAug, sFld1, sFldAug1, tMeth1, tMake, tMakeK1, tSl, tPart, tNoPart, sDPut1, tDPop, tBM, tBM0, tPar, gSub, tChain, tNot, tNotV, tDG1, tDG2, tDNewT1, iKeys1, iEnum1, iList1, iTup1, iRng1, iRng2, List.set_cons_zero, List.set_cons_succ]
        refine x_var (by exact rfl) ?_
        refine ⟨rfl, ?_⟩
        refine c_pure S ((DH.tup hp hds).mono (S.tl (T := T) fun c h => List.mem_cons_of_mem _ (List.mem_cons_of_mem _ (List.mem_cons_of_mem _ (h))))) (fun H S => ?_)
        try dsimp only [tMethS1, tMethKS1, WE, tSeq, tAsg, gName, tOp, tUn, tCB, tCons, tNil, tCall, tMethK1, tCallK1, tPar3, tRet, tRetN, tDrop, tTest, tB, tC, tNext, tAugS, tAug, sFld1, sFldAug1, tMeth1, tMake, tMakeK1, tSl, tPart, tNoPart, sDPut1, tDPop, tBM, tBM0, tPar, gSub, tChain, tNot, tNotV, tDG1, tDG2, tDNewT1, iKeys1, iEnum1, iList1, iTup1, iRng1, iRng2, List.set_cons_zero, List.set_cons_succ]
        refine x_if ?_
        try dsimp only [tMethS1, tMethKS1, WE, tSeq, tAsg, gName, tOp, tUn, tCB, tCons, tNil, tCall, tMethK1, tCallK1, tPar3, tRet, tRetN, tDrop, tTest, tB, tC, tNext, tAugS, tAug, sFld1, sFldAug1, tMeth1, tMake, tMakeK1, tSl, tPart, tNoPart, sDPut1, tDPop, tBM, tBM0, tPar, gSub, tChain, tNot, tNotV, tDG1, tDG2, tDNewT1, iKeys1, iEnum1, iList1, iTup1, iRng1, iRng2, List.set_cons_zero, List.set_cons_succ]
        refine x_or ?_
        try dsimp only [tMethS1, tMethKS1, WE, tSeq, tAsg, gName, tOp, tUn, tCB, tCons, tNil, tCall, tMethK1, tCallK1, tPar3, tRet, tRetN, tDrop, tTest, tB, tC, tNext, tAugS, tAug, sFld1, sFldAug1, tMeth1, tMake, tMakeK1, tSl, tPart, tNoPart, sDPut1, tDPop, tBM, tBM0, tPar, gSub, tChain, tNot, tNotV, tDG1, tDG2, tDNewT1, iKeys1, iEnum1, iList1, iTup1, iRng1, iRng2, List.set_cons_zero, List.set_cons_succ]
        refine x_var (by exact rfl) ?_
        refine x_isi ty_bl (by decide +kernel : kitB "bool" "bool" = some true) ?_
        refine ⟨_, rfl, ?_⟩
        refine iteF ?_
        refine x_var (by exact rfl) ?_
        refine x_var (by exact rfl) ?_
        refine c_pure S ((DH.tup hp hds).mono (S.tl (T := T) fun c h => List.mem_cons_of_mem _ (List.mem_cons_of_mem _ (List.mem_cons_of_mem _ (h))))) (fun H S => ?_)
        refine x_ne ?_
        refine ⟨_, rfl, ?_⟩
        refine itend (fun h => absurd rfl h) (fun c2 => ?_)
        try dsimp only [tMethS1, tMethKS1, WE, tSeq, tAsg, gName, tOp, tUn, tCB, tCons, tNil, tCall, tMethK1, tCallK1, tPar3, tRet, tRetN, tDrop, tTest, tB, tC, tNext, tAugS, tAug, sFld1, sFldAug1, tMeth1, tMake, tMakeK1, tSl, tPart, tNoPart, sDPut1, tDPop, tBM, tBM0, tPar, gSub, tChain, tNot, tNotV, tDG1, tDG2, tDNewT1, iKeys1, iEnum1, iList1, iTup1, iRng1, iRng2, List.set_cons_zero, List.set_cons_succ]
        refine x_for ?_
        try dsimp only [tMethS1, tMethKS1, tOp, tUn, tCB, tCons, tNil, tCall, tMethK1, tCallK1, tC, tMeth1, tMake, tMakeK1, tSl, tPart, tNoPart, tDPop, tChain, tNotV, tBM, tBM0, tDG1, tDG2, tDNewT1, iKeys1, iEnum1, iList1, iTup1, iRng1, iRng2]
        refine x_var (by exact rfl) ?_
        refine ⟨_, rfl, ⟨_, .of ((S.tl (T := T) fun c h => List.mem_cons_of_mem _ (List.mem_cons_of_mem _ (List.mem_cons_of_mem _ (h)))) _ _ hp)⟩, ?_⟩
        refine forW (walk_tup (xs := xs)) (fun j σ H1 => ∃ (p1 p2 : Option V), σ = [some (.ref a), some (.int (0 + (i : Int))), some (.ref dp), some (.int v1), some (.ref ma), ot, p1, p2, o8, o9] ∧ Sep H0 [] H1 ((2, dp, .dK (R_drw dg dc dr dt dm)) :: (2, dg, .lst (gs.map V.int)) :: (2, dc, .lst (cs.map V.int)) :: T)) ?_ ?_ ?_ ?_
        · exact ⟨_, _, rfl, S.subT 3 [0, 1, 2]⟩
        · rintro j σ H hi ⟨p1, p2, rfl, S⟩
          exact .of (S.tl (T := T) (fun c h => List.mem_cons_of_mem _ (List.mem_cons_of_mem _ (List.mem_cons_of_mem _ h))) _ _ hp)
        · rintro j y σ H H9 hi ⟨p1, p2, rfl, S⟩ hy
          obtain ⟨rfl, hy9⟩ := hy
          obtain ⟨dy, hiy, hdy⟩ := hds.get hy9
          try dsimp only [tMethS1, tMethKS1, WE, tSeq, tAsg, gName, tOp, tUn, tCB, tCons, tNil, tCall, tMethK1, tCallK1, tPar3, tRet, tRetN, tDrop, tTest, tB, tC, tNext, tAugS, tAug, sFld1, sFldAug1, tMeth1, tMake, tMakeK1, tSl, tPart, tNoPart, sDPut1, tDPop, tBM, tBM0, tPar, gSub, tChain, tNot, tNotV, tDG1, tDG2, tDNewT1, iKeys1, iEnum1, iList1, iTup1, iRng1, iRng2, List.set_cons_zero, List.set_cons_succ]
          try dsimp only [tMethS1, tMethKS1, WE, tSeq, tAsg, gName, tOp, tUn, tCB, tCons, tNil, tCall, tMethK1, tCallK1, tPar3, tRet, tRetN, tDrop, tTest, tB, tC, tNext, tAugS, tAug, sFld1, sFldAug1, tMeth1, tMake, tMakeK1, tSl, tPart, tNoPart, sDPut1, tDPop, tBM, tBM0, tPar, gSub, tChain, tNot, tNotV, tDG1, tDG2, tDNewT1, iKeys1, iEnum1, iList1, iTup1, iRng1, iRng2, List.set_cons_zero, List.set_cons_succ]
          refine x_var (by exact rfl) ?_
          refine ⟨rfl, ?_⟩
          refine c_pure S (hdy.mono (S.tl (T := T) fun c h => List.mem_cons_of_mem _ (List.mem_cons_of_mem _ (List.mem_cons_of_mem _ (h))))) (fun H S => ?_)
          try dsimp only [tMethS1, tMethKS1, WE, tSeq, tAsg, gName, tOp, tUn, tCB, tCons, tNil, tCall, tMethK1, tCallK1, tPar3, tRet, tRetN, tDrop, tTest, tB, tC, tNext, tAugS, tAug, sFld1, sFldAug1, tMeth1, tMake, tMakeK1, tSl, tPart, tNoPart, sDPut1, tDPop, tBM, tBM0, tPar, gSub, tChain, tNot, tNotV, tDG1, tDG2, tDNewT1, iKeys1, iEnum1, iList1, iTup1, iRng1, iRng2, List.set_cons_zero, List.set_cons_succ]
          refine x_if ?_
          try dsimp only [tMethS1, tMethKS1, WE, tSeq, tAsg, gName, tOp, tUn, tCB, tCons, tNil, tCall, tMethK1, tCallK1, tPar3, tRet, tRetN, tDrop, tTest, tB, tC, tNext, tAugS, tAug, sFld1, sFldAug1, tMeth1, tMake, tMakeK1, tSl, tPart, tNoPart, sDPut1, tDPop, tBM, tBM0, tPar, gSub, tChain, tNot, tNotV, tDG1, tDG2, tDNewT1, iKeys1, iEnum1, iList1, iTup1, iRng1, iRng2, List.set_cons_zero, List.set_cons_succ]
          refine x_or ?_
          try dsimp only [tMethS1, tMethKS1, WE, tSeq, tAsg, gName, tOp, tUn, tCB, tCons, tNil, tCall, tMethK1, tCallK1, tPar3, tRet, tRetN, tDrop, tTest, tB, tC, tNext, tAugS, tAug, sFld1, sFldAug1, tMeth1, tMake, tMakeK1, tSl, tPart, tNoPart, sDPut1, tDPop, tBM, tBM0, tPar, gSub, tChain, tNot, tNotV, tDG1, tDG2, tDNewT1, iKeys1, iEnum1, iList1, iTup1, iRng1, iRng2, List.set_cons_zero, List.set_cons_succ]
          refine x_var (by exact rfl) ?_
          refine x_isi ty_bl (by decide +kernel : kitB "bool" "bool" = some true) ?_
          refine ⟨_, rfl, ?_⟩
          refine iteF ?_
          refine x_var (by exact rfl) ?_
          refine x_var (by exact rfl) ?_
          refine c_pure S (hdy.mono (S.tl (T := T) fun c h => List.mem_cons_of_mem _ (List.mem_cons_of_mem _ (List.mem_cons_of_mem _ (h))))) (fun H S => ?_)
          refine x_ne ?_
          refine ⟨_, rfl, ?_⟩
          refine itend (fun h => absurd rfl h) (fun c3 => ?_)
          exact ⟨_, _, rfl, S.subT 3 [0, 1, 2]⟩
        · rintro σ H ⟨p1, p2, rfl, S⟩
          try dsimp only [tMethS1, tMethKS1, WE, tSeq, tAsg, gName, tOp, tUn, tCB, tCons, tNil, tCall, tMethK1, tCallK1, tPar3, tRet, tRetN, tDrop, tTest, tB, tC, tNext, tAugS, tAug, sFld1, sFldAug1, tMeth1, tMake, tMakeK1, tSl, tPart, tNoPart, sDPut1, tDPop, tBM, tBM0, tPar, gSub, tChain, tNot, tNotV, tDG1, tDG2, tDNewT1, iKeys1, iEnum1, iList1, iTup1, iRng1, iRng2, List.set_cons_zero, List.set_cons_succ]
          try dsimp only [tMethS1, tMethKS1, WE, tSeq, tAsg, gName, tOp, tUn, tCB, tCons, tNil, tCall, tMethK1, tCallK1, tPar3, tRet, tRetN, tDrop, tTest, tB, tC, tNext, tAugS, tAug, sFld1, sFldAug1, tMeth1, tMake, tMakeK1, tSl, tPart, tNoPart, sDPut1, tDPop, tBM, tBM0, tPar, gSub, tChain, tNot, tNotV, tDG1, tDG2, tDNewT1, iKeys1, iEnum1, iList1, iTup1, iRng1, iRng2, List.set_cons_zero, List.set_cons_succ]
          refine x_tup S (by exact Nat.le_of_ble_eq_true rfl) (fun U1 H S => ?_)
          obtain ⟨T3, gr9, hle9, hfU1, S⟩ := S.freeze 4 0 rfl (by decide) rfl
          simp only [List.set_cons_zero, List.set_cons_succ, List.take_succ_cons, List.take_zero, List.eraseIdx_cons_zero, List.eraseIdx_cons_succ, List.cons_append, List.nil_append] at S
          replace gr := gr.trans gr9
          replace hp := hle9 _ _ hp
          replace hds := hds.mono hle9
          refine x_lst S (by exact Nat.le_of_ble_eq_true rfl) (fun L1 H S => ?_)
          obtain ⟨T4, gr9, hle9, hfL1, S⟩ := S.freeze 4 0 rfl (by decide) rfl
          simp only [List.set_cons_zero, List.set_cons_succ, List.take_succ_cons, List.take_zero, List.eraseIdx_cons_zero, List.eraseIdx_cons_succ, List.cons_append, List.nil_append] at S
          replace gr := gr.trans gr9
          replace hp := hle9 _ _ hp
          replace hds := hds.mono hle9
          replace hfU1 := hle9 _ _ hfU1
          refine x_dnew S (fun D1 H S => ?_)
          obtain ⟨T5, gr9, hle9, hfD1, S⟩ := S.freeze 4 0 rfl (by decide) rfl
          simp only [List.set_cons_zero, List.set_cons_succ, List.take_succ_cons, List.take_zero, List.eraseIdx_cons_zero, List.eraseIdx_cons_succ, List.cons_append, List.nil_append] at S
          replace gr := gr.trans gr9
          replace hp := hle9 _ _ hp
          replace hds := hds.mono hle9
          replace hfU1 := hle9 _ _ hfU1
          replace hfL1 := hle9 _ _ hfL1
          refine x_var (by exact rfl) ?_
          refine x_listT S (.of ((S.tl (T := T5) fun c h => List.mem_cons_of_mem _ (List.mem_cons_of_mem _ (List.mem_cons_of_mem _ (h)))) _ _ hp)) (fun l1 H S => ?_)
          obtain ⟨T6, gr9, hle9, hfl1, S⟩ := S.freeze 4 0 rfl (by decide) rfl
          simp only [List.set_cons_zero, List.set_cons_succ, List.take_succ_cons, List.take_zero, List.eraseIdx_cons_zero, List.eraseIdx_cons_succ, List.cons_append, List.nil_append] at S
          replace gr := gr.trans gr9
          replace hp := hle9 _ _ hp
          replace hds := hds.mono hle9
          replace hfU1 := hle9 _ _ hfU1
          replace hfL1 := hle9 _ _ hfL1
          replace hfD1 := hle9 _ _ hfD1
          refine x_disp S (fun D2 H S => ?_)
          try dsimp only [tPairs, tC]
          refine x_var (by exact rfl) ?_
          refine x_dispE (kvs := [(.inr "clock", V.ref ma)]) S 0 (by exact (by exact rfl)) (by exact (by exact rfl)) (by exact Nat.le_of_ble_eq_true (by exact rfl)) (by exact rfl) (fun H S => ?_)
          simp only [List.set_cons_zero, List.set_cons_succ] at S
          obtain ⟨T7, gr9, hle9, hfD2, S⟩ := S.freeze 4 0 rfl (by decide) rfl
          simp only [List.set_cons_zero, List.set_cons_succ, List.take_succ_cons, List.take_zero, List.eraseIdx_cons_zero, List.eraseIdx_cons_succ, List.cons_append, List.nil_append] at S
          replace gr := gr.trans gr9
          replace hp := hle9 _ _ hp
          replace hds := hds.mono hle9
          replace hfU1 := hle9 _ _ hfU1
          replace hfL1 := hle9 _ _ hfL1
          replace hfD1 := hle9 _ _ hfD1
          replace hfl1 := hle9 _ _ hfl1
          refine x_var (by exact rfl) ?_
          refine x_tup S (by exact Nat.le_of_ble_eq_true rfl) (fun U2 H S => ?_)
          obtain ⟨T8, gr9, hle9, hfU2, S⟩ := S.freeze 4 0 rfl (by decide) rfl
          simp only [List.set_cons_zero, List.set_cons_succ, List.take_succ_cons, List.take_zero, List.eraseIdx_cons_zero, List.eraseIdx_cons_succ, List.cons_append, List.nil_append] at S
          replace gr := gr.trans gr9
          replace hp := hle9 _ _ hp
          replace hds := hds.mono hle9
          replace hfU1 := hle9 _ _ hfU1
          replace hfL1 := hle9 _ _ hfL1
          replace hfD1 := hle9 _ _ hfD1
          replace hfl1 := hle9 _ _ hfl1
          replace hfD2 := hle9 _ _ hfD2
          refine x_var (by exact rfl) ?_
          refine ⟨_, rfl, ?_⟩
          refine x_slD S 3 (by exact rfl) hp (fun sl1 T9 H gr9 hle9 hfsl1 S => ?_)
          simp only [List.set_cons_zero, List.set_cons_succ, List.take_succ_cons, List.take_zero, List.eraseIdx_cons_zero, List.eraseIdx_cons_succ, List.cons_append, List.nil_append] at S
          replace gr := gr.trans gr9
          replace hp := hle9 _ _ hp
          replace hds := hds.mono hle9
          replace hfU1 := hle9 _ _ hfU1
          replace hfL1 := hle9 _ _ hfL1
          replace hfD1 := hle9 _ _ hfD1
          replace hfl1 := hle9 _ _ hfl1
          replace hfD2 := hle9 _ _ hfD2
          replace hfU2 := hle9 _ _ hfU2
          have hcsl1 := (hds).cut none (some (1))
          have hlsl1 := hcsl1.len
          refine x_lst S (by exact Nat.le_of_ble_eq_true rfl) (fun L2 H S => ?_)
          obtain ⟨T10, gr9, hle9, hfL2, S⟩ := S.freeze 4 0 rfl (by decide) rfl
          simp only [List.set_cons_zero, List.set_cons_succ, List.take_succ_cons, List.take_zero, List.eraseIdx_cons_zero, List.eraseIdx_cons_succ, List.cons_append, List.nil_append] at S
          replace gr := gr.trans gr9
          replace hp := hle9 _ _ hp
          replace hds := hds.mono hle9
          replace hfU1 := hle9 _ _ hfU1
          replace hfL1 := hle9 _ _ hfL1
          replace hfD1 := hle9 _ _ hfD1
          replace hfl1 := hle9 _ _ hfl1
          replace hfD2 := hle9 _ _ hfD2
          replace hfU2 := hle9 _ _ hfU2
          replace hfsl1 := hle9 _ _ hfsl1
          replace hcsl1 := hcsl1.mono hle9
          try dsimp only [tMethS1, tMethKS1, WE, tSeq, tAsg, gName, tOp, tUn, tCB, tCons, tNil, tCall, tMethK1, tCallK1, tPar3, tRet, tRetN, tDrop, tTest, tB, tC, tNext, tAugS, tAug, sFld1, sFldAug1, tMeth1, tMake, tMakeK1, tSl, tPart, tNoPart, sDPut1, tDPop, tBM, tBM0, tPar, gSub, tChain, tNot, tNotV, tDG1, tDG2, tDNewT1, iKeys1, iEnum1, iList1, iTup1, iRng1, iRng2, List.set_cons_zero, List.set_cons_succ]
          refine x_var (by exact rfl) ?_
          refine x_var (by exact rfl) ?_
          obtain ⟨hD, hQ⟩ := bothD (p := fun d => isFrame d = false) (DHs.cons DH.non (DHs.cons (DH.int (3)) (DHs.cons (DH.bl true) (DHs.cons (DH.str (Str.ofString "clock") (by exact Nat.le_of_ble_eq_true rfl)) (DHs.cons (DH.tup hfU1 DHs.nil) (DHs.cons (DH.lst hfL1 DHs.nil) (DHs.cons (DH.dct hfD1 .nil) (DHs.cons (DH.lst hfl1 hds) (DHs.cons (DH.dct hfD2 (.cons (DH.tup hp hds) .nil)) (DHs.cons (DH.tup hfU2 (DHs.cons (DH.tup hp hds) DHs.nil)) (DHs.cons (DH.tup hfsl1 hcsl1) DHs.nil))))))))))) ⟨rfl, rfl, rfl, rfl, rfl, rfl, rfl, rfl, rfl, rfl, frame_cut1, trivial⟩
          refine c_pick (fun v => ∃ d, DH (tl T10) v d ∧ isFrame d = false) S 0 1 2 (by exact rfl) (by exact rfl) (by exact rfl) hd (SomeV.tlL S 3 0 1 (by exact rfl) (by exact rfl) (by exact rfl) hfL2 (by rw [hD.len]; exact Nat.succ_pos _) (by rw [hD.len]; exact Nat.lt_of_lt_of_le (show _ < 100 by exact Nat.le_of_ble_eq_true (by exact rfl)) (by decide)) (fun v hv => by obtain ⟨i, hi⟩ := List.mem_iff_getElem?.mp hv; obtain ⟨d, h1, h2⟩ := hD.get hi; exact ⟨d, h2, AllP.all hQ _ (List.mem_of_getElem? h1)⟩)) (fun pk9 dr dt dm gs H hpk9 hd S => ?_)
          simp only [List.set_cons_zero, List.set_cons_succ] at S
          obtain ⟨d9, hd9, hq9⟩ := hpk9
          try dsimp only [tMethS1, tMethKS1, WE, tSeq, tAsg, gName, tOp, tUn, tCB, tCons, tNil, tCall, tMethK1, tCallK1, tPar3, tRet, tRetN, tDrop, tTest, tB, tC, tNext, tAugS, tAug, sFld1, sFldAug1, tMeth1, tMake, tMakeK1, tSl, tPart, tNoPart, sDPut1, tDPop, tBM, tBM0, tPar, gSub, tChain, tNot, tNotV, tDG1, tDG2, tDNewT1, iKeys1, iEnum1, iList1, iTup1, iRng1, iRng2, List.set_cons_zero, List.set_cons_succ]
          refine x_if ?_
          try dsimp only [tMethS1, tMethKS1, WE, tSeq, tAsg, gName, tOp, tUn, tCB, tCons, tNil, tCall, tMethK1, tCallK1, tPar3, tRet, tRetN, tDrop, tTest, tB, tC, tNext, tAugS, tAug, sFld1, sFldAug1, tMeth1, tMake, tMakeK1, tSl, tPart, tNoPart, sDPut1, tDPop, tBM, tBM0, tPar, gSub, tChain, tNot, tNotV, tDG1, tDG2, tDNewT1, iKeys1, iEnum1, iList1, iTup1, iRng1, iRng2, List.set_cons_zero, List.set_cons_succ]
          refine x_or ?_
          try dsimp only [tMethS1, tMethKS1, WE, tSeq, tAsg, gName, tOp, tUn, tCB, tCons, tNil, tCall, tMethK1, tCallK1, tPar3, tRet, tRetN, tDrop, tTest, tB, tC, tNext, tAugS, tAug, sFld1, sFldAug1, tMeth1, tMake, tMakeK1, tSl, tPart, tNoPart, sDPut1, tDPop, tBM, tBM0, tPar, gSub, tChain, tNot, tNotV, tDG1, tDG2, tDNewT1, iKeys1, iEnum1, iList1, iTup1, iRng1, iRng2, List.set_cons_zero, List.set_cons_succ]
          refine x_var (by exact rfl) ?_
          refine c_pure S (hd9.mono (S.tl (T := T10) fun c h => List.mem_cons_of_mem _ (List.mem_cons_of_mem _ (List.mem_cons_of_mem _ (h))))) (fun H S => ?_)
          refine ⟨_, _, rfl, rfl, ?_⟩
          rw [hq9, decide_eq_true rfl, Bool.not_true]
          refine ⟨_, rfl, ?_⟩
          refine iteF ?_
          refine x_var (by exact rfl) ?_
          refine c_pure S (hd9.mono (S.tl (T := T10) fun c h => List.mem_cons_of_mem _ (List.mem_cons_of_mem _ (List.mem_cons_of_mem _ (h))))) (fun H S => ?_)
          refine x_reprB ?_
          refine x_var (by exact rfl) ?_
          refine c_pure S (hd9.mono (S.tl (T := T10) fun c h => List.mem_cons_of_mem _ (List.mem_cons_of_mem _ (List.mem_cons_of_mem _ (h))))) (fun H S => ?_)
          refine x_reprB ?_
          refine x_ne ?_
          rw [decide_eq_true rfl, Bool.not_true]
          refine ⟨_, rfl, ?_⟩
          refine iteF ?_
          exact ⟨_, _, _, _, _, _, _, _, _, rfl, S.sub []⟩
    · rintro σ H ⟨o1, o2, o3, o4, o5, o6, o7, o8, o9, rfl, S⟩
      try dsimp only [tMethS1, tMethKS1, WE, tSeq, tAsg, gName, tOp, tUn, tCB, tCons, tNil, tCall, tMethK1, tCallK1, tPar3, tRet, tRetN, tDrop, tTest, tB, tC, tNext, tAugS, tAug, sFld1, sFldAug1, tMeth1, tMake, tMakeK1, tSl, tPart, tNoPart, sDPut1, tDPop, tBM, tBM0, tPar, gSub, tChain, tNot, tNotV, tDG1, tDG2, tDNewT1, iKeys1, iEnum1, iList1, iTup1, iRng1, iRng2, List.set_cons_zero, List.set_cons_succ]
      exact k _
end
end G

set_option linter.all false
set_option maxRecDepth 100000
set_option maxHeartbeats 4000000
namespace G
open PySem PySem.Spec PyProof.Rows L2
theorem all_mk {l : PySem.W.OpenLaw} {w : World} {K : PySem.W.Frag} {h : Heap} {mg : Str → Option Value} {fa f1 f2 f3 f4 f5 f6 f7 f8 f9 f10 f11 f12 f13 f14 f15 f16 f17 f18 aW aO PA p0 p1 p2 p3 p4 p5 p6 p7 : Addr} (X : K.In h) (G : h.Ns mainGlobals mg) (hfa : mg "law" = some (.ref fa))
    {od1 an1 od2 an2 od3 an3 od4 an4 od5 an5 od6 an6 od7 an7 od8 an8 od9 an9 od10 an10 od11 an11 od12 an12 od13 an13 od14 an14 od15 an15 od16 an16 od17 an17 od18 an18 : Option Addr} {sl1 sl2 sl3 sl4 sl5 sl6 sl7 sl8 sl9 sl10 sl11 sl12 sl13 sl14 sl15 sl16 sl17 sl18 : Array (Option Value)}
    {oc1 kV1 dc1 pm1 cd1 ct1 oc2 kV2 dc2 pm2 cd2 ct2 oc3 kV3 dc3 pm3 cd3 ct3 oc4 kV4 dc4 pm4 cd4 ct4 oc5 kV5 dc5 pm5 cd5 ct5 oc6 kV6 dc6 pm6 cd6 ct6 oc7 kV7 dc7 pm7 cd7 ct7 oc8 kV8 dc8 pm8 cd8 ct8 oc9 kV9 dc9 pm9 cd9 ct9 oc10 kV10 dc10 pm10 cd10 ct10 oc11 kV11 dc11 pm11 cd11 ct11 oc12 kV12 dc12 pm12 cd12 ct12 oc13 kV13 dc13 pm13 cd13 ct13 oc14 kV14 dc14 pm14 cd14 ct14 oc15 kV15 dc15 pm15 cd15 ct15 oc16 kV16 dc16 pm16 cd16 ct16 oc17 kV17 dc17 pm17 cd17 ct17 oc18 kV18 dc18 pm18 cd18 ct18 : Value} {tkLETTERS : Tok} {tkMOST_LETTERS : Tok} {odttW : Option Addr} {itsttW : Array Value} {nnttW : Nat} {slttW : Array (Option Value)} {odttO : Option Addr} {itsttO : Array Value} {nnttO : Nat} {slttO : Array (Option Value)} {es0 : Array DictEntry} {en0 : Nat} {odtp0 : Option Addr} {itstp0 : Array Value} {nntp0 : Nat} {sltp0 : Array (Option Value)} {odtp1 : Option Addr} {itstp1 : Array Value} {nntp1 : Nat} {sltp1 : Array (Option Value)} {odtp2 : Option Addr} {itstp2 : Array Value} {nntp2 : Nat} {sltp2 : Array (Option Value)} {odtp3 : Option Addr} {itstp3 : Array Value} {nntp3 : Nat} {sltp3 : Array (Option Value)} {odtp4 : Option Addr} {itstp4 : Array Value} {nntp4 : Nat} {sltp4 : Array (Option Value)} {odtp5 : Option Addr} {itstp5 : Array Value} {nntp5 : Nat} {sltp5 : Array (Option Value)} {odtp6 : Option Addr} {itstp6 : Array Value} {nntp6 : Nat} {sltp6 : Array (Option Value)} {odtp7 : Option Addr} {itstp7 : Array Value} {nntp7 : Nat} {sltp7 : Array (Option Value)}
    (a1 : PySem.W.nsIn K mainGlobals "is_name" = some (some (.ref f1)))
    (l1 : K.lookup f1 = some ⟨oc1, od1, .func (PySem.W.fnOf "is_name" "is_name" (defArgs s_is_name) (defBody s_is_name) (defScope s_is_name) .none kV1 dc1 pm1 an1 cd1 ct1), sl1⟩)
    (c1 : PySem.W.codeIn K cd1 "is_name" = true)
    (k1 : PySem.W.keepIn K (.ref f1) = true)
    (a2 : PySem.W.nsIn K mainGlobals "is_part" = some (some (.ref f2)))
    (l2 : K.lookup f2 = some ⟨oc2, od2, .func (PySem.W.fnOf "is_part" "is_part" (defArgs s_is_part) (defBody s_is_part) (defScope s_is_part) .none kV2 dc2 pm2 an2 cd2 ct2), sl2⟩)
    (c2 : PySem.W.codeIn K cd2 "is_part" = true)
    (k2 : PySem.W.keepIn K (.ref f2) = true)
    (a3 : PySem.W.nsIn K mainGlobals "is_frame" = some (some (.ref f3)))
    (l3 : K.lookup f3 = some ⟨oc3, od3, .func (PySem.W.fnOf "is_frame" "is_frame" (defArgs s_is_frame) (defBody s_is_frame) (defScope s_is_frame) .none kV3 dc3 pm3 an3 cd3 ct3), sl3⟩)
    (c3 : PySem.W.codeIn K cd3 "is_frame" = true)
    (k3 : PySem.W.keepIn K (.ref f3) = true)
    (a4 : PySem.W.nsIn K mainGlobals "_law_is_name" = some (some (.ref f4)))
    (l4 : K.lookup f4 = some ⟨oc4, od4, .func (PySem.W.fnOf "_law_is_name" "_law_is_name" (defArgs s_law_is_name) (defBody s_law_is_name) (defScope s_law_is_name) .none kV4 dc4 pm4 an4 cd4 ct4), sl4⟩)
    (c4 : PySem.W.codeIn K cd4 "_law_is_name" = true)
    (k4 : PySem.W.keepIn K (.ref f4) = true)
    (a5 : PySem.W.nsIn K mainGlobals "_law_is_part" = some (some (.ref f5)))
    (l5 : K.lookup f5 = some ⟨oc5, od5, .func (PySem.W.fnOf "_law_is_part" "_law_is_part" (defArgs s_law_is_part) (defBody s_law_is_part) (defScope s_law_is_part) .none kV5 dc5 pm5 an5 cd5 ct5), sl5⟩)
    (c5 : PySem.W.codeIn K cd5 "_law_is_part" = true)
    (k5 : PySem.W.keepIn K (.ref f5) = true)
    (a6 : PySem.W.nsIn K mainGlobals "_law_kinds" = some (some (.ref f6)))
    (l6 : K.lookup f6 = some ⟨oc6, od6, .func (PySem.W.fnOf "_law_kinds" "_law_kinds" (defArgs s_law_kinds) (defBody s_law_kinds) (defScope s_law_kinds) .none kV6 dc6 pm6 an6 cd6 ct6), sl6⟩)
    (c6 : PySem.W.codeIn K cd6 "_law_kinds" = true)
    (k6 : PySem.W.keepIn K (.ref f6) = true)
    (a7 : PySem.W.nsIn K mainGlobals "_law_is_frame" = some (some (.ref f7)))
    (l7 : K.lookup f7 = some ⟨oc7, od7, .func (PySem.W.fnOf "_law_is_frame" "_law_is_frame" (defArgs s_law_is_frame) (defBody s_law_is_frame) (defScope s_law_is_frame) .none kV7 dc7 pm7 an7 cd7 ct7), sl7⟩)
    (c7 : PySem.W.codeIn K cd7 "_law_is_frame" = true)
    (k7 : PySem.W.keepIn K (.ref f7) = true)
    (a8 : PySem.W.nsIn K mainGlobals "_law_begun" = some (some (.ref f8)))
    (l8 : K.lookup f8 = some ⟨oc8, od8, .func (PySem.W.fnOf "_law_begun" "_law_begun" (defArgs s_law_begun) (defBody s_law_begun) (defScope s_law_begun) .none kV8 dc8 pm8 an8 cd8 ct8), sl8⟩)
    (c8 : PySem.W.codeIn K cd8 "_law_begun" = true)
    (k8 : PySem.W.keepIn K (.ref f8) = true)
    (a9 : PySem.W.nsIn K mainGlobals "_law_take" = some (some (.ref f9)))
    (l9 : K.lookup f9 = some ⟨oc9, od9, .func (PySem.W.fnOf "_law_take" "_law_take" (defArgs s_law_take) (defBody s_law_take) (defScope s_law_take) .none kV9 dc9 pm9 an9 cd9 ct9), sl9⟩)
    (c9 : PySem.W.codeIn K cd9 "_law_take" = true)
    (k9 : PySem.W.keepIn K (.ref f9) = true)
    (a10 : PySem.W.nsIn K mainGlobals "_law_pick" = some (some (.ref f10)))
    (l10 : K.lookup f10 = some ⟨oc10, od10, .func (PySem.W.fnOf "_law_pick" "_law_pick" (defArgs s_law_pick) (defBody s_law_pick) (defScope s_law_pick) .none kV10 dc10 pm10 an10 cd10 ct10), sl10⟩)
    (c10 : PySem.W.codeIn K cd10 "_law_pick" = true)
    (k10 : PySem.W.keepIn K (.ref f10) = true)
    (a11 : PySem.W.nsIn K mainGlobals "_law_name" = some (some (.ref f11)))
    (l11 : K.lookup f11 = some ⟨oc11, od11, .func (PySem.W.fnOf "_law_name" "_law_name" (defArgs s_law_name) (defBody s_law_name) (defScope s_law_name) .none kV11 dc11 pm11 an11 cd11 ct11), sl11⟩)
    (c11 : PySem.W.codeIn K cd11 "_law_name" = true)
    (k11 : PySem.W.keepIn K (.ref f11) = true)
    (a12 : PySem.W.nsIn K mainGlobals "_law_ten" = some (some (.ref f12)))
    (l12 : K.lookup f12 = some ⟨oc12, od12, .func (PySem.W.fnOf "_law_ten" "_law_ten" (defArgs s_law_ten) (defBody s_law_ten) (defScope s_law_ten) .none kV12 dc12 pm12 an12 cd12 ct12), sl12⟩)
    (c12 : PySem.W.codeIn K cd12 "_law_ten" = true)
    (k12 : PySem.W.keepIn K (.ref f12) = true)
    (a13 : PySem.W.nsIn K mainGlobals "_law_number" = some (some (.ref f13)))
    (l13 : K.lookup f13 = some ⟨oc13, od13, .func (PySem.W.fnOf "_law_number" "_law_number" (defArgs s_law_number) (defBody s_law_number) (defScope s_law_number) .none kV13 dc13 pm13 an13 cd13 ct13), sl13⟩)
    (c13 : PySem.W.codeIn K cd13 "_law_number" = true)
    (k13 : PySem.W.keepIn K (.ref f13) = true)
    (a14 : PySem.W.nsIn K mainGlobals "_law_part" = some (some (.ref f14)))
    (l14 : K.lookup f14 = some ⟨oc14, od14, .func (PySem.W.fnOf "_law_part" "_law_part" (defArgs s_law_part) (defBody s_law_part) (defScope s_law_part) .none kV14 dc14 pm14 an14 cd14 ct14), sl14⟩)
    (c14 : PySem.W.codeIn K cd14 "_law_part" = true)
    (k14 : PySem.W.keepIn K (.ref f14) = true)
    (a15 : PySem.W.nsIn K mainGlobals "_law_frame" = some (some (.ref f15)))
    (l15 : K.lookup f15 = some ⟨oc15, od15, .func (PySem.W.fnOf "_law_frame" "_law_frame" (defArgs s_law_frame) (defBody s_law_frame) (defScope s_law_frame) .none kV15 dc15 pm15 an15 cd15 ct15), sl15⟩)
    (c15 : PySem.W.codeIn K cd15 "_law_frame" = true)
    (k15 : PySem.W.keepIn K (.ref f15) = true)
    (a16 : PySem.W.nsIn K mainGlobals "_law_odd" = some (some (.ref f16)))
    (l16 : K.lookup f16 = some ⟨oc16, od16, .func (PySem.W.fnOf "_law_odd" "_law_odd" (defArgs s_law_odd) (defBody s_law_odd) (defScope s_law_odd) .none kV16 dc16 pm16 an16 cd16 ct16), sl16⟩)
    (c16 : PySem.W.codeIn K cd16 "_law_odd" = true)
    (k16 : PySem.W.keepIn K (.ref f16) = true)
    (a17 : PySem.W.nsIn K mainGlobals "_law_spoilt" = some (some (.ref f17)))
    (l17 : K.lookup f17 = some ⟨oc17, od17, .func (PySem.W.fnOf "_law_spoilt" "_law_spoilt" (defArgs s_law_spoilt) (defBody s_law_spoilt) (defScope s_law_spoilt) .none kV17 dc17 pm17 an17 cd17 ct17), sl17⟩)
    (c17 : PySem.W.codeIn K cd17 "_law_spoilt" = true)
    (k17 : PySem.W.keepIn K (.ref f17) = true)
    (a18 : PySem.W.nsIn K mainGlobals "law" = some (some (.ref f18)))
    (l18 : K.lookup f18 = some ⟨oc18, od18, .func (PySem.W.fnOf "law" "law" (defArgs s_law) (defBody s_law) (defScope s_law) .none kV18 dc18 pm18 an18 cd18 ct18), sl18⟩)
    (c18 : PySem.W.codeIn K cd18 "law" = true)
    (k18 : PySem.W.keepIn K (.ref f18) = true)
    (v_WAYS : PySem.W.nsIn K mainGlobals "WAYS" = some (some (.ref aW)))
    (v_WORDS : PySem.W.nsIn K mainGlobals "WORDS" = some (some (.ref aO)))
    (v_PARTS : PySem.W.nsIn K mainGlobals "PARTS" = some (some (.ref PA)))
    (lPA : K.lookup PA = some ⟨.type "dict", none, .dict es0 en0, #[]⟩)
    (kPA : PySem.W.KeysLit w.params es0.toList)
    (sPA : (PA == sysModules) = false)
    (pPA : Paired (fun (e : DictEntry) (kv : Str × V) => (∃ t, e.key = .str kv.1 t) ∧ RelV kv.2 e.val) es0.toList [(("clock" : Str), V.ref p0), (("past" : Str), V.ref p1), (("ask" : Str), V.ref p2), (("stop" : Str), V.ref p3), (("told" : Str), V.ref p4), (("piece" : Str), V.ref p5), (("shut" : Str), V.ref p6), (("room" : Str), V.ref p7)])
    (lttW : K.lookup aW = some ⟨.type "tuple", odttW, .seq itsttW nnttW, slttW⟩)
    (sttW : itsttW.size ≤ sizeLine)
    (uttW : Vals ((["in", "out"] : List Str).map V.str) itsttW.toList)
    (lttO : K.lookup aO = some ⟨.type "tuple", odttO, .seq itsttO nnttO, slttO⟩)
    (sttO : itsttO.size ≤ sizeLine)
    (uttO : Vals ((["done", "never", "stopped", "late"] : List Str).map V.str) itsttO.toList)
    (ltp0 : K.lookup p0 = some ⟨.type "tuple", odtp0, .seq itstp0 nntp0, sltp0⟩)
    (stp0 : itstp0.size ≤ sizeLine)
    (utp0 : Vals ((["any"] : List Str).map V.str) itstp0.toList)
    (ltp1 : K.lookup p1 = some ⟨.type "tuple", odtp1, .seq itstp1 nntp1, sltp1⟩)
    (stp1 : itstp1.size ≤ sizeLine)
    (utp1 : Vals ((["one", "one"] : List Str).map V.str) itstp1.toList)
    (ltp2 : K.lookup p2 = some ⟨.type "tuple", odtp2, .seq itstp2 nntp2, sltp2⟩)
    (stp2 : itstp2.size ≤ sizeLine)
    (utp2 : Vals ((["one", "one", "one", "name", "any", "any"] : List Str).map V.str) itstp2.toList)
    (ltp3 : K.lookup p3 = some ⟨.type "tuple", odtp3, .seq itstp3 nntp3, sltp3⟩)
    (stp3 : itstp3.size ≤ sizeLine)
    (utp3 : Vals ((["one", "one", "one"] : List Str).map V.str) itstp3.toList)
    (ltp4 : K.lookup p4 = some ⟨.type "tuple", odtp4, .seq itstp4 nntp4, sltp4⟩)
    (stp4 : itstp4.size ≤ sizeLine)
    (utp4 : Vals ((["one", "one", "word", "any", "nought"] : List Str).map V.str) itstp4.toList)
    (ltp5 : K.lookup p5 = some ⟨.type "tuple", odtp5, .seq itstp5 nntp5, sltp5⟩)
    (stp5 : itstp5.size ≤ sizeLine)
    (utp5 : Vals ((["one", "one", "way", "nought", "any"] : List Str).map V.str) itstp5.toList)
    (ltp6 : K.lookup p6 = some ⟨.type "tuple", odtp6, .seq itstp6 nntp6, sltp6⟩)
    (stp6 : itstp6.size ≤ sizeLine)
    (utp6 : Vals ((["one", "one", "nought"] : List Str).map V.str) itstp6.toList)
    (ltp7 : K.lookup p7 = some ⟨.type "tuple", odtp7, .seq itstp7 nntp7, sltp7⟩)
    (stp7 : itstp7.size ≤ sizeLine)
    (utp7 : Vals ((["one", "one", "way", "nought", "nought"] : List Str).map V.str) itstp7.toList)
    (z_abs : PySem.W.nsIn K mainGlobals "abs" = some none)
    (z_range : PySem.W.nsIn K mainGlobals "range" = some none)
    (z_len : PySem.W.nsIn K mainGlobals "len" = some none)
    (z_isinstance : PySem.W.nsIn K mainGlobals "isinstance" = some none)
    (z_list : PySem.W.nsIn K mainGlobals "list" = some none)
    (z_tuple : PySem.W.nsIn K mainGlobals "tuple" = some none)
    (z_int : PySem.W.nsIn K mainGlobals "int" = some none)
    (z_bool : PySem.W.nsIn K mainGlobals "bool" = some none)
    (z_str : PySem.W.nsIn K mainGlobals "str" = some none)
    (z_all : PySem.W.nsIn K mainGlobals "all" = some none)
    (z_zip : PySem.W.nsIn K mainGlobals "zip" = some none)
    (z_sorted : PySem.W.nsIn K mainGlobals "sorted" = some none)
    (z_max : PySem.W.nsIn K mainGlobals "max" = some none)
    (z_min : PySem.W.nsIn K mainGlobals "min" = some none)
    (z_repr : PySem.W.nsIn K mainGlobals "repr" = some none)
    (v_LETTERS : PySem.W.nsIn K mainGlobals "LETTERS" = some (some (.str "abcdefghijklmnopqrstuvwxyz" tkLETTERS)))
    (v_MOST_LETTERS : PySem.W.nsIn K mainGlobals "MOST_LETTERS" = some (some (.int 8 tkMOST_LETTERS)))
    : ∃ fd : FuncData, (∀ (s : Shared) (v : Value), BindsTo s fd ⟨[v], []⟩ [("_law_script", v)]) ∧ ∀ base : Heap, K.In base → base.Ns mainGlobals mg → FnOk l.prog w K mg base CX0 6 fa fd ["_law_script"] (spLaw K) := by
  have e := hfa.symm.trans (PySem.W.mg_of X G a18)
  cases e
  have F_is_name := fun_mk (st := s_is_name) l1 c1 k1
  have b_is_name := F_is_name.binds (ps := ["thing"]) fun _ _ _ _ _ _ us hl => match us, hl with | [_], _ => rfl
  have g_is_name : mg "is_name" = some (.ref f1) := PySem.W.mg_of X G a1
  have F_is_part := fun_mk (st := s_is_part) l2 c2 k2
  have b_is_part := F_is_part.binds (ps := ["thing", "sort"]) fun _ _ _ _ _ _ us hl => match us, hl with | [_, _], _ => rfl
  have g_is_part : mg "is_part" = some (.ref f2) := PySem.W.mg_of X G a2
  have F_is_frame := fun_mk (st := s_is_frame) l3 c3 k3
  have b_is_frame := F_is_frame.binds (ps := ["thing"]) fun _ _ _ _ _ _ us hl => match us, hl with | [_], _ => rfl
  have g_is_frame : mg "is_frame" = some (.ref f3) := PySem.W.mg_of X G a3
  have F_law_is_name := fun_mk (st := s_law_is_name) l4 c4 k4
  have b_law_is_name := F_law_is_name.binds (ps := ["_law_matter"]) fun _ _ _ _ _ _ us hl => match us, hl with | [_], _ => rfl
  have g_law_is_name : mg "_law_is_name" = some (.ref f4) := PySem.W.mg_of X G a4
  have F_law_is_part := fun_mk (st := s_law_is_part) l5 c5 k5
  have b_law_is_part := F_law_is_part.binds (ps := ["_law_matter", "_law_sort"]) fun _ _ _ _ _ _ us hl => match us, hl with | [_, _], _ => rfl
  have g_law_is_part : mg "_law_is_part" = some (.ref f5) := PySem.W.mg_of X G a5
  have F_law_kinds := fun_mk (st := s_law_kinds) l6 c6 k6
  have b_law_kinds := F_law_kinds.binds (ps := []) fun _ _ _ _ _ _ us hl => match us, hl with | [], _ => rfl
  have g_law_kinds : mg "_law_kinds" = some (.ref f6) := PySem.W.mg_of X G a6
  have F_law_is_frame := fun_mk (st := s_law_is_frame) l7 c7 k7
  have b_law_is_frame := F_law_is_frame.binds (ps := ["_law_matter"]) fun _ _ _ _ _ _ us hl => match us, hl with | [_], _ => rfl
  have g_law_is_frame : mg "_law_is_frame" = some (.ref f7) := PySem.W.mg_of X G a7
  have F_law_begun := fun_mk (st := s_law_begun) l8 c8 k8
  have b_law_begun := F_law_begun.binds (ps := ["_law_script"]) fun _ _ _ _ _ _ us hl => match us, hl with | [_], _ => rfl
  have g_law_begun : mg "_law_begun" = some (.ref f8) := PySem.W.mg_of X G a8
  have F_law_take := fun_mk (st := s_law_take) l9 c9 k9
  have b_law_take := F_law_take.binds (ps := ["_law_draw", "_law_many"]) fun _ _ _ _ _ _ us hl => match us, hl with | [_, _], _ => rfl
  have g_law_take : mg "_law_take" = some (.ref f9) := PySem.W.mg_of X G a9
  have F_law_pick := fun_mk (st := s_law_pick) l10 c10 k10
  have b_law_pick := F_law_pick.binds (ps := ["_law_draw", "_law_some"]) fun _ _ _ _ _ _ us hl => match us, hl with | [_, _], _ => rfl
  have g_law_pick : mg "_law_pick" = some (.ref f10) := PySem.W.mg_of X G a10
  have F_law_name := fun_mk (st := s_law_name) l11 c11 k11
  have b_law_name := F_law_name.binds (ps := ["_law_draw"]) fun _ _ _ _ _ _ us hl => match us, hl with | [_], _ => rfl
  have g_law_name : mg "_law_name" = some (.ref f11) := PySem.W.mg_of X G a11
  have F_law_ten := fun_mk (st := s_law_ten) l12 c12 k12
  have b_law_ten := F_law_ten.binds (ps := ["_law_many"]) fun _ _ _ _ _ _ us hl => match us, hl with | [_], _ => rfl
  have g_law_ten : mg "_law_ten" = some (.ref f12) := PySem.W.mg_of X G a12
  have F_law_number := fun_mk (st := s_law_number) l13 c13 k13
  have b_law_number := F_law_number.binds (ps := ["_law_draw", "_law_least"]) fun _ _ _ _ _ _ us hl => match us, hl with | [_, _], _ => rfl
  have g_law_number : mg "_law_number" = some (.ref f13) := PySem.W.mg_of X G a13
  have F_law_part := fun_mk (st := s_law_part) l14 c14 k14
  have b_law_part := F_law_part.binds (ps := ["_law_draw", "_law_sort"]) fun _ _ _ _ _ _ us hl => match us, hl with | [_, _], _ => rfl
  have g_law_part : mg "_law_part" = some (.ref f14) := PySem.W.mg_of X G a14
  have F_law_frame := fun_mk (st := s_law_frame) l15 c15 k15
  have b_law_frame := F_law_frame.binds (ps := ["_law_draw"]) fun _ _ _ _ _ _ us hl => match us, hl with | [_], _ => rfl
  have g_law_frame : mg "_law_frame" = some (.ref f15) := PySem.W.mg_of X G a15
  have F_law_odd := fun_mk (st := s_law_odd) l16 c16 k16
  have b_law_odd := F_law_odd.binds (ps := ["_law_draw", "_law_part_here"]) fun _ _ _ _ _ _ us hl => match us, hl with | [_, _], _ => rfl
  have g_law_odd : mg "_law_odd" = some (.ref f16) := PySem.W.mg_of X G a16
  have F_law_spoilt := fun_mk (st := s_law_spoilt) l17 c17 k17
  have b_law_spoilt := F_law_spoilt.binds (ps := ["_law_draw", "_law_matter"]) fun _ _ _ _ _ _ us hl => match us, hl with | [_, _], _ => rfl
  have g_law_spoilt : mg "_law_spoilt" = some (.ref f17) := PySem.W.mg_of X G a17
  have F_law := fun_mk (st := s_law) l18 c18 k18
  have b_law := F_law.binds (ps := ["_law_script"]) fun _ _ _ _ _ _ us hl => match us, hl with | [_], _ => rfl
  have w_WAYS := PySem.W.mg_of X G v_WAYS
  have w_WORDS := PySem.W.mg_of X G v_WORDS
  have w_PARTS := PySem.W.mg_of X G v_PARTS
  have httW : KTup K aW ((["in", "out"] : List Str).map V.str) := ⟨_, _, _, lttW, rfl, rfl, sttW, uttW⟩
  have httO : KTup K aO ((["done", "never", "stopped", "late"] : List Str).map V.str) := ⟨_, _, _, lttO, rfl, rfl, sttO, uttO⟩
  have htp0 : KTup K p0 ((["any"] : List Str).map V.str) := ⟨_, _, _, ltp0, rfl, rfl, stp0, utp0⟩
  have htp1 : KTup K p1 ((["one", "one"] : List Str).map V.str) := ⟨_, _, _, ltp1, rfl, rfl, stp1, utp1⟩
  have htp2 : KTup K p2 ((["one", "one", "one", "name", "any", "any"] : List Str).map V.str) := ⟨_, _, _, ltp2, rfl, rfl, stp2, utp2⟩
  have htp3 : KTup K p3 ((["one", "one", "one"] : List Str).map V.str) := ⟨_, _, _, ltp3, rfl, rfl, stp3, utp3⟩
  have htp4 : KTup K p4 ((["one", "one", "word", "any", "nought"] : List Str).map V.str) := ⟨_, _, _, ltp4, rfl, rfl, stp4, utp4⟩
  have htp5 : KTup K p5 ((["one", "one", "way", "nought", "any"] : List Str).map V.str) := ⟨_, _, _, ltp5, rfl, rfl, stp5, utp5⟩
  have htp6 : KTup K p6 ((["one", "one", "nought"] : List Str).map V.str) := ⟨_, _, _, ltp6, rfl, rfl, stp6, utp6⟩
  have htp7 : KTup K p7 ((["one", "one", "way", "nought", "nought"] : List Str).map V.str) := ⟨_, _, _, ltp7, rfl, rfl, stp7, utp7⟩
  have hPA : KParts K w PA := ⟨[(("clock" : Str), V.ref p0), (("past" : Str), V.ref p1), (("ask" : Str), V.ref p2), (("stop" : Str), V.ref p3), (("told" : Str), V.ref p4), (("piece" : Str), V.ref p5), (("shut" : Str), V.ref p6), (("room" : Str), V.ref p7)], ⟨_, _, lPA, kPA, sPA, pPA⟩, .cons ⟨rfl, p0, rfl, htp0⟩ (.cons ⟨rfl, p1, rfl, htp1⟩ (.cons ⟨rfl, p2, rfl, htp2⟩ (.cons ⟨rfl, p3, rfl, htp3⟩ (.cons ⟨rfl, p4, rfl, htp4⟩ (.cons ⟨rfl, p5, rfl, htp5⟩ (.cons ⟨rfl, p6, rfl, htp6⟩ (.cons ⟨rfl, p7, rfl, htp7⟩ (.nil))))))))⟩
  have z_abs : mg "abs" = none := PySem.W.mg_none_of X G z_abs
  have z_range : mg "range" = none := PySem.W.mg_none_of X G z_range
  have z_len : mg "len" = none := PySem.W.mg_none_of X G z_len
  have z_isinstance : mg "isinstance" = none := PySem.W.mg_none_of X G z_isinstance
  have z_list : mg "list" = none := PySem.W.mg_none_of X G z_list
  have z_tuple : mg "tuple" = none := PySem.W.mg_none_of X G z_tuple
  have z_int : mg "int" = none := PySem.W.mg_none_of X G z_int
  have z_bool : mg "bool" = none := PySem.W.mg_none_of X G z_bool
  have z_str : mg "str" = none := PySem.W.mg_none_of X G z_str
  have z_all : mg "all" = none := PySem.W.mg_none_of X G z_all
  have z_zip : mg "zip" = none := PySem.W.mg_none_of X G z_zip
  have z_sorted : mg "sorted" = none := PySem.W.mg_none_of X G z_sorted
  have z_max : mg "max" = none := PySem.W.mg_none_of X G z_max
  have z_min : mg "min" = none := PySem.W.mg_none_of X G z_min
  have z_repr : mg "repr" = none := PySem.W.mg_none_of X G z_repr
  have w_LETTERS := PySem.W.mg_of X G v_LETTERS
  have w_MOST_LETTERS := PySem.W.mg_of X G v_MOST_LETTERS
  refine ⟨PySem.W.fnOf "law" "law" (defArgs s_law) (defBody s_law) (defScope s_law) .none kV18 dc18 pm18 an18 cd18 ct18, fun s v => .of_eq rfl, fun base _ _ => ?_⟩
  have cname : Cal l.prog w K mg base CX0 1 "is_name" (spPure isName) := ⟨_, _, _, ok_is_name F_is_name z_isinstance z_str z_len z_all w_LETTERS w_MOST_LETTERS, g_is_name, F_is_name.kp, b_is_name⟩
  have cnameK : CalK l.prog w K mg base CX0 1 "is_name" ["thing"] [0] (spPure isName) := ⟨_, _, _, ok_is_name F_is_name z_isinstance z_str z_len z_all w_LETTERS w_MOST_LETTERS, g_is_name, F_is_name.kp, fun_kbn F_is_name 0 ["thing"] [0] (fun _ _ _ _ _ _ us ws h1 h2 => match us, ws, h1, h2 with | [], [_], _, _ => rfl)⟩
  have cpart : Cal l.prog w K mg base CX0 2 "is_part" spPart := ⟨_, _, _, ok_is_part F_is_part z_isinstance z_str z_int z_bool cname w_WAYS httW w_WORDS httO, g_is_part, F_is_part.kp, b_is_part⟩
  have cfr : Cal l.prog w K mg base CX0 3 "is_frame" (spPure isFrame) := ⟨_, _, _, ok_is_frame F_is_frame z_isinstance z_tuple z_str z_len z_zip z_all cname cpart w_PARTS hPA, g_is_frame, F_is_frame.kp, b_is_frame⟩
  have cfrK : CalK l.prog w K mg base CX0 3 "is_frame" ["thing"] [0] (spPure isFrame) := ⟨_, _, _, ok_is_frame F_is_frame z_isinstance z_tuple z_str z_len z_zip z_all cname cpart w_PARTS hPA, g_is_frame, F_is_frame.kp, fun_kbn F_is_frame 0 ["thing"] [0] (fun _ _ _ _ _ _ us ws h1 h2 => match us, ws, h1, h2 with | [], [_], _, _ => rfl)⟩
  have clname : Cal l.prog w K mg base CX0 1 "_law_is_name" (spPure isName) := ⟨_, _, _, ok_law_is_name F_law_is_name z_isinstance z_str z_len, g_law_is_name, F_law_is_name.kp, b_law_is_name⟩
  have clpart : Cal l.prog w K mg base CX0 2 "_law_is_part" spPart := ⟨_, _, _, ok_law_is_part F_law_is_part z_isinstance z_str z_int z_bool clname, g_law_is_part, F_law_is_part.kp, b_law_is_part⟩
  have ckinds : Cal l.prog w K mg base CX0 1 "_law_kinds" spKinds := ⟨_, _, _, ok_law_kinds F_law_kinds, g_law_kinds, F_law_kinds.kp, b_law_kinds⟩
  have clfr : Cal l.prog w K mg base CX0 3 "_law_is_frame" (spPure isFrame) := ⟨_, _, _, ok_law_is_frame F_law_is_frame z_isinstance z_tuple z_str z_len z_zip clname clpart ckinds, g_law_is_frame, F_law_is_frame.kp, b_law_is_frame⟩
  have cbegun : Cal l.prog w K mg base CX0 1 "_law_begun" (spBegun K) := ⟨_, _, _, ok_law_begun F_law_begun z_abs, g_law_begun, F_law_begun.kp, b_law_begun⟩
  have ctake : Cal l.prog w K mg base CX0 1 "_law_take" spLTake := ⟨_, _, _, ok_law_take F_law_take z_len, g_law_take, F_law_take.kp, b_law_take⟩
  have cpick : Cal l.prog w K mg base CX0 2 "_law_pick" (spPick K) := ⟨_, _, _, ok_law_pick F_law_pick ctake z_len, g_law_pick, F_law_pick.kp, b_law_pick⟩
  have cdname : Cal l.prog w K mg base CX0 3 "_law_name" spNameD := ⟨_, _, _, ok_law_name F_law_name ctake cpick z_range, g_law_name, F_law_name.kp, b_law_name⟩
  have cten : Cal l.prog w K mg base CX0 1 "_law_ten" spTen := ⟨_, _, _, ok_law_ten F_law_ten z_range, g_law_ten, F_law_ten.kp, b_law_ten⟩
  have cnum : Cal l.prog w K mg base CX0 3 "_law_number" spNumF := ⟨_, _, _, ok_law_number F_law_number ctake cpick z_int cten, g_law_number, F_law_number.kp, b_law_number⟩
  have cdpart : Cal l.prog w K mg base CX0 4 "_law_part" spPartD := ⟨_, _, _, ok_law_part F_law_part cpick cdname cnum, g_law_part, F_law_part.kp, b_law_part⟩
  have cframe : Cal l.prog w K mg base CX0 5 "_law_frame" spFrameD := ⟨_, _, _, ok_law_frame F_law_frame cpick ckinds cdname cdpart z_sorted z_list z_tuple, g_law_frame, F_law_frame.kp, b_law_frame⟩
  have codd : Cal l.prog w K mg base CX0 3 "_law_odd" spOddF := ⟨_, _, _, ok_law_odd F_law_odd ctake cpick z_isinstance z_str z_int z_len, g_law_odd, F_law_odd.kp, b_law_odd⟩
  have cspoilt : Cal l.prog w K mg base CX0 4 "_law_spoilt" spSpoilF := ⟨_, _, _, ok_law_spoilt F_law_spoilt ctake cpick ckinds codd z_len z_sorted z_list, g_law_spoilt, F_law_spoilt.kp, b_law_spoilt⟩
  exact ok_law F_law cbegun ctake cpick cframe cspoilt cfrK cfr clfr cnameK cname clname z_range z_isinstance z_bool z_len z_max z_min z_list z_repr
end G

set_option linter.all false
set_option maxRecDepth 100000
set_option maxHeartbeats 4000000
open PySem PySem.W PyProof.Rows
set_option maxRecDepth 100000 in
set_option maxHeartbeats 0 in
theorem PySem.Challenge.cw_farasked_k01_frames_known_holds : PySem.Challenge.rw_farasked_k01_frames_known.Holds := by
  w_on; o_law; k_head; (case hw => w_witness2)
  k_fill
  refine L2.walk_of (l := PySem.Challenge.rw_farasked_k01_frames_known) (n := 63) (k := 6) (x := "_law_script") (CX := fun _ => L2.CX0) (sp := fun w => G.spLaw _) rfl (by decide) rfl ⟨rfl, by decide, by decide⟩ (fun w h Y => PySem.W.kIn_of Y) ?F (fun _ _ a ns hl _ hS => ⟨a, ns, rfl, hS, hl, fun _ => rfl⟩) (fun _ _ _ _ _ h => h)
  case F =>
    intro w mg fa h KX GN hmg
    refine' G.all_mk KX GN hmg ?a1 ?l1 ?c1 ?k1 ?a2 ?l2 ?c2 ?k2 ?a3 ?l3 ?c3 ?k3 ?a4 ?l4 ?c4 ?k4 ?a5 ?l5 ?c5 ?k5 ?a6 ?l6 ?c6 ?k6 ?a7 ?l7 ?c7 ?k7 ?a8 ?l8 ?c8 ?k8 ?a9 ?l9 ?c9 ?k9 ?a10 ?l10 ?c10 ?k10 ?a11 ?l11 ?c11 ?k11 ?a12 ?l12 ?c12 ?k12 ?a13 ?l13 ?c13 ?k13 ?a14 ?l14 ?c14 ?k14 ?a15 ?l15 ?c15 ?k15 ?a16 ?l16 ?c16 ?k16 ?a17 ?l17 ?c17 ?k17 ?a18 ?l18 ?c18 ?k18 ?v_WAYS ?v_WORDS ?v_PARTS ?lPA ?kPA ?sPA ?pPA ?lttW ?sttW ?uttW ?lttO ?sttO ?uttO ?ltp0 ?stp0 ?utp0 ?ltp1 ?stp1 ?utp1 ?ltp2 ?stp2 ?utp2 ?ltp3 ?stp3 ?utp3 ?ltp4 ?stp4 ?utp4 ?ltp5 ?stp5 ?utp5 ?ltp6 ?stp6 ?utp6 ?ltp7 ?stp7 ?utp7 ?z_abs ?z_range ?z_len ?z_isinstance ?z_list ?z_tuple ?z_int ?z_bool ?z_str ?z_all ?z_zip ?z_sorted ?z_max ?z_min ?z_repr ?v_LETTERS ?v_MOST_LETTERS
    (case a1 => first | k_is | k_exc | kernel_rfl | rfl)
    (case l1 => first | k_is | k_exc | kernel_rfl | rfl)
    (case c1 => first | k_is | k_exc | kernel_rfl | rfl)
    (case k1 => first | k_is | k_exc | kernel_rfl | rfl)
    (case a2 => first | k_is | k_exc | kernel_rfl | rfl)
    (case l2 => first | k_is | k_exc | kernel_rfl | rfl)
    (case c2 => first | k_is | k_exc | kernel_rfl | rfl)
    (case k2 => first | k_is | k_exc | kernel_rfl | rfl)
    (case a3 => first | k_is | k_exc | kernel_rfl | rfl)
    (case l3 => first | k_is | k_exc | kernel_rfl | rfl)
    (case c3 => first | k_is | k_exc | kernel_rfl | rfl)
    (case k3 => first | k_is | k_exc | kernel_rfl | rfl)
    (case a4 => first | k_is | k_exc | kernel_rfl | rfl)
    (case l4 => first | k_is | k_exc | kernel_rfl | rfl)
    (case c4 => first | k_is | k_exc | kernel_rfl | rfl)
    (case k4 => first | k_is | k_exc | kernel_rfl | rfl)
    (case a5 => first | k_is | k_exc | kernel_rfl | rfl)
    (case l5 => first | k_is | k_exc | kernel_rfl | rfl)
    (case c5 => first | k_is | k_exc | kernel_rfl | rfl)
    (case k5 => first | k_is | k_exc | kernel_rfl | rfl)
    (case a6 => first | k_is | k_exc | kernel_rfl | rfl)
    (case l6 => first | k_is | k_exc | kernel_rfl | rfl)
    (case c6 => first | k_is | k_exc | kernel_rfl | rfl)
    (case k6 => first | k_is | k_exc | kernel_rfl | rfl)
    (case a7 => first | k_is | k_exc | kernel_rfl | rfl)
    (case l7 => first | k_is | k_exc | kernel_rfl | rfl)
    (case c7 => first | k_is | k_exc | kernel_rfl | rfl)
    (case k7 => first | k_is | k_exc | kernel_rfl | rfl)
    (case a8 => first | k_is | k_exc | kernel_rfl | rfl)
    (case l8 => first | k_is | k_exc | kernel_rfl | rfl)
    (case c8 => first | k_is | k_exc | kernel_rfl | rfl)
    (case k8 => first | k_is | k_exc | kernel_rfl | rfl)
    (case a9 => first | k_is | k_exc | kernel_rfl | rfl)
    (case l9 => first | k_is | k_exc | kernel_rfl | rfl)
    (case c9 => first | k_is | k_exc | kernel_rfl | rfl)
    (case k9 => first | k_is | k_exc | kernel_rfl | rfl)
    (case a10 => first | k_is | k_exc | kernel_rfl | rfl)
    (case l10 => first | k_is | k_exc | kernel_rfl | rfl)
    (case c10 => first | k_is | k_exc | kernel_rfl | rfl)
    (case k10 => first | k_is | k_exc | kernel_rfl | rfl)
    (case a11 => first | k_is | k_exc | kernel_rfl | rfl)
    (case l11 => first | k_is | k_exc | kernel_rfl | rfl)
    (case c11 => first | k_is | k_exc | kernel_rfl | rfl)
    (case k11 => first | k_is | k_exc | kernel_rfl | rfl)
    (case a12 => first | k_is | k_exc | kernel_rfl | rfl)
    (case l12 => first | k_is | k_exc | kernel_rfl | rfl)
    (case c12 => first | k_is | k_exc | kernel_rfl | rfl)
    (case k12 => first | k_is | k_exc | kernel_rfl | rfl)
    (case a13 => first | k_is | k_exc | kernel_rfl | rfl)
    (case l13 => first | k_is | k_exc | kernel_rfl | rfl)
    (case c13 => first | k_is | k_exc | kernel_rfl | rfl)
    (case k13 => first | k_is | k_exc | kernel_rfl | rfl)
    (case a14 => first | k_is | k_exc | kernel_rfl | rfl)
    (case l14 => first | k_is | k_exc | kernel_rfl | rfl)
    (case c14 => first | k_is | k_exc | kernel_rfl | rfl)
    (case k14 => first | k_is | k_exc | kernel_rfl | rfl)
    (case a15 => first | k_is | k_exc | kernel_rfl | rfl)
    (case l15 => first | k_is | k_exc | kernel_rfl | rfl)
    (case c15 => first | k_is | k_exc | kernel_rfl | rfl)
    (case k15 => first | k_is | k_exc | kernel_rfl | rfl)
    (case a16 => first | k_is | k_exc | kernel_rfl | rfl)
    (case l16 => first | k_is | k_exc | kernel_rfl | rfl)
    (case c16 => first | k_is | k_exc | kernel_rfl | rfl)
    (case k16 => first | k_is | k_exc | kernel_rfl | rfl)
    (case a17 => first | k_is | k_exc | kernel_rfl | rfl)
    (case l17 => first | k_is | k_exc | kernel_rfl | rfl)
    (case c17 => first | k_is | k_exc | kernel_rfl | rfl)
    (case k17 => first | k_is | k_exc | kernel_rfl | rfl)
    (case a18 => first | k_is | k_exc | kernel_rfl | rfl)
    (case l18 => first | k_is | k_exc | kernel_rfl | rfl)
    (case c18 => first | k_is | k_exc | kernel_rfl | rfl)
    (case k18 => first | k_is | k_exc | kernel_rfl | rfl)
    (case v_WAYS => first | k_is | k_exc | kernel_rfl | rfl)
    (case v_WORDS => first | k_is | k_exc | kernel_rfl | rfl)
    (case v_PARTS => first | k_is | k_exc | kernel_rfl | rfl)
    (case lPA => first | k_is | k_exc | kernel_rfl | rfl)
    (case kPA => k_keys)
    (case sPA => first | rfl | decide | kernel_rfl)
    (case pPA => repeat (first | exact .nil | refine .cons ⟨⟨_, rfl⟩, rfl⟩ ?_))
    (case lttW => first | k_is | k_exc | kernel_rfl | rfl)
    (case sttW => first | exact Nat.le_of_ble_eq_true rfl | decide)
    (case uttW => repeat (first | exact .nil | refine .cons ⟨_, rfl⟩ ?_))
    (case lttO => first | k_is | k_exc | kernel_rfl | rfl)
    (case sttO => first | exact Nat.le_of_ble_eq_true rfl | decide)
    (case uttO => repeat (first | exact .nil | refine .cons ⟨_, rfl⟩ ?_))
    (case ltp0 => first | k_is | k_exc | kernel_rfl | rfl)
    (case stp0 => first | exact Nat.le_of_ble_eq_true rfl | decide)
    (case utp0 => repeat (first | exact .nil | refine .cons ⟨_, rfl⟩ ?_))
    (case ltp1 => first | k_is | k_exc | kernel_rfl | rfl)
    (case stp1 => first | exact Nat.le_of_ble_eq_true rfl | decide)
    (case utp1 => repeat (first | exact .nil | refine .cons ⟨_, rfl⟩ ?_))
    (case ltp2 => first | k_is | k_exc | kernel_rfl | rfl)
    (case stp2 => first | exact Nat.le_of_ble_eq_true rfl | decide)
    (case utp2 => repeat (first | exact .nil | refine .cons ⟨_, rfl⟩ ?_))
    (case ltp3 => first | k_is | k_exc | kernel_rfl | rfl)
    (case stp3 => first | exact Nat.le_of_ble_eq_true rfl | decide)
    (case utp3 => repeat (first | exact .nil | refine .cons ⟨_, rfl⟩ ?_))
    (case ltp4 => first | k_is | k_exc | kernel_rfl | rfl)
    (case stp4 => first | exact Nat.le_of_ble_eq_true rfl | decide)
    (case utp4 => repeat (first | exact .nil | refine .cons ⟨_, rfl⟩ ?_))
    (case ltp5 => first | k_is | k_exc | kernel_rfl | rfl)
    (case stp5 => first | exact Nat.le_of_ble_eq_true rfl | decide)
    (case utp5 => repeat (first | exact .nil | refine .cons ⟨_, rfl⟩ ?_))
    (case ltp6 => first | k_is | k_exc | kernel_rfl | rfl)
    (case stp6 => first | exact Nat.le_of_ble_eq_true rfl | decide)
    (case utp6 => repeat (first | exact .nil | refine .cons ⟨_, rfl⟩ ?_))
    (case ltp7 => first | k_is | k_exc | kernel_rfl | rfl)
    (case stp7 => first | exact Nat.le_of_ble_eq_true rfl | decide)
    (case utp7 => repeat (first | exact .nil | refine .cons ⟨_, rfl⟩ ?_))
    (case z_abs => first | k_is | k_exc | kernel_rfl | rfl)
    (case z_range => first | k_is | k_exc | kernel_rfl | rfl)
    (case z_len => first | k_is | k_exc | kernel_rfl | rfl)
    (case z_isinstance => first | k_is | k_exc | kernel_rfl | rfl)
    (case z_list => first | k_is | k_exc | kernel_rfl | rfl)
    (case z_tuple => first | k_is | k_exc | kernel_rfl | rfl)
    (case z_int => first | k_is | k_exc | kernel_rfl | rfl)
    (case z_bool => first | k_is | k_exc | kernel_rfl | rfl)
    (case z_str => first | k_is | k_exc | kernel_rfl | rfl)
    (case z_all => first | k_is | k_exc | kernel_rfl | rfl)
    (case z_zip => first | k_is | k_exc | kernel_rfl | rfl)
    (case z_sorted => first | k_is | k_exc | kernel_rfl | rfl)
    (case z_max => first | k_is | k_exc | kernel_rfl | rfl)
    (case z_min => first | k_is | k_exc | kernel_rfl | rfl)
    (case z_repr => first | k_is | k_exc | kernel_rfl | rfl)
    (case v_LETTERS => first | k_is | k_exc | kernel_rfl | rfl)
    (case v_MOST_LETTERS => first | k_is | k_exc | kernel_rfl | rfl)

