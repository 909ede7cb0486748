import PyProof.Rows.All
import Wide.All
import OpenK.AllK
import Wide.FinOn
import KE.KStateDown
import KE.KTupSum
import KE.KDictItemsList
import KE.KDictKeyed
import KE.KDictLaw
import KE.KDictPairs
import KE.SortData
import KE.SortKeyHeap
import HandS.ForMost
import HandS.More
import HandS.Conv
import HandS.Deep
import HandS.Walk
import HandS.Codes
import HandS.Zip
import HandS.Wide
import HandS.IsInst
import HandS.TupAny
import HandS.Style
import HandS.Flow
import HandS.DictTup
import HandS.ListItems
import HandS.SortKw
import HandS.Lambda
import HandS.EndTab
import HandS.HeadWalk
import HandS.Defaults
import HandS.Head0
import HandS.Head1
import HandS.Head2
import HandS.HeadEnd
import HandS.HeadHook1
import HandS.HeadHook2
import HandS.HeadHook3
import HandS.HeadHook4
import PySem.Challenge.RW_watchstations_k66_whole_comes_round
import HandS.Steps
import Lean
import HandS.Ends
import HandS.Words
import HandS.WordsExc
set_option Elab.async false
set_option linter.all false
set_option maxRecDepth 100000
namespace WS
open PySem PySem.Spec PyProof.Rows L2
def top (i : Nat) : Stmt := PySem.Challenge.pw_watchstations_k66_whole_comes_round.main.body.getD i (.Pass ⟨0, 0, 0, 0⟩)
abbrev s_bells_in : Stmt := top 2
abbrev s_watch_at : Stmt := top 3
abbrev s_cycle_from : Stmt := top 5
abbrev s_cycles : Stmt := top 6
abbrev s_divisor : Stmt := top 7
abbrev s_round_of : Stmt := top 8
abbrev s_order_at : Stmt := top 9
abbrev s_kept_by : Stmt := top 11
abbrev s_keeper : Stmt := top 12
abbrev s_short : Stmt := top 15
abbrev s_is_fit : Stmt := top 16
abbrev s_lack_price : Stmt := top 17
abbrev s_cost_of : Stmt := top 21
abbrev s_costs_of : Stmt := top 22
abbrev s_Manning_init : Stmt := inClass (top 23) 0
abbrev s_Manning_fit_places : Stmt := inClass (top 23) 1
abbrev s_Manning_relax : Stmt := inClass (top 23) 2
abbrev s_Manning_cheapest : Stmt := inClass (top 23) 3
abbrev s_Manning_put_along : Stmt := inClass (top 23) 4
abbrev s_Manning_fill : Stmt := inClass (top 23) 5
abbrev s_Manning_hand_down : Stmt := inClass (top 23) 6
abbrev s_Manning_place_down : Stmt := inClass (top 23) 7
abbrev s_Manning_levelled : Stmt := inClass (top 23) 8
abbrev s_Manning_paper : Stmt := inClass (top 23) 9
abbrev s_man : Stmt := top 24
abbrev s_names_in : Stmt := top 26
abbrev s_in_order : Stmt := top 30
abbrev s_Holding_init : Stmt := inClass (top 31) 0
abbrev s_Holding_mustered : Stmt := inClass (top 31) 4
abbrev s_with_many : Stmt := top 33
abbrev s_places_of : Stmt := top 34
abbrev s_where_of : Stmt := top 35
abbrev s_Voyage_init : Stmt := inClass (top 36) 0
abbrev s_Voyage_come_to : Stmt := inClass (top 36) 1
abbrev s_Voyage_lot_of_watch : Stmt := inClass (top 36) 2
abbrev s_Voyage_by_bill : Stmt := inClass (top 36) 3
abbrev s_Voyage_go_on : Stmt := inClass (top 36) 8
abbrev s_come_so_far : Stmt := top 37
abbrev s_posted : Stmt := top 38
abbrev s_stations_there : Stmt := top 39
abbrev s_stations : Stmt := top 40
abbrev s_all_stations : Stmt := top 41
abbrev s_day_begins : Stmt := top 43
abbrev s_comes_round : Stmt := top 44
abbrev s__law_hand : Stmt := top 46
abbrev s__law_take : Stmt := top 47
abbrev s__law_of : Stmt := top 48
abbrev s__law_order : Stmt := top 49
abbrev s__law_names : Stmt := top 50
abbrev s__law_lot : Stmt := top 51
abbrev s__law_roll : Stmt := top 52
abbrev s__law_ship : Stmt := top 53
abbrev s__law_begins : Stmt := top 54
abbrev s__law_due : Stmt := top 55
abbrev s__law_again : Stmt := top 56
abbrev s_law : Stmt := top 57
end WS
set_option Elab.async false
set_option linter.all false
set_option maxRecDepth 100000
set_option maxHeartbeats 2000000
namespace WS
open PySem PySem.Spec PyProof.Rows L2
/-! ### heaps: what is kept -/
/-- tuples stay -/
def TK (H H' : Hp) : Prop := ∀ b xs, H b = some (.tup xs) → H' b = some (.tup xs)
/-- all but S stays, tuples always; nothing is forgotten -/
def NT (o : Option HO) : Prop := o = none ∨ ∃ ps, o = some (.tbl ps)
structure Kp (S : Addr → Prop) (H H' : Hp) : Prop where
  k : ∀ b o, H b = some o → (S b → ∃ xs, o = .tup xs) → H' b = some o
  fr : ∀ b, H' b = none → H b = none
  tb : ∀ b ps, H' b = some (.tbl ps) → NT (H b)
abbrev K0 : Hp → Hp → Prop := Kp fun _ => False
theorem TK.refl (H : Hp) : TK H H := fun _ _ h => h
theorem TK.trans {H H1 H2 : Hp} (a : TK H H1) (b : TK H1 H2) : TK H H2 := fun c xs h => b c xs (a c xs h)
section
variable {S T : Addr → Prop} {H H1 H2 H' : Hp} {p b : Addr} {o o' : HO}
theorem Kp.tk (h : Kp S H H') : TK H H' := fun b xs e => h.k b _ e fun _ => ⟨xs, rfl⟩
theorem Kp.refl (H : Hp) : Kp S H H := ⟨fun _ _ h _ => h, fun _ h => h, fun _ ps h => .inr ⟨ps, h⟩⟩
theorem Kp.trans (a : Kp S H H1) (b : Kp S H1 H2) : Kp S H H2 := ⟨fun c o h q => b.k c o (a.k c o h q) q, fun c h => a.fr c (b.fr c h), fun c ps h => by
  rcases b.tb c ps h with e | ⟨qs, e⟩
  · exact .inl (a.fr c e)
  · exact a.tb c qs e⟩
theorem Kp.mono (a : Kp S H H') (h : ∀ b, S b → T b) : Kp T H H' := ⟨fun c o e q => a.k c o e fun s => q (h c s), a.fr, a.tb⟩
theorem Kp.get (a : Kp S H H') (e : H b = some o) (n : ¬ S b) : H' b = some o := a.k b o e fun s => absurd s n
theorem Kp.tup {xs : List V} (a : Kp S H H') (e : H b = some (.tup xs)) : H' b = some (.tup xs) := a.tk b xs e
theorem Kp.get0 (a : K0 H H') (e : H b = some o) : H' b = some o := a.get e fun z => z
theorem Kp.up (a : K0 H H') : Kp S H H' := a.mono fun _ z => z.elim
theorem Kp.new (h : H p = none) : Kp S H (upd H p o) := ⟨fun c u e _ => by rw [upd_ne (ne_of_none e h)]; exact e, fun c e => by
  by_cases hc : c = p
  · rw [hc]; exact h
  · rw [upd_ne hc] at e; exact e, fun c ps e => by
  by_cases hc : c = p
  · rw [hc]; exact .inl h
  · rw [upd_ne hc] at e; exact .inr ⟨ps, e⟩⟩
theorem Kp.set (s : S p) (h : H p = some o) (nt : ∀ xs, o ≠ .tup xs) (nb : ∀ ps, o' ≠ .tbl ps) : Kp S H (upd H p o') := ⟨fun c u e q => by
  by_cases hc : c = p
  · subst hc
    obtain ⟨xs, rfl⟩ := q s
    rw [h] at e
    exact absurd (Option.some.inj e) (nt xs)
  · rw [upd_ne hc]; exact e, fun c e => by
  by_cases hc : c = p
  · rw [hc, upd_same] at e; cases e
  · rw [upd_ne hc] at e; exact e, fun c ps e => by
  by_cases hc : c = p
  · rw [hc, upd_same] at e; exact absurd (Option.some.inj e) (nb ps)
  · rw [upd_ne hc] at e; exact .inr ⟨ps, e⟩⟩
/-- an object that did not stand at first may change -/
theorem Kp.mut (a : Kp S H H1) (h : H p = none) : Kp S H (upd H1 p o) := ⟨fun c u e q => by
  rw [upd_ne (ne_of_none e h)]; exact a.k c u e q, fun c e => by
  by_cases hc : c = p
  · rw [hc]; exact h
  · rw [upd_ne hc] at e; exact a.fr c e, fun c ps e => by
  by_cases hc : c = p
  · rw [hc]; exact .inl h
  · rw [upd_ne hc] at e; exact a.tb c ps e⟩
theorem Kp.then_set (a : Kp S H H1) (s : S p) (h : H1 p = some o) (nt : ∀ xs, o ≠ .tup xs) (nb : ∀ ps, o' ≠ .tbl ps) : Kp S H (upd H1 p o') := a.trans (.set s h nt nb)
theorem Kp.then_new (a : Kp S H H1) (h : H1 p = none) : Kp S H (upd H1 p o) := a.trans (.new h)
theorem Kp.same (a : Same H H') (f : ∀ b, H' b = none → H b = none) : K0 H H' := ⟨fun b o e _ => a b o e, f, fun b ps e => by
  cases z : H b with
  | none => exact .inl rfl
  | some o =>
    rw [a b o z] at e
    exact .inr ⟨ps, e⟩⟩
theorem Kp.to_same (a : K0 H H') : Same H H' := fun b o e => a.get0 e
/-- S may forget what did not stand at first -/
theorem Kp.drop (a : Kp T H H1) (h : ∀ b o, H b = some o → T b → S b) : Kp S H H1 := ⟨fun c o e q => a.k c o e fun t => q (h c o e t), a.fr, a.tb⟩
theorem free_ne (h : H p = none) (e : H b = some o) : b ≠ p := ne_of_none e h
end
/-! ### data that never changes: tuples of tuples of flat things -/
mutual
inductive Im (H : Hp) : V → PyData → Prop
  | non : Im H .non .none
  | bl (b : Bool) : Im H (.bl b) (.bool b)
  | int (i : Int) : Im H (.int i) (.int i)
  | str (x : Str) : Im H (.str x) (.str x)
  | tup {a : Addr} {xs : List V} {ds : List PyData} : H a = some (.tup xs) → ImAll H xs ds → Im H (.ref a) (.tuple ds)
inductive ImAll (H : Hp) : List V → List PyData → Prop
  | nil : ImAll H [] []
  | cons {v : V} {vs : List V} {d : PyData} {ds : List PyData} : Im H v d → ImAll H vs ds → ImAll H (v :: vs) (d :: ds)
end
mutual
theorem Im.mono {H H' : Hp} (t : TK H H') : ∀ {v : V} {d : PyData}, Im H v d → Im H' v d
  | _, _, .non => .non
  | _, _, .bl b => .bl b
  | _, _, .int i => .int i
  | _, _, .str x => .str x
  | _, _, .tup h a => .tup (t _ _ h) (ImAll.mono t a)
theorem ImAll.mono {H H' : Hp} (t : TK H H') : ∀ {v : List V} {d : List PyData}, ImAll H v d → ImAll H' v d
  | _, _, .nil => .nil
  | _, _, .cons h a => .cons (Im.mono t h) (ImAll.mono t a)
end
mutual
theorem Im.dp {K : PySem.W.Frag} {H : Hp} : ∀ {v : V} {d : PyData}, Im H v d → Dp K H v d
  | _, _, .non => .non
  | _, _, .bl b => .bl b
  | _, _, .int i => .int i
  | _, _, .str x => .str x
  | _, _, .tup h a => .tup (.of h) (ImAll.dp a)
theorem ImAll.dp {K : PySem.W.Frag} {H : Hp} : ∀ {v : List V} {d : List PyData}, ImAll H v d → DpAll K H v d
  | _, _, .nil => .nil
  | _, _, .cons h a => .cons (Im.dp h) (ImAll.dp a)
end
section
variable {H : Hp} {v : V} {vs ws : List V} {d : PyData} {ds es : List PyData}
theorem Im.tup_inv (h : Im H v (.tuple ds)) : ∃ a xs, v = .ref a ∧ H a = some (.tup xs) ∧ ImAll H xs ds := by
  cases h with
  | tup h a => exact ⟨_, _, rfl, h, a⟩
theorem Im.int_inv {i : Int} (h : Im H v (.int i)) : v = .int i := by cases h; rfl
theorem Im.str_inv {x : Str} (h : Im H v (.str x)) : v = .str x := by cases h; rfl
theorem Im.non_inv (h : Im H v .none) : v = .non := by cases h; rfl
theorem ImAll.nil_inv (h : ImAll H vs []) : vs = [] := by cases h; rfl
theorem ImAll.cons_inv (h : ImAll H vs (d :: ds)) : ∃ v r, vs = v :: r ∧ Im H v d ∧ ImAll H r ds := by
  cases h with
  | cons h a => exact ⟨_, _, rfl, h, a⟩
theorem ImAll.length : ∀ {vs : List V} {ds : List PyData}, ImAll H vs ds → vs.length = ds.length
  | _, _, .nil => rfl
  | _, _, .cons _ a => congrArg (· + 1) (ImAll.length a)
theorem ImAll.get : ∀ {vs : List V} {ds : List PyData} {i : Nat} {v : V}, ImAll H vs ds → vs[i]? = some v → ∃ d, ds[i]? = some d ∧ Im H v d
  | _, _, _, _, .nil, e => by simp at e
  | _, _, 0, _, .cons h _, e => by simp at e; subst e; exact ⟨_, rfl, h⟩
  | _, _, i + 1, _, .cons _ t, e => by
    obtain ⟨d, h1, h2⟩ := ImAll.get (i := i) t (by simpa using e)
    exact ⟨d, by simpa using h1, h2⟩
theorem ImAll.getD : ∀ {vs : List V} {ds : List PyData} {i : Nat} {d : PyData}, ImAll H vs ds → ds[i]? = some d → ∃ v, vs[i]? = some v ∧ Im H v d
  | _, _, _, _, .nil, e => by simp at e
  | _, _, 0, _, .cons h _, e => by simp at e; subst e; exact ⟨_, rfl, h⟩
  | _, _, i + 1, _, .cons _ t, e => by
    obtain ⟨d, h1, h2⟩ := ImAll.getD (i := i) t (by simpa using e)
    exact ⟨d, by simpa using h1, h2⟩
theorem ImAll.ints : ∀ {ns : List Int} {vs : List V}, ImAll H vs (ns.map .int) → vs = ns.map V.int
  | [], _, h => h.nil_inv
  | n :: ns, _, h => by
    obtain ⟨v, r, rfl, h1, h2⟩ := h.cons_inv
    rw [h1.int_inv, ImAll.ints h2]; rfl
theorem ImAll.strs : ∀ {ns : List Str} {vs : List V}, ImAll H vs (ns.map .str) → vs = ns.map V.str
  | [], _, h => h.nil_inv
  | n :: ns, _, h => by
    obtain ⟨v, r, rfl, h1, h2⟩ := h.cons_inv
    rw [h1.str_inv, ImAll.strs h2]; rfl
theorem ImAll.of_ints : ∀ (ns : List Int), ImAll H (ns.map V.int) (ns.map .int)
  | [] => .nil
  | n :: ns => .cons (.int n) (ImAll.of_ints ns)
theorem ImAll.of_strs : ∀ (ns : List Str), ImAll H (ns.map V.str) (ns.map .str)
  | [] => .nil
  | n :: ns => .cons (.str n) (ImAll.of_strs ns)
theorem ImAll.append : ∀ {vs ws : List V} {ds es : List PyData}, ImAll H vs ds → ImAll H ws es → ImAll H (vs ++ ws) (ds ++ es)
  | _, _, _, _, .nil, h => h
  | _, _, _, _, .cons h t, k => .cons h (ImAll.append t k)
theorem ImAll.take : ∀ {vs : List V} {ds : List PyData} (n : Nat), ImAll H vs ds → ImAll H (vs.take n) (ds.take n)
  | _, _, 0, _ => .nil
  | _, _, n + 1, .nil => .nil
  | _, _, n + 1, .cons h t => .cons h (ImAll.take n t)
theorem ImAll.drop : ∀ {vs : List V} {ds : List PyData} (n : Nat), ImAll H vs ds → ImAll H (vs.drop n) (ds.drop n)
  | _, _, 0, h => h
  | _, _, n + 1, .nil => .nil
  | _, _, n + 1, .cons h t => ImAll.drop n t
theorem ImAll.of_paired {α : Type} {f : α → PyData} : ∀ {as : List α} {vs : List V}, Paired (fun a v => Im H v (f a)) as vs → ImAll H vs (as.map f)
  | _, _, .nil => .nil
  | _, _, .cons h t => .cons h (ImAll.of_paired t)
theorem ImAll.paired {α : Type} {f : α → PyData} : ∀ {as : List α} {vs : List V}, ImAll H vs (as.map f) → Paired (fun a v => Im H v (f a)) as vs
  | [], _, h => by rw [h.nil_inv]; exact .nil
  | a :: as, _, h => by
    obtain ⟨v, r, rfl, h1, h2⟩ := h.cons_inv
    exact .cons h1 (ImAll.paired h2)
end
/-! ### pairs of lists -/
theorem Paired.get_l {α β : Type} {F : α → β → Prop} : ∀ {l₁ : List α} {l₂ : List β} {i : Nat} {a : α}, Paired F l₁ l₂ → l₁[i]? = some a → ∃ b, l₂[i]? = some b ∧ F a b
  | _, _, _, _, .nil, e => by simp at e
  | _, _, 0, _, .cons h _, e => by simp at e; subst e; exact ⟨_, rfl, h⟩
  | _, _, i + 1, _, .cons _ t, e => by
    obtain ⟨d, h1, h2⟩ := Paired.get_l (i := i) t (by simpa using e)
    exact ⟨d, by simpa using h1, h2⟩
theorem Paired.get_r {α β : Type} {F : α → β → Prop} : ∀ {l₁ : List α} {l₂ : List β} {i : Nat} {b : β}, Paired F l₁ l₂ → l₂[i]? = some b → ∃ a, l₁[i]? = some a ∧ F a b
  | _, _, _, _, .nil, e => by simp at e
  | _, _, 0, _, .cons h _, e => by simp at e; subst e; exact ⟨_, rfl, h⟩
  | _, _, i + 1, _, .cons _ t, e => by
    obtain ⟨d, h1, h2⟩ := Paired.get_r (i := i) t (by simpa using e)
    exact ⟨d, by simpa using h1, h2⟩
theorem Paired.map_l {α β γ : Type} {F : γ → β → Prop} {f : α → γ} : ∀ {l₁ : List α} {l₂ : List β}, Paired (fun a b => F (f a) b) l₁ l₂ → Paired F (l₁.map f) l₂
  | _, _, .nil => .nil
  | _, _, .cons h t => .cons h (Paired.map_l t)
theorem Paired.eq_map {α β : Type} {f : α → β} : ∀ {l₁ : List α} {l₂ : List β}, Paired (fun a b => b = f a) l₁ l₂ → l₂ = l₁.map f
  | _, _, .nil => rfl
  | _, _, .cons h t => by rw [h, Paired.eq_map t]; rfl
/-! ### comprehensions -/
theorem filter_range_succ {n : Nat} {keep : Nat → Bool} : (List.range (n + 1)).filter keep = (List.range n).filter keep ++ (if keep n = true then [n] else []) := by
  rw [List.range_succ, List.filter_append]
  congr 1
  by_cases h : keep n = true
  · simp [h]
  · simp [h]
theorem filter_range_len {n : Nat} {keep : Nat → Bool} : ((List.range n).filter keep).length ≤ n :=
  Nat.le_trans (List.length_filter_le _ _) (by simp)
theorem lt_line {n : Nat} (h : n < 1000000) : n < sizeLine := Nat.lt_trans h (by decide)
theorem le_line {n : Nat} (h : n ≤ 1000000) : n ≤ sizeLine := Nat.le_trans h (by decide)
/-- a comprehension: all but S is kept, an invariant I by the turn, each new item told by R, turns dropped where keep says no -/
theorem lc_gen {J : It} {n : Nat} {G : Hp → Prop} {Y : Nat → Hp → V → Hp → Prop} (w : Walk J n G Y) {g : TG} {tt : TT} {te : TE} {vs : List Nat} {σ : L2.St} {H1 : Hp} {D : Addr} {Qd : Hp → Prop}
    (S : Addr → Prop) (I : Nat → Hp → Prop) (R : Nat → Hp → V → Prop) (keep : Nat → Bool) (hD : H1 D = none) (hDS : ¬ S D) (hn : n ≤ 1000000)
    (hI0 : I 0 (upd H1 D (.lst []))) (hI : ∀ i H acc acc', I i H → H D = some (.lst acc) → I i (upd H D (.lst acc')))
    (hR : ∀ j H H' v, R j H v → Kp (fun b => S b ∨ b = D) H H' → R j H' v)
    (hG : ∀ i H, i ≤ n → Kp S H1 H → I i H → G H)
    (hs : ∀ i x H H', i < n → Kp S H1 H → I i H → Y i H x H' → ∀ (Post : V → Hp → Prop) (Skip : Hp → Prop), (keep i = true → ∀ y H4, Kp S H H4 → I (i + 1) H4 → R i H4 y → Post y H4) → (keep i = false → ∀ H4, Kp S H H4 → I (i + 1) H4 → Skip H4) →
      g x (wipe σ vs) H' fun σ2 H2 => wipe σ2 vs = wipe σ vs ∧ tt σ2 H2 fun b H3 => if b = true then te σ2 H3 Post else Skip H3)
    (hd : ∀ H acc, Kp S H1 H → I n H → H D = some (.lst acc) → Paired (fun j v => R j H v) ((List.range n).filter keep) acc → Qd H) :
    ∃ W : Nat → Nat → Hp → Prop, (∃ m, W 0 m (upd H1 D (.lst []))) ∧ ∀ i m H, W i m H →
      (J.stop i H ∧ Qd H) ∨ (J.go i H ∧ ∃ Nx : Hp → Prop, (∀ H', Nx H' → ∃ m', m' < m ∧ W (i + 1) m' H') ∧ ∀ x H', J.yld i H x H' → g x (wipe σ vs) H' fun σ2 H2 => wipe σ2 vs = wipe σ vs ∧ tt σ2 H2 fun b H3 =>
        if b = true then te σ2 H3 fun y H4 => ∃ acc, H4 D = some (.lst acc) ∧ acc.length < sizeLine ∧ Nx (upd H4 D (.lst (acc ++ [y]))) else Nx H3) := by
  refine lc_it w (fun i H => i ≤ n ∧ Kp S H1 H ∧ I i H ∧ ∃ acc, H D = some (.lst acc) ∧ Paired (fun j v => R j H v) ((List.range i).filter keep) acc)
    ⟨Nat.zero_le _, .new hD, hI0, [], upd_same, .nil⟩ (fun i H hi h => hG i H hi h.2.1 h.2.2.1) ?_ ?_
  · intro i x H H' hi ⟨_, k1, i1, acc, ha, hp⟩ hy
    refine hs i x H H' hi k1 i1 hy _ _ (fun hk y H4 k4 i4 r4 => ?_) (fun hk H4 k4 i4 => ?_)
    · have hl : acc.length ≤ i := by rw [← hp.length]; exact filter_range_len
      have hd4 := k4.get ha hDS
      have up : Kp (fun b => S b ∨ b = D) H4 (upd H4 D (.lst (acc ++ [y]))) := .set (.inr rfl) hd4 (fun _ z => by cases z) (fun _ z => by cases z)
      refine ⟨acc, hd4, lt_line (by omega), by omega, (k1.trans k4).mut hD, hI _ _ _ _ i4 hd4, acc ++ [y], upd_same, ?_⟩
      rw [filter_range_succ, if_pos hk]
      exact (Paired.mono (fun a b r => hR _ _ _ _ (hR _ _ _ _ r (k4.mono fun _ => .inl)) up) hp).snoc (hR _ _ _ _ r4 up)
    · refine ⟨by omega, k1.trans k4, i4, acc, k4.get ha hDS, ?_⟩
      rw [filter_range_succ, if_neg (by rw [hk]; exact Bool.false_ne_true), List.append_nil]
      exact Paired.mono (fun a b r => hR _ _ _ _ r (k4.mono fun _ => .inl)) hp
  · intro H ⟨_, k1, i1, acc, ha, hp⟩
    exact hd H acc k1 i1 ha hp
theorem filter_true {α : Type} (l : List α) : l.filter (fun _ => true) = l := List.filter_eq_self.mpr fun _ _ => rfl
/-- .. of elements that change nothing that stood, told by what tuples keep -/
theorem lc_pure {J : It} {n : Nat} {G : Hp → Prop} {Y : Nat → Hp → V → Hp → Prop} (w : Walk J n G Y) {g : TG} {tt : TT} {te : TE} {vs : List Nat} {σ : L2.St} {H1 : Hp} {D : Addr} {Qd : Hp → Prop}
    (R : Nat → Hp → V → Prop) (keep : Nat → Bool) (hD : H1 D = none) (hn : n ≤ 1000000)
    (hR : ∀ j H H' v, R j H v → TK H H' → R j H' v)
    (hG : ∀ H, K0 H1 H → G H)
    (hs : ∀ i x H H', i < n → K0 H1 H → Y i H x H' → ∀ (Post : V → Hp → Prop) (Skip : Hp → Prop), (keep i = true → ∀ y H4, K0 H H4 → R i H4 y → Post y H4) → (keep i = false → ∀ H4, K0 H H4 → Skip H4) →
      g x (wipe σ vs) H' fun σ2 H2 => wipe σ2 vs = wipe σ vs ∧ tt σ2 H2 fun b H3 => if b = true then te σ2 H3 Post else Skip H3)
    (hd : ∀ H acc, K0 H1 H → H D = some (.lst acc) → Paired (fun j v => R j H v) ((List.range n).filter keep) acc → Qd H) :
    ∃ W : Nat → Nat → Hp → Prop, (∃ m, W 0 m (upd H1 D (.lst []))) ∧ ∀ i m H, W i m H →
      (J.stop i H ∧ Qd H) ∨ (J.go i H ∧ ∃ Nx : Hp → Prop, (∀ H', Nx H' → ∃ m', m' < m ∧ W (i + 1) m' H') ∧ ∀ x H', J.yld i H x H' → g x (wipe σ vs) H' fun σ2 H2 => wipe σ2 vs = wipe σ vs ∧ tt σ2 H2 fun b H3 =>
        if b = true then te σ2 H3 fun y H4 => ∃ acc, H4 D = some (.lst acc) ∧ acc.length < sizeLine ∧ Nx (upd H4 D (.lst (acc ++ [y]))) else Nx H3) :=
  lc_gen w (fun _ => False) (fun _ _ => True) R keep hD (fun z => z) hn trivial (fun _ _ _ _ _ _ => trivial) (fun j H H' v r k => hR j H H' v r k.tk) (fun i H _ k _ => hG H k)
    (fun i x H H' hi k _ y P S hP hS => hs i x H H' hi k y P S (fun e y' H4 k4 r => hP e y' H4 k4 trivial r) (fun e H4 k4 => hS e H4 k4 trivial)) (fun H acc k _ hD' hp => hd H acc k hD' hp)
theorem range_getElem? {n i : Nat} (h : i < n) : (List.range n)[i]? = some i := by simp [h]
/-- zip of two tuples -/
theorem walk_zipT {K : PySem.W.Frag} {a b : Addr} {xs ys : List V} {n : Nat} (hn : n = min xs.length ys.length) : Walk (RZ.ItzT K a b) n (fun H => SqT K H a xs ∧ SqT K H b ys) (YPair (fun i => xs[i]?) (fun i => ys[i]?)) := by
  subst hn
  refine ⟨fun i _ hi q => ?_, fun _ q => ⟨xs, ys, q.1, q.2, by omega⟩, fun i H v H' _ q y => ?_⟩
  · have h1 : i < xs.length := by omega
    have h2 : i < ys.length := by omega
    exact ⟨xs, ys, xs[i], ys[i], q.1, q.2, by simp [h1], by simp [h2]⟩
  · obtain ⟨T, x, z, h1, h2, h3, h4, h5⟩ := y
    exact ⟨T, x, z, h1, h2, h3, h4 xs q.1, h5 ys q.2⟩
/-! ### rules that the layer lacks -/
section
variable {X : Cx}
/-- sum of a tuple of ints -/
def rSumT (K : PySem.W.Frag) : List V → Hp → VK → Prop := fun vs H Q => ∃ (a : Addr) (ns : List Int), vs = [V.ref a] ∧ SqT K H a (ns.map V.int) ∧ Q (.int ns.sum) H
theorem cr_sumT (hc : X.calm = true) : CallR X (.builtin "sum") (rSumT X.K) := by
  intro pins s σ H vs us Q I r h
  obtain ⟨a, ns, rfl, hs, q⟩ := h
  obtain ⟨its, rv, hl, _⟩ := I.tuple hs
  rw [Vals.ref1 r]
  obtain ⟨xs, e⟩ := rv.ints.allInts.items
  have hn : numsOf (intItems xs).toList = ns := by rw [← e]; exact rv.ints.numsOf
  rw [nums_intItems] at hn
  rw [e] at hl
  refine PySem.W.ktm_sumG (I.ok.hd hc) hl fun h' tk t' hk => ⟨.int _, H, I.kept hk, ⟨_, rfl⟩, ?_⟩
  rw [preSum_eq, List.take_of_length_le (by simp), hn]
  exact q
/-- l[i] to be changed in place -/
def rGetL : V → V → Hp → VK → Prop := fun x y H Q => ∃ p xs i v, x = .ref p ∧ y = .int i ∧ H p = some (.lst xs) ∧ atI xs i = some v ∧ Q v H
theorem get_list : PGet X rGetL := by
  intro pins s σ H o i ov iv Q I ro ri h
  obtain ⟨p, xs, k, z, rfl, rfl, hp, he, q⟩ := h
  cases ro
  obtain ⟨t, rfl⟩ := ri
  obtain ⟨its, r, pl, hz⟩ := I.list (X := X) (SqL.of hp)
  obtain ⟨j, h1, h2, h3, h4, h5⟩ := atI_get he
  obtain ⟨w, ew, rw'⟩ := r.get h2
  have hl := r.length
  have hn := line63
  have fin : EP X pins σ Q w s := ⟨z, H, I, rw', q⟩
  by_cases h0 : 0 ≤ k
  · have hj : k.toNat = j := by
      rw [seqIndex_of h0 h5] at h1
      exact Option.some.inj h1
    exact wpAny_getItem_list pl.isList h0 (by omega) (by rw [hj]; simpa using ew) fin
  · have hj : (k + (its.toArray.size : Int)).toNat = j := by
      rw [seqIndex_neg (by omega) h4] at h1
      rw [List.size_toArray, ← hl]
      exact Option.some.inj h1
    exact wpAny_getItem_list_neg pl.isList (by omega) (by rw [List.size_toArray] <;> omega) (by omega) (by rw [hj]; simpa using ew) fin
end
end WS
set_option Elab.async false
set_option linter.all false
set_option maxRecDepth 100000
set_option maxHeartbeats 2000000
namespace WS
open PySem PySem.Spec PyProof.Rows L2
section
variable {X : Cx}
/-! ### d.update(e), both dicts -/
def rUpdD : V → List V → Hp → VK → Prop := fun x vs H Q => ∃ (a b : Addr) (kvs more : List (L2.Key × V)), x = .ref a ∧ vs = [.ref b] ∧ H a = some (.dK kvs) ∧ H b = some (.dK more) ∧ a ≠ b ∧ kvs.length + more.length ≤ sizeLine ∧ Q .non (upd H a (.dK (mergeK kvs more)))
theorem mt_updD : MtR X "dict.update" rUpdD := by
  intro pins s σ H x vs v us Q I rx rv h
  obtain ⟨a, b, kvs, more, rfl, rfl, ha, hb, ne, hl, q⟩ := h
  cases rx
  obtain ⟨u1, rfl, r1⟩ := vals1 rv
  cases r1
  obtain ⟨hz, hs, ws, kv, hd⟩ := I.hok a _ ha
  obtain ⟨hz2, hs2, ws2, kv2, hd2⟩ := I.hok b _ hb
  refine call_meetsIn PySem.F.slot_dict_update hd.typeIs PySem.F.entry_dict_update (PySem.F.args_dict_update_2 _ _) (meets_dict_update (mixKind X.prog X.w) a b ne hs2)
    ⟨ws, ws2, hd, hd2, by rw [← kv.length, ← kv2.length]; exact hl, fun h' hm _ sb => ?_⟩
  have hlen : (mergeK kvs more).length ≤ sizeLine := Nat.le_trans (length_mergeK more kvs) hl
  have new : ObjOk X.prog X.w (upd H a (.dK (mergeK kvs more))) h' a (.dK (mergeK kvs more)) := ⟨hlen, hs, _, KV.merge kv2 kv, hm⟩
  exact ⟨.non, _, I.write (e := a) (t' := s.toks) (by rw [ha]; trivial) (.inl rfl) (fun c u hc hu => (sb.2 c hc).trans hu) (let ⟨o, _, _, e, _⟩ := hm; ⟨o, e⟩) new, rfl, q⟩
/-! ### an empty tuple that is known to be no instance of a class of one's own: tuple([]), dict(that) -/
def ETup (l : Addr) : HO := .ext fun h => h.get? l = some { cls := .type "tuple", data := .seq #[] }
theorem call_tupleE : CallR X (.type "tuple") (fun xs H Q => ∃ p, xs = [.ref p] ∧ SqL X.K H p [] ∧ ∀ l, H l = none → Q (.ref l) (upd H l (ETup l))) := by
  intro pins s σ H xs us Q I r h
  obtain ⟨p, rfl, hq, q⟩ := h
  obtain ⟨u, rfl, rx⟩ := vals1 r
  cases rx
  obtain ⟨its, r', pl, hz⟩ := I.list hq
  cases r'
  refine call_tuple_list pl.isList (fun h' kp => ?_) (by simp [sizeLine_eq])
  have I1 : Inv X pins σ H { s with heap := h' } := I.kept (t' := s.toks) kp
  have e0 : (h'.push { cls := .type "tuple", data := .seq #[] }).get? h'.objs.size = some { cls := .type "tuple", data := .seq #[] } := Heap.get?_push_size _ rfl
  have I2 : Inv X pins σ (upd H h'.objs.size (ETup h'.objs.size)) { s with heap := h'.push { cls := .type "tuple", data := .seq #[] } } :=
    I1.laid (t' := s.toks) (fun b o e => Heap.get?_push_of_some _ e) (Nat.le_refl _) (show ObjOk X.prog X.w _ _ _ (ETup h'.objs.size) from ⟨e0, ⟨_, e0⟩, fun h1 h2 x k => k _ x⟩)
  exact ⟨.ref h'.objs.size, _, I2, rfl, q _ (I1.hok.fresh (Nat.le_refl _))⟩
def rDictE : List V → Hp → VK → Prop := fun vs H Q => ∃ (a : Addr), vs = [V.ref a] ∧ H a = some (ETup a) ∧ ∀ p, H p = none → Q (.ref p) (upd H p (.dK []))
theorem call_dictE (hc : X.calm = true) : CallR X (.type "dict") rDictE := by
  intro pins s σ H vs us Q I r h
  obtain ⟨a, rfl, hs, q⟩ := h
  rw [Vals.ref1 r]
  obtain ⟨ho, _, _⟩ := (show ObjOk X.prog X.w H s.heap a (ETup a) from I.hok a _ hs)
  refine PySem.call_dict_pairs (knd := mixKind X.prog X.w) (kvs := []) (PySem.PairArg.tuple a #[] (fun _ => 0) []) (I.ok.hd hc) ⟨⟨_, _, ho, rfl, rfl, rfl⟩, rfl, fun j k v e => by simp at e⟩ ⟨rfl, fun i k v e => by
    obtain ⟨_, e⟩ := e⟩ (Nat.zero_le _) fun h' tk hd k => ?_
  have hm : (s.heap.objs.size == sysModules) = false := beq_eq_false_iff_ne.mpr (Nat.ne_of_gt I.big)
  have new : ObjOk X.prog X.w (upd H s.heap.objs.size (.dK [])) h' s.heap.objs.size (.dK []) := ⟨Nat.zero_le _, hm, _, .nil, hd⟩
  exact ⟨.ref s.heap.objs.size, _, I.laid (t' := tk) (fun b o e => k b o (by simp) e) (Nat.le_refl _) new, rfl, q _ (I.hok.fresh (Nat.le_refl _))⟩
end
end WS
set_option Elab.async false
set_option linter.all false
set_option maxRecDepth 100000
set_option maxHeartbeats 2000000
namespace WS
open PySem PySem.Spec PyProof.Rows L2
/-! ### sorted(d.items()), texts to texts -/
def encPS (q : Str × Str) : PyData := .tuple [.str q.1, .str q.2]
def dkPS (ps : List (Str × Str)) : List (L2.Key × V) := ps.map fun q => (.inr q.1, .str q.2)
def sortPS (ps : List (Str × Str)) : List (Str × Str) := ps.mergeSort (PySem.W.dataLe false encPS)
def rSortItems : V → Hp → VK → Prop := fun x H Q => ∃ (d : Addr) (ps : List (Str × Str)), x = .ref d ∧ H d = some (.dK (dkPS ps)) ∧ ps.length ≤ 1000 ∧
  ∀ (H' : Hp) (p : Addr) (ts : List Addr), K0 H H' → H p = none → H' p = some (.lst (ts.map V.ref)) → Paired (fun (q : Str × Str) (t : Addr) => H' t = some (.tup [.str q.1, .str q.2])) (sortPS ps) ts → Q (.ref p) H'
def tSortItems (te : TE) : TE := fun σ H Q => te σ H fun x H1 => rSortItems x H1 Q
theorem eachIs_ix {α β : Type} {R : α → β → Prop} {as : List α} {bs : List β} (hl : as.length = bs.length) (h : ∀ (j : Nat) a b, as[j]? = some a → bs[j]? = some b → R a b) : PySem.W.EachIs R as bs :=
  .of_zip hl fun p hp => by
    obtain ⟨j, hj⟩ := List.mem_iff_getElem?.mp hp
    obtain ⟨h1, h2⟩ := List.getElem?_zip_eq_some.mp hj
    exact h j _ _ h1 h2
theorem eachIs_paired {α β : Type} {R : α → β → Prop} : ∀ {as : List α} {bs : List β}, PySem.W.EachIs R as bs → Paired (fun b a => R a b) bs as
  | _, _, .nil => .nil
  | _, _, .cons h t => .cons h (eachIs_paired t)
section
variable {X : Cx} {e : Expr} {te : TE} {p apos cpos pos : Pos}
theorem pe_sortItems (hc : X.calm = true) (hu : X.A.units + 64 < cLine) (he : PE X e te) (hg : Gl X "sorted") (hm : X.mg "sorted" = none) (hbase : attributeBase e "items" X.env (eval e X.env) = eval e X.env := by rfl) (hline : (apos.endLine == cpos.line) = true := by rfl)
    (hs : starEach [.Call (.Attribute e "items" apos) [] [] cpos] X.env = (false, eval (.Call (.Attribute e "items" apos) [] [] cpos) X.env) :: starEach [] X.env := by rfl) :
    PE X (.Call (.Name "sorted" p) [.Call (.Attribute e "items" apos) [] [] cpos] [] pos) (tSortItems te) := by
  refine ⟨fun pins s σ H Q I hq => ?_⟩
  refine wpAny_Call_Name_kw (ld_blt I hg hm (u := .builtin "sorted") (by decide +kernel) ?_)
  refine PyProof.Rows.callWith_builtin1 ?_ hs rfl
  rw [hs]
  show wpAny _ _ (spliced ((false, eval (.Call (.Attribute e "items" apos) [] [] cpos) X.env) :: backTo pos (starEach [] X.env))) _ _ s
  refine Calls.spliced_cons ?_
  refine wpAny_Call_method (T := "dict") (id := "dict.items") hbase rfl hline F.plainAttrs_dict F.slot_dict_items F.type_dict_items (thn (he.run pins s σ H _ I hq) fun u s1 ⟨x, H1, I1, rx, d, ps, ex, hd, hz, q⟩ => ?_)
  subst ex
  obtain rfl : u = Value.ref d := rx
  obtain ⟨_, hs0, vs, kv, hdo⟩ := I1.hok d _ hd
  have lk : (dkPS ps).length = vs.length := Paired.length kv
  have lk2 : ps.length = vs.length := by rw [← lk]; simp [dkPS]
  obtain ⟨od, es, ep, ho, hx, hdat, hko, hpr, hnd⟩ := id hdo
  have I2 : Inv X pins σ H1 { s1 with heap := s1.heap.push { cls := .type "dict_items", data := .fields #[.ref d] } } := I1.kept (t' := s1.toks) fun b ob q => Heap.get?_push_of_some _ q
  refine ⟨hdo.typeIs, hdo.mapOf.noDict, ?_⟩
  show wpAny _ _ (callWith cpos (.builtin "dict.items") [.ref d] [] []) _ X.xe s1
  refine method_meetsIn F.slot_dict_items F.entry_dict_items rfl (PySem.evalArgs_none ⟨rfl, hdo.typeIs, F.args_dict_items_1 _, _, meets_dict_items (mixKind X.prog X.w) d hs0, ⟨vs, hdo⟩, ?_⟩)
  refine Calls.spliced_nil ?_
  have hes : es.size = ps.length := by
    have := hpr.length
    simp at this
    omega
  have hh : X.A.handled = none := I1.ok.hd hc
  generalize hs2 : ({ s1 with heap := s1.heap.push { cls := .type "dict_items", data := .fields #[.ref d] } } : Shared) = s2 at I2 ⊢
  have view : s2.heap.IsItemsView s1.heap.objs.size d := by rw [← hs2]; exact ⟨_, Heap.get?_push_size _ rfl, rfl, rfl⟩
  have raw : DT.Raw s2.heap d es ep := by rw [← hs2]; exact ⟨od, Heap.get?_push_of_some _ ho, hx, hdat⟩
  refine DT.sortedI (es := es) (ep := ep) hh view raw (by rw [sizeLine_eq]; omega) fun h' tk as hk hlt hl hG => ?_
  have lak : as.length = ps.length := by omega
  have nd : as.Nodup := List.Pairwise.imp (fun h => Nat.ne_of_lt h) hG.rise
  -- the pairs that were made
  have pr : ∀ (j : Nat) (b : Addr), as[j]? = some b → ∃ (q : Str × Str) (t1 t2 : Tok), ps[j]? = some q ∧ h'.get? b = some { cls := .type "tuple", data := .seq #[Value.str q.1 t1, Value.str q.2 t2] } := by
    intro j b hj
    obtain ⟨en, he, hg⟩ := hG.pairs j b hj
    have hjl : j < ps.length := by
      have := (List.getElem?_eq_some_iff.mp hj).1
      omega
    have hpj : ps[j]? = some ps[j] := List.getElem?_eq_getElem hjl
    have hdj : (dkPS ps)[j]? = some (.inr ps[j].1, .str ps[j].2) := by unfold dkPS; rw [List.getElem?_map, hpj]; rfl
    obtain ⟨w, hw, e1, e2⟩ := WS.Paired.get_l kv hdj
    obtain ⟨wk, wv⟩ := w
    have e1 : (.inr ps[j].1 : L2.Key) = wk := e1
    subst e1
    obtain ⟨g1, g2⟩ := hpr.get? (i := j) (e := en) (k := .inr ps[j].1) (v := wv) (by simpa using he) hw
    obtain ⟨t2, e2⟩ := (show ∃ t, wv = Value.str ps[j].2 t from e2)
    obtain ⟨t1, e3⟩ := Value.isStrOf_shape (x := ps[j].1) (v := en.key) (show keyIs (.inr ps[j].1) en.key = true from g1)
    exact ⟨ps[j], t1, t2, hpj, by rw [hg, e3, g2, e2]⟩
  have hob : (h'.push { cls := .type "list", data := .seq (as.map Value.ref).toArray }).get? h'.objs.size = some (seqObj "list" (as.map Value.ref).toArray 0) := Heap.get?_push_size _ rfl
  have ne0 : ∀ b o, h'.get? b = some o → b ≠ h'.objs.size := fun b o e => Nat.ne_of_lt (Heap.lt_size e)
  have kb : ∀ b o, s2.heap.get? b = some o → (h'.push { cls := .type "list", data := .seq (as.map Value.ref).toArray }).get? b = some o := fun b o e => Heap.get?_push_of_some _ (hk b o e)
  have ka : ∀ b o, h'.get? b = some o → (h'.push { cls := .type "list", data := .seq (as.map Value.ref).toArray }).get? b = some o := fun b o e => Heap.get?_push_of_some _ e
  generalize h'.push { cls := .type "list", data := .seq (as.map Value.ref).toArray } = h2 at hob kb ka ⊢
  refine PySem.W.list_sort_data (s := { s2 with heap := h2, toks := tk }) (enc := encPS) (bs := ps) (vs := as.map Value.ref) (R := fun v q => ∃ j t, v = Value.ref t ∧ as[j]? = some t ∧ ps[j]? = some q) hob
    (eachIs_ix (by rw [List.length_map]; exact lak) fun j v q h1 h2 => by
      rw [List.getElem?_map] at h1
      obtain ⟨t, ht, rfl⟩ := Option.map_eq_some_iff.mp h1
      exact ⟨j, t, rfl, ht, h2⟩)
    (eachIs_ix (by rw [List.length_map]; exact lak) fun j v q h1 h2 => by
      rw [List.getElem?_map] at h1
      obtain ⟨t, ht, rfl⟩ := Option.map_eq_some_iff.mp h1
      obtain ⟨q', t1, t2, e1, e2⟩ := pr j t ht
      have : q' = q := Option.some.inj (e1.symm.trans h2)
      subst this
      exact ⟨[] ++ ([] ++ []), .tuple (ka _ _ e2) rfl rfl (.cons (.str _ _) (.cons (.str _ _) .nil)), by simp⟩)
    (PySem.W.AllAlike.of fun a b => by simp [encPS, PySem.W.alike, PySem.W.alikeAll]) (PySem.W.Sortable.tuples fun b => ⟨_, _, rfl⟩) (by rw [sizeLine_eq]; omega)
    (fun b _ => by
      have : (encPS b).depth = 1 := by simp [encPS, PyData.depth, PyData.depthAll]
      rw [this]
      show X.A.units + 1 + 1 + 1 < cLine
      omega) fun out ho' hout => ?_
  show EP X pins σ Q (.ref h'.objs.size) { s2 with heap := sortedHeap h2 h'.objs.size (as.map Value.ref) out.toArray, toks := tk }
  have kF : ∀ b o, b ≠ h'.objs.size → h2.get? b = some o → (sortedHeap h2 h'.objs.size (as.map Value.ref) out.toArray).get? b = some o := fun b o hb e => (PyProof.Rows.sortedHeap_old hb (Heap.lt_size e)).trans e
  have kS : ∀ b o, s2.heap.get? b = some o → (sortedHeap h2 h'.objs.size (as.map Value.ref) out.toArray).get? b = some o := fun b o e => kF b o (ne0 _ _ (hk b o e)) (kb b o e)
  obtain ⟨eF, heF⟩ := PyProof.Rows.sortedHeap_at (vs := as.map Value.ref) (out := out.toArray) hob
  have I3 : Inv X pins σ H1 { s2 with heap := sortedHeap h2 h'.objs.size (as.map Value.ref) out.toArray, toks := tk } := I2.kept (t' := tk) kS
  have hn0 : H1 h'.objs.size = none := I2.hok.fresh (Nat.le_of_lt hlt)
  have hpz : Paired (fun (q : Str × Str) v => ∃ j t, v = Value.ref t ∧ as[j]? = some t ∧ ps[j]? = some q) (sortPS ps) out := eachIs_paired hout
  obtain ⟨ts, hts, hpt⟩ : ∃ ts : List Addr, out = ts.map Value.ref ∧ Paired (fun (q : Str × Str) t => ∃ j : Nat, as[j]? = some t ∧ ps[j]? = some q) (sortPS ps) ts := by
    generalize sortPS ps = zs at hpz
    clear hout ho' heF kF kS I3
    induction hpz with
    | nil => exact ⟨[], rfl, .nil⟩
    | cons h t ih =>
      obtain ⟨ts, e, pp⟩ := ih
      obtain ⟨j, t, rfl, e1, e2⟩ := h
      exact ⟨t :: ts, by rw [e]; rfl, .cons ⟨j, e1, e2⟩ pp⟩
  have hlen : (ts.map V.ref).length ≤ sizeLine := by
    rw [List.length_map, ← hpt.length, sizeLine_eq]
    unfold sortPS
    rw [List.length_mergeSort]
    omega
  have I4 : Inv X pins σ (upd H1 h'.objs.size (.lst (ts.map V.ref))) { s2 with heap := sortedHeap h2 h'.objs.size (as.map Value.ref) out.toArray, toks := tk } :=
    I3.take (h' := sortedHeap h2 h'.objs.size (as.map Value.ref) out.toArray) (t' := tk) (fun b ob _ e => e) (I2.fpOk (Nat.le_of_lt hlt) hn0) ⟨hlen, out, eF, by rw [hts]; exact LiI.vals_refs ts, heF⟩
  obtain ⟨H2, I5, g, qt⟩ := DX.takeT (P := fun b vs => ∃ (j : Nat) (q : Str × Str), as[j]? = some b ∧ ps[j]? = some q ∧ vs = [.str q.1, .str q.2]) I2 as _ I4 nd fun b hb => by
    obtain ⟨j, hj⟩ := List.mem_iff_getElem?.mp hb
    obtain ⟨q, t1, t2, he, hg⟩ := pr j b hj
    have hbl : s2.heap.objs.size ≤ b := Nat.le_of_lt (hG.above b hb)
    refine ⟨hbl, ?_, [.str q.1, .str q.2], ⟨j, q, hj, he, rfl⟩, fun H3 => ⟨(by rw [sizeLine_eq]; show 2 ≤ 16777216; omega), [Value.str q.1 t1, Value.str q.2 t2], .cons ⟨_, rfl⟩ (.cons ⟨_, rfl⟩ .nil), ⟨_, kF _ _ (ne0 _ _ hg) (ka _ _ hg), rfl, 0, rfl⟩⟩⟩
    rw [upd_ne (ne0 _ _ hg)]
    exact I2.hok.fresh hbl
  have gr : ∀ b o, H1 b = some o → H2 b = some o := fun b o e => g b o (by rw [upd_ne (ne_of_none e hn0)]; exact e)
  have k0 : K0 H1 H2 := .same gr fun b hb => by
    cases z : H1 b with
    | none => rfl
    | some o => rw [gr b o z] at hb; cases hb
  refine ⟨.ref h'.objs.size, H2, I5, rfl, q H2 h'.objs.size ts k0 hn0 (g _ _ upd_same) (Paired.mono (fun q t h => ?_) hpt)⟩
  obtain ⟨j, e1, e2⟩ := h
  obtain ⟨vs, ⟨i, q', f1, f2, ev⟩, hH⟩ := qt t (List.mem_of_getElem? e1)
  have eij : j = i := (List.getElem?_inj (List.getElem?_eq_some_iff.mp e1).1 nd).mp (e1.trans f1.symm)
  subst eij
  have : q' = q := Option.some.inj (f2.symm.trans e2)
  subst this
  rw [hH, ev]
end
end WS
set_option Elab.async false
set_option linter.all false
set_option maxRecDepth 100000
set_option maxHeartbeats 2000000
namespace WS
open PySem PySem.Spec PyProof.Rows L2
/-! ### a dict whose keys are data: nested tuples -/
mutual
def toNK : PyData → NestedKey
  | .none => .none
  | .bool b => .num (if b = true then 1 else 0)
  | .int i => .num i
  | .str x => .text x
  | .list _ => .none
  | .tuple ds => .tup (toNKs ds)
  | .dict _ => .none
def toNKs : List PyData → List NestedKey
  | [] => []
  | d :: ds => toNK d :: toNKs ds
end
def NKO (P : Program) (w : World) (d : Addr) (ks : List (PyData × Addr × Int)) : HO := .ext fun h => (d == sysModules) = false ∧ ∃ ys : List (NestedKey × Addr × Value),
  Paired (fun k y => y.1 = toNK k.1 ∧ y.2.1 = k.2.1 ∧ RelV (.int k.2.2) y.2.2) ks ys ∧ ∃ o es ep, h.get? d = some o ∧ o.ExactDict ∧ o.data = .dict es ep ∧ es.toList = ys.map (entryOfKey (nestedKind P w)) ∧ (ys.map (·.1)).Nodup
def KeyOk (D : PyData) : Prop := (∃ ds, D = .tuple ds) ∧ (toNK D).depth ≤ 8
def lookK (ks : List (PyData × Addr × Int)) (D : PyData) : Option Int := (ks.find? fun k => decide (toNK k.1 = toNK D)).map (·.2.2)
structure SeenAt (P : Program) (w : World) (H : Hp) (d : Addr) (ks : List (PyData × Addr × Int)) : Prop where
  at_ : H d = some (NKO P w d ks)
  keys : ∀ k ∈ ks, Im H (.ref k.2.1) k.1 ∧ KeyOk k.1
theorem SeenAt.mono {P : Program} {w : World} {H H' : Hp} {d : Addr} {ks : List (PyData × Addr × Int)} (x : SeenAt P w H d ks) (t : TK H H') (e : H' d = some (NKO P w d ks)) : SeenAt P w H' d ks :=
  ⟨e, fun k hk => ⟨(x.keys k hk).1.mono t, (x.keys k hk).2⟩⟩
section
variable {X : Cx} {pins : List (Addr × Obj)} {σ : L2.St} {H : Hp} {s : Shared}
mutual
theorem Im.nested (I : Inv X pins σ H s) : ∀ (d : PyData) (v : V) (u : Value), Im H v d → RelV v u → NestedIs s.heap (toNK d) u
  | .none, _, _, h, r => by
    cases h; cases r
    rw [toNK]; exact .none
  | .bool b, _, _, h, r => by
    cases h; cases r
    rw [toNK]; exact .bool rfl
  | .int i, _, _, h, r => by
    cases h
    obtain ⟨t, rfl⟩ := r
    rw [toNK]; exact .int _ _
  | .str x, _, _, h, r => by
    cases h
    obtain ⟨t, rfl⟩ := r
    rw [toNK]; exact .text _ _
  | .list _, _, _, h, _ => by cases h
  | .dict _, _, _, h, _ => by cases h
  | .tuple ds, _, _, h, r => by
    cases h with
    | tup hs ha =>
      cases r
      obtain ⟨its, rv, ⟨o, ho, hc, n, hd⟩, _⟩ := I.tuple (X := X) (SqT.of hs)
      rw [toNK]
      exact .tup ho hc hd (Im.nestedAll I ds _ its ha rv)
theorem Im.nestedAll (I : Inv X pins σ H s) : ∀ (ds : List PyData) (vs : List V) (us : List Value), ImAll H vs ds → Vals vs us → NestedAll s.heap (toNKs ds) us
  | [], _, _, h, r => by
    cases h; cases r
    rw [toNKs]; exact .nil
  | d :: ds, _, _, h, r => by
    cases h with
    | cons h1 h2 =>
      cases r with
      | cons r1 r2 =>
        rw [toNKs]
        exact .cons (Im.nested I d _ _ h1 r1) (Im.nestedAll I ds _ _ h2 r2)
end
theorem SeenAt.dict (I : Inv X pins σ H s) {d : Addr} {ks : List (PyData × Addr × Int)} (x : SeenAt X.prog X.w H d ks) : (d == sysModules) = false ∧ ∃ ys : List (NestedKey × Addr × Value),
    Paired (fun k y => y.1 = toNK k.1 ∧ y.2.1 = k.2.1 ∧ RelV (.int k.2.2) y.2.2) ks ys ∧ s.heap.DictOfH (nestedKind X.prog X.w) d ys := by
  obtain ⟨⟨hd, ys, hp, o, es, ep, ho, hx, hdat, hes, hn⟩, _, _⟩ := (show ObjOk X.prog X.w H s.heap d (NKO X.prog X.w d ks) from I.hok d _ x.at_)
  refine ⟨hd, ys, hp, o, es, ep, ho, hx, hdat, hes, fun y hy => ?_, hn⟩
  obtain ⟨i, hi⟩ := List.mem_iff_getElem?.mp hy
  obtain ⟨k, hk, e1, e2, e3⟩ := WS.Paired.get_r hp hi
  obtain ⟨h1, h2⟩ := x.keys k (List.mem_of_getElem? hk)
  rw [e1, e2]
  exact ⟨Im.nested I k.1 _ _ h1 rfl, h2.2⟩
theorem look_at {ks : List (PyData × Addr × Int)} {ys : List (NestedKey × Addr × Value)} (hp : Paired (fun k y => y.1 = toNK k.1 ∧ y.2.1 = k.2.1 ∧ RelV (.int k.2.2) y.2.2) ks ys) (D : PyData) :
    (lookK ks D = none → atKey ys (toNK D) = none) ∧ ∀ i, lookK ks D = some i → ∃ a u, atKey ys (toNK D) = some (a, u) ∧ RelV (.int i) u := by
  induction hp with
  | nil => exact ⟨fun _ => rfl, fun i h => nomatch (show (none : Option Int) = some i from h)⟩
  | cons h t ih =>
    rename_i k y l1 l2
    obtain ⟨e1, e2, e3⟩ := h
    by_cases hk : toNK k.1 = toNK D
    · have a1 : lookK (k :: l1) D = some k.2.2 := by unfold lookK; rw [List.find?_cons_of_pos (by simp [hk])]; rfl
      have a2 : atKey (y :: l2) (toNK D) = some y.2 := by unfold atKey; rw [List.find?_cons_of_pos (by simp [e1, hk])]; rfl
      rw [a1, a2]
      refine ⟨(fun h => by cases h), ?_⟩
      intro i h
      cases h
      exact ⟨_, _, rfl, e3⟩
    · have a1 : lookK (k :: l1) D = lookK l1 D := by unfold lookK; rw [List.find?_cons_of_neg (by simp [hk])]
      have a2 : atKey (y :: l2) (toNK D) = atKey l2 (toNK D) := by unfold atKey; rw [List.find?_cons_of_neg (by simp [e1, hk])]
      rw [a1, a2]
      exact ih
end
section
variable {X : Cx}
/-- {} for such a dict -/
def tNewNK (P : Program) (w : World) : TE := fun _ H Q => ∀ p, H p = none → Q (.ref p) (upd H p (NKO P w p []))
theorem pe_dnewNK {pos : Pos} : PE X (.Dict [] [] pos) (tNewNK X.prog X.w) := ⟨fun pins s σ H Q I h => by
  have e0 : (s.heap.push { cls := .type "dict", data := .dict #[] }).get? s.heap.objs.size = some { cls := .type "dict", data := .dict #[] } := Heap.get?_push_size _ rfl
  have hm : (s.heap.objs.size == sysModules) = false := beq_eq_false_iff_ne.mpr (Nat.ne_of_gt I.big)
  have new : ObjOk X.prog X.w (upd H s.heap.objs.size (NKO X.prog X.w s.heap.objs.size [])) (s.heap.push { cls := .type "dict", data := .dict #[] }) s.heap.objs.size (NKO X.prog X.w s.heap.objs.size []) :=
    ⟨⟨hm, [], .nil, _, #[], 0, e0, ⟨rfl, rfl, rfl⟩, rfl, rfl, List.nodup_nil⟩, ⟨_, e0⟩, fun h1 h2 ⟨a, ys, b, o, es, ep, c, r⟩ k => ⟨a, ys, b, o, es, ep, k _ c, r⟩⟩
  exact wpAny_Dict_empty ⟨.ref s.heap.objs.size, _, I.laid (a := s.heap.objs.size) (t' := s.toks) (fun _ _ q => Heap.get?_push_of_some _ q) (Nat.le_refl _) new, rfl, h _ (I.hok.fresh (Nat.le_refl _))⟩⟩
def rInNK (P : Program) (w : World) : R2 := fun x y H Q => ∃ (a d : Addr) (D : PyData) (ks : List (PyData × Addr × Int)), x = .ref a ∧ y = .ref d ∧ SeenAt P w H d ks ∧ Im H (.ref a) D ∧ KeyOk D ∧ Q (.bl (lookK ks D).isSome) H
theorem op_inNK (hu : X.A.units + 64 < cLine) : OpR X (compareOp .In) (rInNK X.prog X.w) := by
  intro pins s σ H x y v u Q I rx ry h
  obtain ⟨a, d, D, ks, rfl, rfl, hs, hD, hok, q⟩ := h
  cases rx
  cases ry
  obtain ⟨hd, ys, hp, hm⟩ := hs.dict I
  refine wpAny_in_heap (knd := nestedKind X.prog X.w) (k := toNK D) (by show X.A.units + 1 + 8 < cLine; omega) ⟨Im.nested I D _ _ hD rfl, hok.2⟩ hd hm ⟨.bl (lookK ks D).isSome, H, I.tok _, ?_, q⟩
  obtain ⟨l1, l2⟩ := look_at hp D
  cases e : lookK ks D with
  | none => rw [l1 e]; rfl
  | some i =>
    obtain ⟨b, u, e2, _⟩ := l2 i e
    rw [e2]; rfl
def rGetNK (P : Program) (w : World) : R2 := fun x y H Q => ∃ (d a : Addr) (D : PyData) (ks : List (PyData × Addr × Int)) (i : Int), x = .ref d ∧ y = .ref a ∧ SeenAt P w H d ks ∧ Im H (.ref a) D ∧ KeyOk D ∧ lookK ks D = some i ∧ Q (.int i) H
theorem ix_NK (hu : X.A.units + 64 < cLine) : IxR X (rGetNK X.prog X.w) := by
  intro value slice pins s σ H x y v u Q I rx ry h hs'
  obtain ⟨d, a, D, ks, i, rfl, rfl, hs, hD, hok, hl, q⟩ := h
  cases rx
  cases ry
  obtain ⟨hd, ys, hp, hm⟩ := hs.dict I
  obtain ⟨b, u, e2, r⟩ := (look_at hp D).2 i hl
  refine tail_any hm.typeIs F.slot_dict_getitem.lookup (wpAny_getItem_heap (knd := nestedKind X.prog X.w) (k := toNK D) (by show X.A.units + 1 + 8 < cLine; omega) ⟨Im.nested I D _ _ hD rfl, hok.2⟩ hm e2 ⟨.int i, H, I.tok _, r, q⟩) hs'
def rSetNK (P : Program) (w : World) : TSet := fun o i v H Q => ∃ (d a : Addr) (D : PyData) (ks : List (PyData × Addr × Int)) (n : Int), o = .ref d ∧ i = .ref a ∧ v = .int n ∧ SeenAt P w H d ks ∧ Im H (.ref a) D ∧ KeyOk D ∧ lookK ks D = none ∧ ks.length ≤ 1000 ∧
  Q (upd H d (NKO P w d (ks ++ [(D, a, n)])))
theorem set_NK (hu : X.A.units + 64 < cLine) : PSet X (rSetNK X.prog X.w) := by
  intro pins s σ H o i v ov iv u Q I ro ri rv h
  obtain ⟨d, a, D, ks, n, rfl, rfl, rfl, hs, hD, hok, hl, hz, q⟩ := h
  cases ro
  cases ri
  obtain ⟨hd, ys, hp, hm⟩ := hs.dict I
  have en := (look_at hp D).1 hl
  refine wpAny_setItem_heap (knd := nestedKind X.prog X.w) (k := toNK D) (hsz := by rw [← hp.length, sizeLine_eq]; omega) (by show X.A.units + 1 + 8 < cLine; omega) ⟨Im.nested I D _ _ hD rfl, hok.2⟩ hm fun h' hm' sb => ?_
  rw [storedH_new en] at hm'
  obtain ⟨o, es, ep, ho, hx, hdat, hes, hk, hn⟩ := hm'
  have new : ObjOk X.prog X.w (upd H d (NKO X.prog X.w d (ks ++ [(D, a, n)]))) h' d (NKO X.prog X.w d (ks ++ [(D, a, n)])) :=
    ⟨⟨hd, _, Paired.snoc hp ⟨rfl, rfl, rv⟩, o, es, ep, ho, hx, hdat, hes, hn⟩, ⟨o, ho⟩, fun h1 h2 ⟨a, ys, b, o, es, ep, c, r⟩ k => ⟨a, ys, b, o, es, ep, k _ c, r⟩⟩
  exact ⟨_, I.write (e := d) (by rw [hs.at_]; trivial) (.inl rfl) (fun c u hc hu => (sb.2 c hc).trans hu) ⟨o, ho⟩ new, q⟩
end
end WS
set_option Elab.async false
set_option linter.all false
set_option maxRecDepth 100000
set_option maxHeartbeats 2000000
namespace WS
open PySem PySem.Spec PyProof.Rows L2 LamX
/-! ### what is kept, tables of code objects left out -/
structure KpN (S : Addr → Prop) (H H' : Hp) : Prop where
  k : ∀ b o, H b = some o → (S b → ∃ xs, o = .tup xs) → (∀ ps, o ≠ .tbl ps) → H' b = some o
  fr : ∀ b, NT (H' b) → NT (H b)
section
variable {S T : Addr → Prop} {H H1 H2 H' : Hp} {p b : Addr} {o o' : HO}
theorem Kp.n (a : Kp S H H') : KpN S H H' := ⟨fun b o e q _ => a.k b o e q, fun b e => by
  rcases e with e | ⟨ps, e⟩
  · exact .inl (a.fr b e)
  · exact a.tb b ps e⟩
theorem KpN.refl (H : Hp) : KpN S H H := (Kp.refl H).n
theorem KpN.trans (a : KpN S H H1) (b : KpN S H1 H2) : KpN S H H2 := ⟨fun c o h q n => b.k c o (a.k c o h q n) q n, fun c h => a.fr c (b.fr c h)⟩
theorem KpN.tk (h : KpN S H H') : TK H H' := fun b xs e => h.k b _ e (fun _ => ⟨xs, rfl⟩) (fun _ z => by cases z)
theorem KpN.get (a : KpN S H H') (e : H b = some o) (n : ¬ S b) (t : ∀ ps, o ≠ .tbl ps) : H' b = some o := a.k b o e (fun s => absurd s n) t
theorem KpN.mono (a : KpN S H H') (h : ∀ b, S b → T b) : KpN T H H' := ⟨fun c o e q => a.k c o e fun s => q (h c s), a.fr⟩
theorem KpN.of_ext (a : ExtN H H') : KpN S H H' := ⟨fun b o e _ n => a b o e n, fun b e => by
  cases z : H b with
  | none => exact .inl rfl
  | some o =>
    by_cases ht : ∃ ps, o = .tbl ps
    · obtain ⟨ps, rfl⟩ := ht
      exact .inr ⟨ps, rfl⟩
    · have := a b o z fun ps q => ht ⟨ps, q⟩
      rw [this] at e
      rcases e with e | ⟨ps, e⟩
      · cases e
      · exact absurd ⟨ps, Option.some.inj e⟩ ht⟩
/-- an object that did not stand at first may change -/
theorem KpN.mut (a : KpN S H H1) (h : NT (H p)) : KpN S H (upd H1 p o) := ⟨fun c u e q n => by
  rw [upd_ne (fun z => by
    rw [z] at e
    rcases h with h | ⟨ps, h⟩
    · rw [h] at e; cases e
    · rw [h] at e; exact n ps (Option.some.inj e).symm)]
  exact a.k c u e q n, fun c e => by
  by_cases hc : c = p
  · rw [hc]; exact h
  · rw [upd_ne hc] at e; exact a.fr c e⟩
theorem KpN.new_nt (a : KpN S H H1) (h : H1 p = none) : NT (H p) := a.fr p (.inl h)
theorem KpN.then_new (a : KpN S H H1) (h : H1 p = none) : KpN S H (upd H1 p o) := a.mut (a.new_nt h)
end
/-! ### a lambda made; sorted of an empty tuple by it -/
theorem tabs1 {H : Hp} {P : Addr} {q : Str} : Tabs [(P, q)] H ↔ TabS H P q := ⟨fun h => h (P, q) (List.mem_cons_self ..), fun h p hp => by
  rcases List.mem_cons.mp hp with rfl | hp
  · exact h
  · cases hp⟩
theorem TabS.kp {S : Addr → Prop} {H H' : Hp} {P : Addr} {q : Str} (t : TabS H P q) (k : Kp S H H') (hS : ∀ b o, H b = some o → S b → (∀ ps, o ≠ .tbl ps) ∧ ∀ φ, o ≠ .ext φ) : TabS H' P q := by
  obtain ⟨ps, h1, h2, h3⟩ := t
  refine ⟨ps, k.get h1 (fun z => (hS _ _ h1 z).1 ps rfl), h2, fun pos cv hc => ?_⟩
  obtain ⟨c, e1, e2⟩ := h3 pos cv hc
  exact ⟨c, e1, k.get e2 (fun z => (hS _ _ e2 z).2 _ rfl)⟩
def tLamV (P : Addr) (q : Str) : TE := fun _ H Q => TabS H P q ∧ ∀ (f : Addr) (H1 : Hp), ExtN H H1 → TabS H1 P q → Q (.ref f) H1
section
variable {X : Cx}
theorem pe_lambda {c P : Addr} {params : Arguments} {body : Expr} {scope : Scope} {pos : Pos} (TB : TabB X.base X.mg c P) (hcode : X.env.code = .ref c) (L : ∀ y ∈ scope.names, y.2 ≠ .free) (hdef : defaultsOf params X.env = ([], []) := by rfl) :
    PE X (.Lambda params body scope pos) (tLamV P (X.env.qual ++ "<lambda>")) := by
  refine ⟨fun pins s σ H Q I h => ?_⟩
  obtain ⟨hT, h⟩ := h
  refine lam_make2 (T := [(P, X.env.qual ++ "<lambda>")]) I TB hcode (List.mem_cons_self ..) (fun p hp _ => by
    rcases List.mem_cons.mp hp with rfl | hp
    · rfl
    · cases hp) (tabs1.mpr hT) hdef (fun y hy e => absurd e (L y hy)) fun f c' pm ctv H1 s' I1 eN T1 hf hfn hfr hco => ?_
  exact ⟨.ref f, H1, I1, rfl, h f H1 eN (tabs1.mp T1)⟩
def rSortE (K : PySem.W.Frag) : List V → List V → Hp → VK → Prop := fun vs zs H Q => ∃ (a f : Addr), vs = [V.ref a] ∧ zs = [.ref f] ∧ SqT K H a [] ∧ ∀ (p : Addr), H p = none → Q (.ref p) (upd H p (.lst []))
theorem cr_sortE (hu : X.A.units + 64 < cLine) : CallRK X (.builtin "sorted") [Str.ofString "key"] (rSortE X.K) := by
  intro pins s σ H vs zs us ws Q I r rz h
  obtain ⟨a, f, rfl, rfl, hs, q⟩ := h
  obtain rfl := Vals.ref1 r
  obtain ⟨w1, rfl, e1⟩ := vals1 rz
  obtain rfl : w1 = Value.ref f := e1
  obtain ⟨its, rv, ⟨o, ho, hc, n, hd⟩, hz⟩ := I.tuple hs
  cases rv
  refine call_function_entry_kw kind_sorted plain_sorted entry_sorted (PyProof.Rows.ksk_s1 _ _) ?_
  unfold Builtin.«sorted»
  refine wpAny_bind (m := checkCount "sorted" 1 1 _) (wpAny_pure ?_)
  refine wpAny_bind (wpAny_collect_seq a (T := "tuple") (.inr rfl) ho hc hd (fun h' hk => ?_) (Nat.zero_le _))
  refine wpAny_bind (wpAny_newList ?_ (Nat.zero_le _))
  have hob : (h'.push { cls := .type "list", data := .seq ([] : List Value).toArray }).get? h'.objs.size = some (seqObj "list" ([] : List Value).toArray 0) := Heap.get?_push_size _ rfl
  have kb : ∀ b o, s.heap.get? b = some o → (h'.push { cls := .type "list", data := .seq ([] : List Value).toArray }).get? b = some o := fun b o e => Heap.get?_push_of_some _ (hk b o e)
  have I1 : Inv X pins σ H { s with heap := h' } := I.kept (t' := s.toks) hk
  have ne0 : ∀ b o, h'.get? b = some o → b ≠ h'.objs.size := fun b o e => Nat.ne_of_lt (Heap.lt_size e)
  refine wpAny_bind (wpAny_holding (wpAny_call_entry_kw slot_list_sort ⟨_, hob, rfl⟩ entry_list_sort ?_ (PyProof.Rows.ksk_l1 _ _)))
  show wpAny (model X.prog X.w) X.A.in1.in1 (Builtin.«list.sort» ⟨[.ref h'.objs.size], [(Str.ofString "key", .ref f)]⟩) _ _ _
  rw [PyProof.Rows.ksk_t1]
  refine PySem.W.keyH_tree (kz := []) (vs := []) (b := false) (s := { s with heap := h'.push { cls := .type "list", data := .seq ([] : List Value).toArray } }) hob rfl (Nat.zero_le _) (fun _ h => by cases h) (.inl fun _ h => by cases h) (fun _ h => by cases h) (fun i v k h => by simp at h) fun h2 tk out c kp hD ko => ⟨_, rfl, ?_⟩
  have hl := ko.length rfl
  have ho0 : out = [] := List.length_eq_zero_iff.mp hl
  subst ho0
  have new : ObjOk X.prog X.w (upd H h'.objs.size (.lst [])) h2 h'.objs.size (.lst []) := ⟨Nat.zero_le _, [], c, .nil, hD⟩
  exact wpAny_pure ⟨_, rfl, .ref h'.objs.size, _, I1.laid (t' := tk) (fun b o e => kp b o (ne0 b o e) (Heap.get?_push_of_some _ e)) (Nat.le_refl _) new, rfl, q _ (I1.hok.fresh (Nat.le_refl _))⟩
end
end WS
set_option Elab.async false
set_option linter.all false
set_option maxRecDepth 100000
set_option maxHeartbeats 2000000
namespace WS
open PySem PySem.Spec PyProof.Rows L2
/-! ### how the defs stand behind the top -/
def HasDef (K : PySem.W.Frag) (mg : Str → Option Value) (x : Str) (st : Stmt) (ps : List Str) : Prop := ∃ (f : Addr) (fd : FuncData), C8.Def K mg x st f fd ∧ L2.Binds K fd ps []
def HasMeth (K : PySem.W.Frag) (C : Addr) (m qual : Str) (st : Stmt) (ps : List Str) : Prop := Cls K C ∧ ∃ (f : Addr) (fd : FuncData), Meth K C m f ∧ C8.Fun K m qual st f fd ∧ L2.Binds K fd ps []
def HasInit (K : PySem.W.Frag) (mg : Str → Option Value) (x : Str) (C : Addr) (qual : Str) (st : Stmt) (ps : List Str) : Prop := mg x = some (.ref C) ∧ ∃ (f : Addr) (fd : FuncData), Mk K C f ∧ C8.Fun K "__init__" qual st f fd ∧ L2.Binds K fd ps []
section
variable {P : Program} {w : World} {K : PySem.W.Frag} {mg : Str → Option Value} {base : Heap}
theorem mkCal {x : Str} {st : Stmt} {N ps : List Str} {k : Nat} {sp : Sp} (h : HasDef K mg x st ps) (S : FnScope N ps (C8.fnScope st)) (len : ∀ vs H Q E, sp vs H Q E → vs.length = ps.length)
    (hbody : ∀ (f : Addr) (cdv : Value) (A : Around) (outer : List Env) (s : Shared) (H : Hp) (vs : List V) (Q : VK) (E : XK), Room k (A.deeper (envOfC x (C8.fnScope st) s.heap.objs.size f cdv)) → sp vs H Q E →
      ∃ t, PSs (cxOf C8.CX0 P w K mg base N x (C8.fnScope st) f cdv A outer s H E).nox (C8.fnBody st) t ∧ t { nx := fun _ H' => Q .non H', rt := Q } (start N vs) H) : C8.Cal P w K mg base (k + 1) x sp [] := by
  obtain ⟨f, fd, F, b⟩ := h
  exact C8.cal0 F b .nil S len (hbody f)
theorem mkMet {m qual : Str} {C : Addr} {st : Stmt} {N ps : List Str} {k : Nat} {sp : Sp} (h : HasMeth K C m qual st ps) (S : FnScope N ps (C8.fnScope st)) (len : ∀ vs H Q E, sp vs H Q E → vs.length = ps.length)
    (hbody : ∀ (f : Addr) (cdv : Value) (A : Around) (outer : List Env) (s : Shared) (H : Hp) (vs : List V) (Q : VK) (E : XK), Room k (A.deeper (envOfC qual (C8.fnScope st) s.heap.objs.size f cdv)) → sp vs H Q E →
      ∃ t, PSs (cxOf C8.CX0 P w K mg base N qual (C8.fnScope st) f cdv A outer s H E).nox (C8.fnBody st) t ∧ t { nx := fun _ H' => Q .non H', rt := Q } (start N vs) H) : C8.Met P w K mg base (k + 1) C m sp [] := by
  obtain ⟨c, f, fd, M, F, b⟩ := h
  exact C8.met0 c M F b S len (hbody f)
theorem mkMak {x qual : Str} {C : Addr} {st : Stmt} {N ps : List Str} {k : Nat} {sp : Sp} (h : HasInit K mg x C qual st ps) (S : FnScope N ps (C8.fnScope st)) (len : ∀ vs H Q E, sp vs H Q E → vs.length = ps.length)
    (hbody : ∀ (f : Addr) (cdv : Value) (A : Around) (outer : List Env) (s : Shared) (H : Hp) (vs : List V) (Q : VK) (E : XK), Room k (A.deeper (envOfC qual (C8.fnScope st) s.heap.objs.size f cdv)) → sp vs H Q E →
      ∃ t, PSs (cxOf C8.CX0 P w K mg base N qual (C8.fnScope st) f cdv A outer s H E).nox (C8.fnBody st) t ∧ t { nx := fun _ H' => Q .non H', rt := Q } (start N vs) H) : C8.Mak P w K mg base (k + 1) x C sp [] := by
  obtain ⟨hm, f, fd, M, F, b⟩ := h
  exact C8.mak0 M hm F b .nil S len (hbody f)
end
def Con (mg : Str → Option Value) (x : Str) (v : V) : Prop := ∃ u, mg x = some u ∧ RelV v u
/-- the module's names, the classes at CM, CH, CV, the tuple of prices at LP -/
structure Txt (K : PySem.W.Frag) (mg : Str → Option Value) (CM CH CV LP : Addr) : Prop where
  m_len : mg "len" = none
  m_sum : mg "sum" = none
  m_divmod : mg "divmod" = none
  m_range : mg "range" = none
  m_tuple : mg "tuple" = none
  m_list : mg "list" = none
  m_max : mg "max" = none
  m_min : mg "min" = none
  m_int : mg "int" = none
  m_enumerate : mg "enumerate" = none
  m_zip : mg "zip" = none
  m_sorted : mg "sorted" = none
  m_dict : mg "dict" = none
  m_isinstance : mg "isinstance" = none
  m_bool : mg "bool" = none
  c_FAR : Con mg "FAR" (.int 1000000000000)
  c_MOVED_PRICE : Con mg "MOVED_PRICE" (.int 100)
  c_LACK_PRICES : Con mg "LACK_PRICES" (.ref LP)
  lp : ∀ H, SqT K H LP [.int 10000, .int 1000000, .int 100000000]
  clM : Cls K CM
  clH : Cls K CH
  clV : Cls K CV
  nM : ∀ f ∈ (["wanted", "bounty", "costs", "spots", "named"] : List Str), NoAttr K CM f
  nH : ∀ f ∈ (["sections", "hands_by", "billed", "words_kept", "ill", "wanted", "words_up"] : List Str), NoAttr K CH f
  nV : ∀ f ∈ (["ship_here", "coming", "holding", "bell_now", "station_by", "was_at", "told_now"] : List Str), NoAttr K CV f
/-! ### the rules with K as a letter (within a comprehension's block its own K is not seen through) -/
section
variable {X : Cx} {K : PySem.W.Frag}
theorem ix_tupK (h : X.K = K) : IxR X (rIxT K) := h ▸ ix_tup
theorem ix_listK (h : X.K = K) : IxR X (rIxL K) := h ▸ ix_list
theorem ix_seqK (h : X.K = K) : IxR X (rIx K) := h ▸ ix_seq
theorem pe_fldK {e : Expr} {te : TE} {f : Str} {pos : Pos} (h : X.K = K) (he : PE X e te) (hb : attributeBase e f X.env (eval e X.env) = eval e X.env) : PE X (.Attribute e f pos) (tFld K te f) := h ▸ pe_fld he hb
def rLenK (K : PySem.W.Frag) : List V → Hp → VK → Prop := fun xs H Q => ∃ p ys, xs = [.ref p] ∧ (SqL K H p ys ∨ SqT K H p ys) ∧ Q (.int ys.length) H
theorem call_lenK (h : X.K = K) : CallR X (.builtin "len") (rLenK K) := h ▸ call_len_seq
theorem op_inK (h : X.K = K) : OpR X (compareOp .In) (rIn K false) := h ▸ op_in_seq
theorem op_notInK (h : X.K = K) : OpR X (compareOp .NotIn) (rIn K true) := h ▸ op_notIn_seq
def rTupK (K : PySem.W.Frag) : List V → Hp → VK → Prop := fun xs H Q => ∃ p ys, xs = [.ref p] ∧ ((SqL K H p ys ∧ ∀ l, H l = none → Q (.ref l) (upd H l (.tup ys))) ∨ (SqT K H p ys ∧ Q (.ref p) H))
theorem call_tupK (h : X.K = K) : CallR X (.type "tuple") (rTupK K) := h ▸ call_tuple_of
def rLstK (K : PySem.W.Frag) : List V → Hp → VK → Prop := fun xs H Q => ∃ p ys, xs = [.ref p] ∧ (SqL K H p ys ∨ SqT K H p ys) ∧ ∀ l, H l = none → Q (.ref l) (upd H l (.lst ys))
theorem call_lstK (h : X.K = K) : CallR X (.type "list") (rLstK K) := h ▸ call_list_of
theorem op_catK (h : X.K = K) : OpR X (binaryOp .Add) (rCatA K) := h ▸ op_catA
theorem sl_tupK (h : X.K = K) : SlR X (rSlA K) := h ▸ sl_tupA
theorem sl_listK (h : X.K = K) : SlR X (rSlL K) := h ▸ sl_list
end
theorem hu64_of {A : Around} {k : Nat} (hr : Room k A) : A.units + 64 < cLine := hr.units
def locC (sc : Scope) (x : Str) : Bool := match sc.names.lookup x with
  | some .local => true
  | some .cell => true
  | _ => false
theorem loc_by {sc : Scope} {x : Str} (h : locC sc x = true) : L2.Loc sc x := by
  unfold locC at h
  unfold L2.Loc
  split at h
  · rename_i e; exact .inl e
  · rename_i e; exact .inr e
  · cases h
theorem if_true_of {c : Bool} {A B : Prop} (hc : c = true) (h : A) : if c = true then A else B := by
  rw [if_pos hc]
  exact h
theorem if_false_of {c : Bool} {A B : Prop} (hc : c = false) (h : B) : if c = true then A else B := by
  rw [hc, if_neg Bool.false_ne_true]
  exact h
theorem dne {x y : Int} (h : x ≠ y) : (!decide (V.int x = V.int y)) = true := by simp [h]
theorem dne' {x y : Int} (h : x = y) : (!decide (V.int x = V.int y)) = false := by simp [h]
theorem deq {x y : Int} (h : x = y) : decide (V.int x = V.int y) = true := by simp [h]
theorem deq' {x y : Int} (h : x ≠ y) : decide (V.int x = V.int y) = false := by simp [h]
theorem upd_self {H : Hp} {p : Addr} {o : HO} (h : H p = some o) : upd H p o = H := by
  funext b
  unfold upd
  split
  · rename_i e; rw [e, h]
  · rfl
theorem tk_new {H : Hp} {p : Addr} {o : HO} (h : H p = none) : TK H (upd H p o) := (Kp.new (S := fun _ => False) h).tk
theorem tk_set {H : Hp} {p : Addr} {o o' : HO} (h : H p = some o) (nt : ∀ xs, o ≠ .tup xs) : TK H (upd H p o') := fun b xs e => by
  rw [upd_ne (fun z => by rw [z, h] at e; exact nt xs (Option.some.inj e))]; exact e
theorem same_k0 {H H' : Hp} (k : K0 H H') : Same H H' := k.to_same
def vN (l : List Nat) : List V := l.map fun i => V.int (i : Nat)
def dN (l : List Nat) : PyData := .tuple (l.map fun i => .int (i : Nat))
theorem vN_len (l : List Nat) : (vN l).length = l.length := by simp [vN]
theorem vN_get {l : List Nat} {i : Nat} (h : i < l.length) : (vN l)[i]? = some (.int (l[i] : Nat)) := by simp [vN, h]
theorem vN_getD {l : List Nat} {i : Nat} (h : i < l.length) : (vN l)[i]? = some (.int (l.getD i 0 : Nat)) := by simp [vN, h]
theorem vN_at {l : List Nat} {i : Nat} {v : V} (h : (vN l)[i]? = some v) : ∃ hi : i < l.length, v = .int (l[i] : Nat) := by
  have hi : i < l.length := by
    have := (List.getElem?_eq_some_iff.mp h).1
    rw [vN_len] at this; exact this
  rw [vN_get hi] at h
  exact ⟨hi, (Option.some.inj h).symm⟩
theorem im_dN {H : Hp} {v : V} {l : List Nat} : Im H v (dN l) ↔ ∃ a, v = .ref a ∧ H a = some (.tup (vN l)) := by
  constructor
  · intro h
    obtain ⟨a, xs, rfl, h1, h2⟩ := h.tup_inv
    have e : (l.map fun i => PyData.int (i : Nat)) = (l.map fun (i : Nat) => (i : Int)).map PyData.int := by rw [List.map_map]; rfl
    rw [e] at h2
    refine ⟨a, rfl, ?_⟩
    rw [h1, h2.ints, List.map_map]; rfl
  · rintro ⟨a, rfl, h⟩
    refine .tup h ?_
    have e : (l.map fun i => PyData.int (i : Nat)) = (l.map fun (i : Nat) => (i : Int)).map PyData.int := by rw [List.map_map]; rfl
    rw [e]
    have e2 : vN l = (l.map fun (i : Nat) => (i : Int)).map V.int := by unfold vN; rw [List.map_map]; rfl
    rw [e2]
    exact ImAll.of_ints _
/-! ### readings -/
end WS
set_option Elab.async false
set_option linter.all false
set_option maxRecDepth 100000
set_option maxHeartbeats 4000000
namespace WS
open PySem PySem.Spec PyProof.Rows L2
/-! ### days -/
def watchGo : List Int → Int → Nat × Int
  | [], l => (0, l)
  | d :: ds, l => if d ≤ l then ((watchGo ds (l - d)).1 + 1, (watchGo ds (l - d)).2) else (0, l)
def watchOf (ds : List Int) (n : Int) : Nat := (watchGo ds (n % ds.sum)).1
def leftOf (ds : List Int) (n : Int) : Int := (watchGo ds (n % ds.sum)).2
theorem sum_pos_of {ds : List Int} (h : ∀ d ∈ ds, 1 ≤ d) : 0 ≤ ds.sum := by
  induction ds with
  | nil => simp
  | cons d ds ih =>
    have := ih fun x hx => h x (List.mem_cons_of_mem _ hx)
    have := h d (List.mem_cons_self ..)
    rw [List.sum_cons]; omega
theorem watchGo_lt : ∀ (ds : List Int) (l : Int), 0 ≤ l → l < ds.sum → (watchGo ds l).1 < ds.length
  | [], l, h0, h => by simp at h; omega
  | d :: ds, l, h0, h => by
    rw [watchGo]
    split
    · rename_i hd
      have := watchGo_lt ds (l - d) (by omega) (by rw [List.sum_cons] at h; omega)
      simp; omega
    · simp
section
variable {P : Program} {w : World} {K : PySem.W.Frag} {mg : Str → Option Value} {base : Heap} {CM CH CV LP : Addr}
def spBellsIn : Sp := fun vs H Q _ => ∃ (a : Addr) (ds : List Int), vs = [.ref a] ∧ H a = some (.tup (ds.map V.int)) ∧ Q (.int ds.sum) H
abbrev n_bells_in : List Str := ["day"]
theorem sc_bells_in : FnScope n_bells_in ["day"] (C8.fnScope s_bells_in) := ⟨rfl, rfl, rfl, by decide +kernel, rfl, by decide +kernel, by decide +kernel⟩
theorem cal_bells_in (T : Txt K mg CM CH CV LP) (h : HasDef K mg "bells_in" s_bells_in ["day"]) : C8.Cal P w K mg base 1 "bells_in" spBellsIn [] := by
  refine mkCal h sc_bells_in (fun vs H Q E hh => ?_) (fun f cdv A outer s H vs Q E hr hh => ?_)
  · obtain ⟨a, ds, rfl, _⟩ := hh
    rfl
  · obtain ⟨a, ds, rfl, ha, q⟩ := hh
    refine ⟨_, (pss_one (ps_ret (pe_callB (cr_sumT rfl) (by rfl) T.m_sum (by decide +kernel) (pa_cons (pv 0) pa_nil)))), ?_⟩
    exact ⟨_, rfl, a, ds, rfl, .of ha, q⟩
def spWatchAt : Sp := fun vs H Q _ => ∃ (a : Addr) (ds : List Int) (n : Int), vs = [.ref a, .int n] ∧ H a = some (.tup (ds.map V.int)) ∧ (∀ d ∈ ds, 1 ≤ d) ∧ 0 < ds.sum ∧ ds.sum ≤ 1000 ∧
  ∀ (H' : Hp) (p : Addr), K0 H H' → H p = none → H' p = some (.tup [.int (n / ds.sum), .int (watchOf ds n : Nat), .int (leftOf ds n)]) → Q (.ref p) H'
abbrev n_watch_at : List Str := ["day", "bell", "number", "left", "watch"]
theorem sc_watch_at : FnScope n_watch_at ["day", "bell"] (C8.fnScope s_watch_at) := ⟨rfl, rfl, rfl, by decide +kernel, rfl, by decide +kernel, by decide +kernel⟩
theorem cal_watch_at (T : Txt K mg CM CH CV LP) (h : HasDef K mg "watch_at" s_watch_at ["day", "bell"]) (c_bells_in : C8.Cal P w K mg base 1 "bells_in" spBellsIn []) : C8.Cal P w K mg base 2 "watch_at" spWatchAt [] := by
  refine mkCal h sc_watch_at (fun vs H Q E hh => ?_) (fun f cdv A outer s H vs Q E hr hh => ?_)
  · obtain ⟨a, ds, n, rfl, _⟩ := hh
    rfl
  · obtain ⟨a, ds, n, rfl, ha, h1, h2, h3, q⟩ := hh
    refine ⟨_, (pss_cons (ps_asg (pe_callB call_divmod (by rfl) T.m_divmod (by decide +kernel) (pa_cons (pv 1) (pa_cons (C8.pe_c c_bells_in hr (by decide) rfl (pa_cons (pv 0) pa_nil)) pa_nil))) (pg_tup rfl (pgs_cons (pg_name (i := 2) sc_watch_at.nd rfl (loc_by rfl)) (pgs_cons (pg_name (i := 3) sc_watch_at.nd rfl (loc_by rfl)) pgs_nil))))
      (pss_cons (ps_set (i := 4) sc_watch_at.nd rfl (loc_by rfl) pe_int)
      (pss_cons (ps_while PassesOwn.never (pt_cmpR op_ge (pv 3) (pe_ix ix_tup (pv 0) (pv 4) (fun _ _ => rfl)) (nomark _)) (pss_cons (ps_aug (i := 3) sc_watch_at.nd rfl (loc_by rfl) (pe_ix ix_tup (pv 0) (pv 4) (fun _ _ => rfl)) ip_sub)
      (pss_one (ps_aug (i := 4) sc_watch_at.nd rfl (loc_by rfl) pe_int ip_add))))
      (pss_one (ps_ret (pe_tup (pa_cons (pv 2) (pa_cons (pv 4) (pa_cons (pv 3) pa_nil))))))))), ?_⟩
    refine ⟨_, rfl, _, rfl, a, ds, rfl, ha, _, _, rfl, ⟨h2, by omega⟩, fun p hp => ?_⟩
    have ha1 := (Kp.new (S := fun _ => False) (o := .tup [.int (n / ds.sum), .int (n % ds.sum)]) hp).tup ha
    refine ⟨p, _, rfl, .of upd_same, rfl, _, _, rfl, _, _, rfl, rfl, ?_⟩
    have b0 : 0 ≤ n % ds.sum := Int.emod_nonneg _ (by omega)
    have b1 : n % ds.sum < ds.sum := Int.emod_lt_of_pos _ h2
    refine ⟨fun m σ H' => H' = upd H p (.tup [.int (n / ds.sum), .int (n % ds.sum)]) ∧ ∃ (w : Nat) (l : Int), m = l.toNat ∧ σ = [some (.ref a), some (.int n), some (.int (n / ds.sum)), some (.int l), some (.int (w : Nat))] ∧ w ≤ ds.length ∧ 0 ≤ l ∧ l < (ds.drop w).sum ∧
        watchGo ds (n % ds.sum) = ((watchGo (ds.drop w) l).1 + w, (watchGo (ds.drop w) l).2), ⟨_, rfl, 0, _, rfl, rfl, Nat.zero_le _, b0, b1, by simp⟩, ?_⟩
    · rintro m σ H' ⟨rfl, w, l, rfl, rfl, hw, hl0, hl1, hg⟩
      have hwl : w < ds.length := by
        rcases Nat.lt_or_ge w ds.length with z | z
        · exact z
        · rw [List.drop_eq_nil_of_le z] at hl1
          simp at hl1; omega
      have ed : ds.drop w = ds[w] :: ds.drop (w + 1) := (List.drop_eq_getElem_cons hwl)
      have hx : (ds.map V.int)[w]? = some (.int ds[w]) := by rw [List.getElem?_map, List.getElem?_eq_getElem hwl]; rfl
      have hd1 : 1 ≤ ds[w] := h1 _ (List.getElem_mem hwl)
      refine ⟨_, rfl, _, rfl, _, rfl, a, _, _, _, rfl, rfl, .of ha1, atI_nat hx, _, _, rfl, rfl, _, rfl, ?_⟩
      rw [ed] at hg hl1
      rw [List.sum_cons] at hl1
      rw [watchGo] at hg
      refine ite2 (fun e => ?_) (fun e => ?_)
      · have e := of_decide_eq_true e
        rw [if_pos e] at hg
        refine ⟨fun σ' H' => ∃ m', m' < l.toNat ∧ _, fun _ _ h => h, ?_⟩
        refine ⟨_, rfl, _, rfl, _, rfl, a, _, _, _, rfl, rfl, .of ha1, atI_nat hx, _, _, rfl, rfl, _, rfl, _, _, rfl, rfl, ?_⟩
        refine ⟨(l - ds[w]).toNat, by omega, rfl, w + 1, l - ds[w], rfl, rfl, hwl, by omega, by omega, ?_⟩
        rw [hg]; simp; omega
      · have e : ¬ ds[w] ≤ l := fun z => e (decide_eq_true z)
        rw [if_neg e] at hg
        refine ⟨_, rfl, _, rfl, _, rfl, by show 3 ≤ sizeLine; decide, fun p' hp' => ?_⟩
        have hw' : watchOf ds n = w := by unfold watchOf; rw [hg]; simp
        have hl' : leftOf ds n = l := by unfold leftOf; rw [hg]
        refine q _ p' ((Kp.new hp).then_new hp') (((Kp.new (S := fun _ => False) hp)).fr _ hp') ?_
        rw [upd_same, hw', hl']
end
end WS
set_option Elab.async false
set_option linter.all false
set_option maxRecDepth 100000
set_option maxHeartbeats 4000000
namespace WS
open PySem PySem.Spec PyProof.Rows L2
/-! ### turns: the mirror -/
def cycGo (t : List Nat) (first : Nat) : Nat → List Nat → Nat → List Nat
  | 0, pre, c => pre ++ [c]
  | f + 1, pre, c => if t.getD c 0 = first then pre ++ [c] else cycGo t first f (pre ++ [c]) (t.getD c 0)
def cycEnd (t : List Nat) (first : Nat) : Nat → Nat → Bool
  | 0, c => t.getD c 0 == first
  | f + 1, c => t.getD c 0 == first || cycEnd t first f (t.getD c 0)
def cycOf (t : List Nat) (i : Nat) : List Nat := cycGo t i 6 [] i
def cycStep (t : List Nat) (s : List (List Nat) × List Nat) (i : Nat) : List (List Nat) × List Nat := if i ∈ s.2 then s else (s.1 ++ [cycOf t i], s.2 ++ cycOf t i)
def cycs (t : List Nat) : List (List Nat) := ((List.range t.length).foldl (cycStep t) ([], [])).1
def rndStep (d : Nat) (c : List Nat) : Nat := d * c.length / Nat.gcd d c.length
def roundOf (t : List Nat) : Nat := (cycs t).foldl rndStep 1
def ordStep (t o : List Nat) : List Nat := t.map fun i => o.getD i 0
def ordIt (t : List Nat) : Nat → List Nat
  | 0 => List.range t.length
  | n + 1 => ordStep t (ordIt t n)
def ordAt (t : List Nat) (n : Nat) : List Nat := ordIt t (n % roundOf t)
structure TurnOk (t : List Nat) : Prop where
  len1 : 1 ≤ t.length
  len6 : t.length ≤ 6
  lt : ∀ x ∈ t, x < t.length
  cyc : ∀ i, i < t.length → cycEnd t i 6 i = true
  cpos : ∀ c ∈ cycs t, 1 ≤ c.length ∧ c.length ≤ 7
  rpos : 0 < roundOf t
  rle : roundOf t ≤ 1000
  per : ordIt t (roundOf t) = List.range t.length
  min : ∀ j, 0 < j → j < roundOf t → ordIt t j ≠ List.range t.length
theorem ordIt_len (t : List Nat) : ∀ n, (ordIt t n).length = t.length
  | 0 => by simp [ordIt]
  | n + 1 => by simp [ordIt, ordStep]
theorem getD_lt {t : List Nat} (h : ∀ x ∈ t, x < t.length) {i : Nat} (hi : i < t.length) : t.getD i 0 < t.length := by
  rw [show t.getD i 0 = t[i] by simp [hi]]
  exact h _ (List.getElem_mem hi)
theorem cycGo_len (t : List Nat) (first : Nat) : ∀ (f : Nat) (pre : List Nat) (c : Nat), (cycGo t first f pre c).length ≤ pre.length + f + 1
  | 0, pre, c => by simp [cycGo]
  | f + 1, pre, c => by
    rw [cycGo]
    split
    · simp
    · have := cycGo_len t first f (pre ++ [c]) (t.getD c 0)
      simp at this ⊢
      omega
section
variable {P : Program} {w : World} {K : PySem.W.Frag} {mg : Str → Option Value} {base : Heap} {CM CH CV LP : Addr}
/-! ### divisor -/
def spDivisor : Sp := fun vs H Q _ => ∃ (a b : Nat), vs = [.int a, .int b] ∧ Q (.int (Nat.gcd a b : Nat)) H
abbrev n_divisor : List Str := ["one", "other"]
theorem sc_divisor : FnScope n_divisor ["one", "other"] (C8.fnScope s_divisor) := ⟨rfl, rfl, rfl, by decide +kernel, rfl, by decide +kernel, by decide +kernel⟩
theorem cal_divisor (h : HasDef K mg "divisor" s_divisor ["one", "other"]) : C8.Cal P w K mg base 1 "divisor" spDivisor [] := by
  refine mkCal h sc_divisor (fun vs H Q E hh => ?_) (fun f cdv A outer s H vs Q E hr hh => ?_)
  · obtain ⟨a, b, rfl, _⟩ := hh
    rfl
  · obtain ⟨a, b, rfl, q⟩ := hh
    refine ⟨_, (pss_cons (ps_while PassesOwn.never (pt_cmpR op_ne (pv 1) pe_int (nomark _)) (pss_one (ps_par (i := 0) (j := 1) rfl sc_divisor.nd rfl rfl (by decide) rfl rfl (pa_cons (pv 1) (pa_cons (pe_op op_mod (pv 0) (pv 1)) pa_nil)) (by rfl))))
      (pss_one (ps_ret (pv 0)))), ?_⟩
    refine ⟨fun m σ H' => H' = H ∧ ∃ (x y : Nat), m = y ∧ σ = [some (.int x), some (.int y)] ∧ Nat.gcd x y = Nat.gcd a b, ⟨b, rfl, a, b, rfl, rfl, rfl⟩, ?_⟩
    rintro m σ H' ⟨rfl, x, y, rfl, rfl, e⟩
    refine ⟨_, rfl, rfl, _, rfl, ?_⟩
    by_cases hy : m = 0
    · subst hy
      refine if_false_of (by simp) ?_
      refine ⟨_, rfl, ?_⟩
      rw [Nat.gcd_zero_right] at e
      rw [e]; exact q
    · refine if_true_of (dne (by omega)) ?_
      refine ⟨fun σ' H2 => ∃ m', m' < m ∧ _, fun _ _ h => h, ?_⟩
      refine ⟨_, rfl, _, rfl, _, rfl, _, _, rfl, rfl, (by omega), _, _, rfl, ?_⟩
      refine ⟨x % m, Nat.mod_lt _ (by omega), rfl, m, x % m, rfl, rfl, ?_⟩
      rw [← e, Nat.gcd_comm m, ← Nat.gcd_rec, Nat.gcd_comm]
/-! ### cycle_from -/
def spCycleFrom : Sp := fun vs H Q _ => ∃ (a : Addr) (t : List Nat) (first : Nat), vs = [.ref a, .int first] ∧ H a = some (.tup (vN t)) ∧ (∀ x ∈ t, x < t.length) ∧ first < t.length ∧ t.length ≤ 6 ∧ cycEnd t first 6 first = true ∧
  ∀ (H' : Hp) (p : Addr), K0 H H' → H' p = some (.tup (vN (cycOf t first))) → Q (.ref p) H'
abbrev n_cycle_from : List Str := ["turn", "first", "cycle"]
theorem sc_cycle_from : FnScope n_cycle_from ["turn", "first"] (C8.fnScope s_cycle_from) := ⟨rfl, rfl, rfl, by decide +kernel, rfl, by decide +kernel, by decide +kernel⟩
theorem cal_cycle_from (T : Txt K mg CM CH CV LP) (h : HasDef K mg "cycle_from" s_cycle_from ["turn", "first"]) : C8.Cal P w K mg base 1 "cycle_from" spCycleFrom [] := by
  refine mkCal h sc_cycle_from (fun vs H Q E hh => ?_) (fun f cdv A outer s H vs Q E hr hh => ?_)
  · obtain ⟨a, t, first, rfl, _⟩ := hh
    rfl
  · obtain ⟨a, t, first, rfl, ha, hlt, hf, h6, hend, q⟩ := hh
    refine ⟨_, (pss_cons (ps_set (i := 2) sc_cycle_from.nd rfl (loc_by rfl) (pe_lst (pa_cons (pv 1) pa_nil)))
      (pss_cons (ps_while PassesOwn.never (pt_cmpR op_ne (pe_ix ix_tup (pv 0) (pe_ix ix_list (pv 2) (pe_un un_neg pe_int) (fun _ _ => rfl)) (fun _ _ => rfl)) (pv 1) (nomark _)) (pss_one (ps_expr (pe_bm PySem.F.plainAttrs_list PySem.F.slot_list_append PySem.F.type_list_append mt_append (pv 2) (pa_cons (pe_ix ix_tup (pv 0) (pe_ix ix_list (pv 2) (pe_un un_neg pe_int) (fun _ _ => rfl)) (fun _ _ => rfl)) pa_nil)))))
      (pss_one (ps_ret (pe_callTy call_tuple_of (by rfl) T.m_tuple (by decide +kernel) (pa_cons (pv 2) pa_nil)))))), ?_⟩
    refine ⟨_, rfl, by show 1 ≤ sizeLine; decide, fun p hp => ?_⟩
    refine ⟨fun m σ H' => σ = [some (.ref a), some (.int first), some (.ref p)] ∧ K0 H H' ∧ ∃ (pre : List Nat) (c : Nat), H' p = some (.lst (vN (pre ++ [c]))) ∧ c < t.length ∧ cycOf t first = cycGo t first m pre c ∧ cycEnd t first m c = true ∧ pre.length + m = 6, ⟨6, rfl, .new hp, [], first, upd_same, hf, rfl, hend, rfl⟩, ?_⟩
    rintro m σ H' ⟨rfl, k, pre, c, hc, hct, e1, e2, hl⟩
    have ha' := k.tup ha
    have ec : vN (pre ++ [c]) = vN pre ++ [.int (c : Nat)] := by simp [vN]
    have hat : atI (vN (pre ++ [c])) (-1) = some (.int (c : Nat)) := by rw [ec]; exact atI_last _ _
    refine ⟨_, rfl, _, rfl, 1, rfl, p, _, _, _, rfl, rfl, .of hc, hat, a, _, _, _, rfl, rfl, .of ha', atI_nat (vN_getD hct), _, rfl, rfl, _, rfl, ?_⟩
    by_cases hz : t.getD c 0 = first
    · refine if_false_of (by rw [hz]; simp) ?_
      have e : cycOf t first = pre ++ [c] := by
        rw [e1]
        cases m with
        | zero => rfl
        | succ m => rw [cycGo, if_pos hz]
      refine ⟨_, rfl, p, _, rfl, .inl ⟨.of hc, fun l hl' => q _ l (k.then_new hl') ?_⟩⟩
      rw [upd_same, e]
    · refine if_true_of (dne (by omega)) ?_
      cases m with
      | zero =>
        rw [cycEnd] at e2
        exact absurd (by simpa using e2) hz
      | succ m =>
        rw [cycGo, if_neg hz] at e1
        rw [cycEnd] at e2
        refine ⟨fun σ' H2 => ∃ m', m' < m + 1 ∧ _, fun _ _ h => h, ?_⟩
        refine ⟨_, rfl, .inl ⟨rfl, _, .of hc⟩, _, rfl, _, rfl, 1, rfl, p, _, _, _, rfl, rfl, .of hc, hat, a, _, _, _, rfl, rfl, .of ha', atI_nat (vN_getD hct), p, _, _, rfl, rfl, hc, lt_line (by rw [vN_len]; simp; omega), ?_⟩
        refine ⟨m, Nat.lt_succ_self _, rfl, k.mut hp, pre ++ [c], t.getD c 0, ?_, getD_lt hlt hct, e1, (Bool.or_eq_true_iff.mp e2).elim (fun z => absurd (by simpa using z) hz) id, by simp; omega⟩
        rw [upd_same]
        simp [vN]
end
end WS
set_option Elab.async false
set_option linter.all false
set_option maxRecDepth 100000
set_option maxHeartbeats 4000000
namespace WS
open PySem PySem.Spec PyProof.Rows L2
theorem foldl_range_succ {α : Type} (f : α → Nat → α) (a : α) (n : Nat) : (List.range (n + 1)).foldl f a = f ((List.range n).foldl f a) n := by
  rw [List.range_succ, List.foldl_append]; rfl
section
variable {P : Program} {w : World} {K : PySem.W.Frag} {mg : Str → Option Value} {base : Heap} {CM CH CV LP : Addr}
/-! ### cycles -/
def spCycles : Sp := fun vs H Q _ => ∃ (a : Addr) (t : List Nat), vs = [.ref a] ∧ H a = some (.tup (vN t)) ∧ TurnOk t ∧
  ∀ (H' : Hp) (p : Addr) (xs : List V), K0 H H' → H' p = some (.tup xs) → ImAll H' xs ((cycs t).map dN) → Q (.ref p) H'
abbrev n_cycles : List Str := ["turn", "found", "met", "first", "cycle", "number"]
theorem sc_cycles : FnScope n_cycles ["turn"] (C8.fnScope s_cycles) := ⟨rfl, rfl, rfl, by decide +kernel, rfl, by decide +kernel, by decide +kernel⟩
theorem cal_cycles (T : Txt K mg CM CH CV LP) (h : HasDef K mg "cycles" s_cycles ["turn"]) (c_cycle_from : C8.Cal P w K mg base 1 "cycle_from" spCycleFrom []) : C8.Cal P w K mg base 2 "cycles" spCycles [] := by
  refine mkCal h sc_cycles (fun vs H Q E hh => ?_) (fun f cdv A outer s H vs Q E hr hh => ?_)
  · obtain ⟨a, t, rfl, _⟩ := hh
    rfl
  · obtain ⟨a, t, rfl, ha, ok, q⟩ := hh
    refine ⟨_, (pss_cons (ps_set (i := 1) sc_cycles.nd rfl (loc_by rfl) (pe_lst pa_nil))
      (pss_cons (ps_set (i := 2) sc_cycles.nd rfl (loc_by rfl) pe_dnewK)
      (pss_cons (ps_for PassesOwn.never rfl (pi_range1 rfl T.m_range (pa_cons (pe_callB call_len_seq (by rfl) T.m_len (by decide +kernel) (pa_cons (pv 0) pa_nil)) pa_nil)) (pg_name (i := 3) sc_cycles.nd rfl (loc_by rfl)) (pss_one (ps_if (pt_cmp (pc_dnotin (hu_of hr) (pv 3) (pv 2))) (pss_cons (ps_set (i := 4) sc_cycles.nd rfl (loc_by rfl) (C8.pe_c c_cycle_from hr (by decide) rfl (pa_cons (pv 0) (pa_cons (pv 3) pa_nil))))
      (pss_cons (ps_for PassesOwn.never rfl (pi_tup (pv 4)) (pg_name (i := 5) sc_cycles.nd rfl (loc_by rfl)) (pss_one (ps_dput (hu_of hr) (pv 2) (pv 5) pe_bl rfl)))
      (pss_one (ps_expr (pe_bm PySem.F.plainAttrs_list PySem.F.slot_list_append PySem.F.type_list_append mt_append (pv 1) (pa_cons (pv 4) pa_nil)))))) pss_nil)))
      (pss_one (ps_ret (pe_callTy call_tuple_of (by rfl) T.m_tuple (by decide +kernel) (pa_cons (pv 1) pa_nil))))))), ?_⟩
    refine ⟨Nat.zero_le _, fun p hp => ?_⟩
    intro d hd
    have hpd : p ≠ d := ne_of_none upd_same hd
    have k0 : K0 H (upd (upd H p (.lst [])) d (.dK [])) := (Kp.new hp).then_new hd
    have hd0 : H d = none := (Kp.new (S := fun _ => False) hp).fr d hd
    refine ⟨_, rfl, a, _, rfl, .inr (.of (k0.tup ha)), (t.length : Int), by rw [vN_len], by have := ok.len6; omega, by have := ok.len6; omega, ?_⟩
    refine for_range (lo := 0) (n := t.length) (fun i σ H' => ∃ x3 x4 x5, σ = [some (.ref a), some (.ref p), some (.ref d), x3, x4, x5] ∧ K0 H H' ∧ ∃ (xs : List V) (kvs : List (L2.Key × V)), H' p = some (.lst xs) ∧ H' d = some (.dK kvs) ∧ kvs.length ≤ 7 * i ∧ xs.length ≤ i ∧
      ImAll H' xs (((List.range i).foldl (cycStep t) ([], [])).1.map dN) ∧ ∀ x : Nat, (valV kvs (.inl x)).isSome = true ↔ x ∈ ((List.range i).foldl (cycStep t) ([], [])).2) ?_ ?_ ?_
    · exact ⟨none, none, none, rfl, k0, [], [], by rw [upd_ne hpd, upd_same], upd_same, Nat.le_refl _, Nat.le_refl _, .nil, fun x => by simp [valV]⟩
    · rintro i σ H' hi ⟨x3, x4, x5, rfl, k, xs, kvs, h1, h2, hl, hxl, him, hmem⟩
      rw [foldl_range_succ]
      generalize hS : (List.range i).foldl (cycStep t) ([], []) = S at him hmem ⊢
      have zi : (0 : Int) + (i : Nat) = (i : Nat) := Int.zero_add _
      refine ⟨_, rfl, _, rfl, d, _, rfl, DGet.k (k := Sum.inl (0 + (i : Nat) : Int)) h2, _, rfl, ?_⟩
      rw [zi]
      cases hv : (valV kvs (.inl ((i : Nat) : Int))).isSome with
      | true =>
        have hm := (hmem i).mp hv
        refine if_false_of rfl ?_
        refine ⟨_, _, _, rfl, k, xs, kvs, h1, h2, by omega, by omega, ?_, ?_⟩
        · rw [cycStep, if_pos hm]; exact him
        · rw [cycStep, if_pos hm]; exact hmem
      | false =>
        have hm : ¬ i ∈ S.2 := fun z => by rw [(hmem i).mpr z] at hv; cases hv
        refine if_true_of rfl ?_
        refine ⟨_, rfl, _, rfl, a, t, i, rfl, k.tup ha, ok.lt, hi, ok.len6, ok.cyc i hi, fun H2 c k2 hc => ?_⟩
        have h1' := k2.get0 h1
        have h2' := k2.get0 h2
        have hcl : (cycOf t i).length ≤ 7 := cycGo_len t i 6 [] i
        refine ⟨_, rfl, c, rfl, ⟨_, .of hc⟩, ?_⟩
        refine for_tup (K := K) (a := c) (xs := vN (cycOf t i)) (fun j σ H3 => ∃ x5 kv, σ = [some (.ref a), some (.ref p), some (.ref d), some (.int (i : Nat)), some (.ref c), x5] ∧ H3 = upd H2 d (.dK kv) ∧ kv.length ≤ 7 * i + j ∧ ∀ x : Nat, (valV kv (.inl x)).isSome = true ↔ x ∈ S.2 ∨ x ∈ (cycOf t i).take j)
          ⟨x5, kvs, rfl, (upd_self h2').symm, by omega, fun x => by rw [hmem]; simp⟩ ?_ ?_ ?_
        · rintro j σ H3 hj ⟨x5, kv, rfl, rfl, _⟩
          exact .of (tk_set h2' (fun _ z => by cases z) _ _ hc)
        · rintro j x σ H3 hx ⟨x5, kv, rfl, rfl, hl2, hm2⟩
          obtain ⟨hjl, rfl⟩ := vN_at hx
          refine ⟨_, rfl, _, rfl, d, _, rfl, DPut.k (k := Sum.inl ((cycOf t i)[j] : Int)) upd_same (lt_line (by have := ok.len6; omega)), ?_⟩
          refine ⟨_, _, rfl, by rw [upd_upd], Nat.le_trans (length_putK _ _ _) (by omega), fun x => ?_⟩
          rw [valV_put, List.take_add_one, List.getElem?_eq_getElem hjl]
          show _ ↔ x ∈ S.2 ∨ x ∈ List.take j (cycOf t i) ++ [(cycOf t i)[j]]
          rw [List.mem_append, List.mem_singleton]
          by_cases hxx : x = (cycOf t i)[j]
          · rw [if_pos (by rw [hxx])]
            exact ⟨fun _ => .inr (.inr hxx), fun _ => rfl⟩
          · rw [if_neg (fun z => hxx (by have := Sum.inl.inj z; omega)), hm2]
            exact ⟨fun z => z.elim .inl fun z => .inr (.inl z), fun z => z.elim .inl fun z => z.elim .inr fun z => absurd z hxx⟩
        · rintro σ H3 ⟨x5, kv, rfl, rfl, hl2, hm2⟩
          rw [vN_len] at hl2 hm2
          have h13 : upd H2 d (.dK kv) p = some (.lst xs) := by rw [upd_ne hpd]; exact h1'
          refine ⟨_, rfl, .inl ⟨rfl, _, .of h13⟩, _, rfl, p, xs, _, rfl, rfl, h13, lt_line (by have := ok.len6; omega), ?_⟩
          have t2 : TK H2 (upd (upd H2 d (.dK kv)) p (.lst (xs ++ [.ref c]))) := (tk_set h2' (fun _ z => by cases z)).trans (tk_set h13 (fun _ z => by cases z))
          have e : cycStep t S i = (S.1 ++ [cycOf t i], S.2 ++ cycOf t i) := by rw [cycStep, if_neg hm]
          rw [e]
          refine ⟨_, _, _, rfl, ((k.trans k2).mut hd0).mut hp, xs ++ [.ref c], kv, upd_same, by rw [upd_ne hpd.symm, upd_same], by omega, by simp; omega, ?_, fun x => ?_⟩
          · rw [List.map_append]
            exact (him.mono (k2.tk.trans t2)).append (.cons (im_dN.mpr ⟨c, rfl, t2 _ _ hc⟩) .nil)
          · rw [hm2, List.take_of_length_le (Nat.le_refl _)]
            simp
    · rintro σ H' ⟨x3, x4, x5, rfl, k, xs, kvs, h1, h2, hl, hxl, him, hmem⟩
      refine ⟨_, rfl, p, xs, rfl, .inl ⟨.of h1, fun l hl' => q _ l xs (k.then_new hl') upd_same (him.mono (tk_new hl'))⟩⟩
/-! ### round_of -/
def spRoundOf : Sp := fun vs H Q _ => ∃ (a : Addr) (t : List Nat), vs = [.ref a] ∧ H a = some (.tup (vN t)) ∧ TurnOk t ∧
  ∀ (H' : Hp), K0 H H' → Q (.int (roundOf t : Nat)) H'
abbrev n_round_of : List Str := ["turn", "days", "cycle"]
theorem sc_round_of : FnScope n_round_of ["turn"] (C8.fnScope s_round_of) := ⟨rfl, rfl, rfl, by decide +kernel, rfl, by decide +kernel, by decide +kernel⟩
theorem rnd_bound : ∀ (l : List (List Nat)) (d b : Nat), (∀ c ∈ l, 1 ≤ c.length ∧ c.length ≤ 7) → 1 ≤ d → d ≤ b → 1 ≤ l.foldl rndStep d ∧ l.foldl rndStep d ≤ b * 7 ^ l.length
  | [], d, b, _, h1, h2 => ⟨h1, by simpa using h2⟩
  | c :: l, d, b, hc, h1, h2 => by
    have hc1 := hc c (List.mem_cons_self ..)
    have g1 : 0 < Nat.gcd d c.length := Nat.gcd_pos_of_pos_left _ (by omega)
    have g2 : Nat.gcd d c.length ∣ d * c.length := Nat.dvd_mul_right_of_dvd (Nat.gcd_dvd_left _ _) _
    have p1 : 1 ≤ rndStep d c := by
      unfold rndStep
      exact Nat.div_pos (Nat.le_of_dvd (Nat.mul_pos (by omega) (by omega)) g2) g1
    have p2 : rndStep d c ≤ b * 7 := by
      unfold rndStep
      exact Nat.le_trans (Nat.div_le_self _ _) (Nat.mul_le_mul h2 hc1.2)
    have := rnd_bound l (rndStep d c) (b * 7) (fun x hx => hc x (List.mem_cons_of_mem _ hx)) p1 p2
    refine ⟨this.1, ?_⟩
    show l.foldl rndStep (rndStep d c) ≤ b * 7 ^ (l.length + 1)
    rw [Nat.pow_succ, Nat.mul_comm (7 ^ l.length) 7, ← Nat.mul_assoc]
    exact this.2
theorem cycs_len (t : List Nat) : (cycs t).length ≤ t.length := by
  unfold cycs
  generalize t.length = n
  induction n with
  | zero => simp
  | succ n ih =>
    rw [foldl_range_succ, cycStep]
    split
    · omega
    · simp; omega
theorem cal_round_of (T : Txt K mg CM CH CV LP) (h : HasDef K mg "round_of" s_round_of ["turn"]) (c_cycles : C8.Cal P w K mg base 2 "cycles" spCycles []) (c_divisor : C8.Cal P w K mg base 1 "divisor" spDivisor []) : C8.Cal P w K mg base 3 "round_of" spRoundOf [] := by
  refine mkCal h sc_round_of (fun vs H Q E hh => ?_) (fun f cdv A outer s H vs Q E hr hh => ?_)
  · obtain ⟨a, t, rfl, _⟩ := hh
    rfl
  · obtain ⟨a, t, rfl, ha, ok, q⟩ := hh
    refine ⟨_, (pss_cons (ps_set (i := 1) sc_round_of.nd rfl (loc_by rfl) pe_int)
      (pss_cons (ps_for PassesOwn.never rfl (pi_tup (C8.pe_c c_cycles hr (by decide) rfl (pa_cons (pv 0) pa_nil))) (pg_name (i := 2) sc_round_of.nd rfl (loc_by rfl)) (pss_one (ps_set (i := 1) sc_round_of.nd rfl (loc_by rfl) (pe_op op_fdiv (pe_op op_mul (pv 1) (pe_callB call_len_seq (by rfl) T.m_len (by decide +kernel) (pa_cons (pv 2) pa_nil))) (C8.pe_c c_divisor hr (by decide) rfl (pa_cons (pv 1) (pa_cons (pe_callB call_len_seq (by rfl) T.m_len (by decide +kernel) (pa_cons (pv 2) pa_nil)) pa_nil)))))))
      (pss_one (ps_ret (pv 1))))), ?_⟩
    refine ⟨_, rfl, a, t, rfl, ha, ok, fun H1 p xs k hp him => ?_⟩
    have hxl : xs.length = (cycs t).length := by rw [him.length, List.length_map]
    refine ⟨p, rfl, ⟨_, .of hp⟩, for_tup (K := K) (a := p) (xs := xs) (fun i σ H' => ∃ x2, σ = [some (.ref a), some (.int (((cycs t).take i).foldl rndStep 1 : Nat)), x2] ∧ H' = H1) ⟨none, rfl, rfl⟩ ?_ ?_ ?_⟩
    · rintro i σ H' _ ⟨_, _, rfl⟩
      exact .of hp
    · rintro i x σ H' hx ⟨x2, rfl, rfl⟩
      obtain ⟨D, hD, hi⟩ := him.get hx
      rw [List.getElem?_map] at hD
      obtain ⟨c, hc, rfl⟩ := Option.map_eq_some_iff.mp hD
      obtain ⟨b, rfl, hb⟩ := im_dN.mp hi
      have hcm := ok.cpos c (List.mem_of_getElem? hc)
      have hb1 := rnd_bound ((cycs t).take i) 1 1 (fun c h => ok.cpos c (List.mem_of_mem_take h)) (Nat.le_refl _) (Nat.le_refl _)
      have hlen : ((cycs t).take i).length ≤ 6 := by
        have := cycs_len t
        have := ok.len6
        rw [List.length_take]; omega
      have hb2 : ((cycs t).take i).foldl rndStep 1 ≤ 117649 := by
        refine Nat.le_trans hb1.2 ?_
        rw [Nat.one_mul]
        exact Nat.le_trans (Nat.pow_le_pow_right (by decide) hlen) (by decide)
      generalize hd : ((cycs t).take i).foldl rndStep 1 = d at *
      have g1 : 0 < Nat.gcd d c.length := Nat.gcd_pos_of_pos_left _ (by omega)
      have g3 : Nat.gcd d c.length ≤ d := Nat.gcd_le_left _ (by omega)
      refine ⟨_, rfl, _, rfl, b, _, rfl, .inr (.of hb), _, _, rfl, rfl, .inl ⟨by omega, by omega⟩, _, rfl, _, rfl, b, _, rfl, .inr (.of hb), d, c.length, by rw [vN_len]; rfl, _, _, rfl, rfl, ⟨by omega, by omega⟩, ?_⟩
      refine ⟨some (.ref b), ?_, rfl⟩
      rw [List.take_add_one, hc, List.foldl_append, hd]
      show _ = [some (V.ref a), some (V.int ((rndStep d c : Nat) : Int)), some (V.ref b)]
      rw [vN_len]
      unfold rndStep
      simp
    · rintro σ H' ⟨x2, rfl, rfl⟩
      refine ⟨_, rfl, ?_⟩
      rw [hxl, List.take_of_length_le (Nat.le_refl _)]
      exact q _ k
end
end WS
set_option Elab.async false
set_option linter.all false
set_option maxRecDepth 100000
set_option maxHeartbeats 4000000
namespace WS
open PySem PySem.Spec PyProof.Rows L2
section
variable {P : Program} {w : World} {K : PySem.W.Frag} {mg : Str → Option Value} {base : Heap} {CM CH CV LP : Addr}
theorem rgV_nat (n : Nat) : rgV 0 (n : Nat) = vN (List.range n) := by
  unfold rgV vN
  simp
theorem paired_map_range {α : Type} {F : Nat → α → Prop} {n : Nat} {l : List α} (h : Paired F (List.range n) l) : l.length = n ∧ ∀ i x, l[i]? = some x → F i x := by
  refine ⟨by rw [← h.length]; simp, fun i x hx => ?_⟩
  obtain ⟨j, hj, hf⟩ := WS.Paired.get_r h hx
  have hi : i < n := by
    have := (List.getElem?_eq_some_iff.mp hj).1
    simpa using this
  rw [range_getElem? hi] at hj
  cases hj
  exact hf
theorem eq_vN {l : List V} {f : Nat → Nat} {n : Nat} (h : Paired (fun i v => v = V.int (f i : Nat)) (List.range n) l) : l = vN ((List.range n).map f) := by
  have := Paired.eq_map h
  rw [this]
  unfold vN
  rw [List.map_map]; rfl
/-! ### order_at -/
def spOrderAt : Sp := fun vs H Q _ => ∃ (a : Addr) (t : List Nat) (n : Nat), vs = [.ref a, .int n] ∧ H a = some (.tup (vN t)) ∧ TurnOk t ∧
  ∀ (H' : Hp) (p : Addr), K0 H H' → H' p = some (.tup (vN (ordAt t n))) → Q (.ref p) H'
abbrev n_order_at : List Str := ["turn", "day", "order", "step", "place"]
theorem sc_order_at : FnScope n_order_at ["turn", "day"] (C8.fnScope s_order_at) := ⟨rfl, rfl, rfl, by decide +kernel, rfl, by decide +kernel, by decide +kernel⟩
theorem cal_order_at (T : Txt K mg CM CH CV LP) (h : HasDef K mg "order_at" s_order_at ["turn", "day"]) (c_round_of : C8.Cal P w K mg base 3 "round_of" spRoundOf []) : C8.Cal P w K mg base 4 "order_at" spOrderAt [] := by
  refine mkCal h sc_order_at (fun vs H Q E hh => ?_) (fun f cdv A outer s H vs Q E hr hh => ?_)
  · obtain ⟨a, t, n, rfl, _⟩ := hh
    rfl
  · obtain ⟨a, t, n, rfl, ha, ok, q⟩ := hh
    refine ⟨_, (pss_cons (ps_set (i := 2) sc_order_at.nd rfl (loc_by rfl) (pe_tupRg rfl rfl T.m_tuple (prg_1 rfl T.m_range (pe_callB call_len_seq (by rfl) T.m_len (by decide +kernel) (pa_cons (pv 0) pa_nil)))))
      (pss_cons (ps_for PassesOwn.never rfl (pi_range1 rfl T.m_range (pa_cons (pe_op op_mod (pv 1) (C8.pe_c c_round_of hr (by decide) rfl (pa_cons (pv 0) pa_nil))) pa_nil)) (pg_name (i := 3) sc_order_at.nd rfl (loc_by rfl)) (pss_one (ps_set (i := 2) sc_order_at.nd rfl (loc_by rfl) (pe_callTy call_tuple_of (by rfl) T.m_tuple (by decide +kernel) (pa_cons (pe_lc (own := [("place", 4)]) (g := (gName 4)) (tt := tYes) rfl sc_order_at.nd (pi_tup (pv 0)) (blkOk_by (own := [("place", 4)]) (N := n_order_at) (sc := C8.fnScope s_order_at) (by decide +kernel)) (fun _ _ _ _ _ => (pg_name (i := 4) sc_order_at.nd rfl (loc_by rfl))) (fun _ _ _ _ _ => pts_nil) (fun _ _ _ _ _ => (pe_ix (ix_tupK (K := K) rfl) (pv 2) (pv 4) (fun _ _ => rfl)))) pa_nil)))))
      (pss_one (ps_ret (pv 2))))), ?_⟩
    refine ⟨_, rfl, a, _, rfl, .inr (.of ha), ?_⟩
    have hl := ok.len6
    refine ⟨(t.length : Int), by rw [vN_len], RgOk.of_le (by omega) (by omega) (by omega) (by omega), fun o ho => ?_⟩
    rw [rgV_nat]
    refine ⟨_, rfl, _, rfl, a, t, rfl, tk_new ho _ _ ha, ok, fun H1 k1 => ?_⟩
    have rp := ok.rpos
    have rl := ok.rle
    refine ⟨_, _, rfl, rfl, (by omega), (n % roundOf t : Nat), by simp, by omega, by have := Nat.mod_lt n rp; omega, ?_⟩
    have h1 : H1 o = some (.tup (vN (List.range t.length))) := k1.tup upd_same
    have k01 : K0 H H1 := (Kp.new ho).trans k1
    refine for_range (lo := 0) (n := n % roundOf t) (fun i σ H' => ∃ o x3, σ = [some (.ref a), some (.int (n : Nat)), some (.ref o), x3, none] ∧ K0 H H' ∧ H' o = some (.tup (vN (ordIt t i)))) ⟨o, none, rfl, k01, h1⟩ ?_ ?_
    · rintro i σ H' hi ⟨o', x3, rfl, k, ho'⟩
      have ha' := k.tup ha
      refine ⟨_, rfl, a, rfl, ⟨_, .of ha'⟩, fun D hD => ?_⟩
      refine lc_pure (n := t.length) (walk_tup (K := K) (a := a) (xs := vN t) |> fun z => by rw [vN_len] at z; exact z) (fun j H v => v = V.int ((ordIt t i).getD (t.getD j 0) 0 : Nat)) (fun _ => true) hD (by omega) (fun _ _ _ _ h _ => h) (fun H2 k2 => SqT.of (k2.tup ha')) ?_ ?_
      · rintro j x H2 H3 hj k2 ⟨rfl, hx⟩ Post Skip hP hS
        rw [vN_getD hj] at hx
        cases hx
        refine ⟨rfl, ?_⟩
        have hlt := getD_lt ok.lt hj
        refine ⟨_, rfl, _, rfl, o', _, _, _, rfl, rfl, .of (k2.tup ho'), atI_nat (vN_getD (by rw [ordIt_len]; exact hlt)), ?_⟩
        exact hP rfl _ _ (.refl _) rfl
      · intro H2 acc k2 hacc hp
        rw [filter_true] at hp
        have e := eq_vN (f := fun j => (ordIt t i).getD (t.getD j 0) 0) hp
        refine ⟨D, acc, rfl, .inl ⟨.of hacc, fun l hl' => ?_⟩⟩
        refine ⟨l, some (.int (0 + (i : Nat))), rfl, (k.trans k2).then_new hl', ?_⟩
        rw [upd_same, e]
        congr 3
        show _ = ordStep t (ordIt t i)
        unfold ordStep
        apply List.ext_getElem
        · simp
        · intro m h1 h2
          have hm : m < t.length := by simpa using h1
          simp [hm]
    · rintro σ H' ⟨o', x3, rfl, k, ho'⟩
      refine ⟨_, rfl, q _ o' k ho'⟩
/-! ### kept_by, keeper -/
def keptBy (t : List Nat) (n wt : Nat) : Nat := (ordAt t n).getD (wt % t.length) 0
def spKeptBy : Sp := fun vs H Q _ => ∃ (a : Addr) (t : List Nat) (n wt : Nat), vs = [.ref a, .int n, .int wt] ∧ H a = some (.tup (vN t)) ∧ TurnOk t ∧
  ∀ (H' : Hp), K0 H H' → Q (.int (keptBy t n wt : Nat)) H'
abbrev n_kept_by : List Str := ["turn", "number", "watch"]
theorem sc_kept_by : FnScope n_kept_by ["turn", "number", "watch"] (C8.fnScope s_kept_by) := ⟨rfl, rfl, rfl, by decide +kernel, rfl, by decide +kernel, by decide +kernel⟩
theorem cal_kept_by (T : Txt K mg CM CH CV LP) (h : HasDef K mg "kept_by" s_kept_by ["turn", "number", "watch"]) (c_order_at : C8.Cal P w K mg base 4 "order_at" spOrderAt []) : C8.Cal P w K mg base 5 "kept_by" spKeptBy [] := by
  refine mkCal h sc_kept_by (fun vs H Q E hh => ?_) (fun f cdv A outer s H vs Q E hr hh => ?_)
  · obtain ⟨a, t, n, wt, rfl, _⟩ := hh
    rfl
  · obtain ⟨a, t, n, wt, rfl, ha, ok, q⟩ := hh
    refine ⟨_, (pss_one (ps_ret (pe_ix ix_tup (C8.pe_c c_order_at hr (by decide) rfl (pa_cons (pv 0) (pa_cons (pv 1) pa_nil))) (pe_op op_mod (pv 2) (pe_callB call_len_seq (by rfl) T.m_len (by decide +kernel) (pa_cons (pv 0) pa_nil))) (fun _ _ => rfl)))), ?_⟩
    refine ⟨_, rfl, _, rfl, a, t, n, rfl, ha, ok, fun H1 p k hp => ?_⟩
    have l1 := ok.len1
    have e : ((wt : Int) % ((vN t).length : Int)) = ((wt % t.length : Nat) : Int) := by rw [vN_len]; simp
    refine ⟨_, rfl, _, rfl, a, _, rfl, .inr (.of (k.tup ha)), _, _, rfl, rfl, (by rw [vN_len]; omega), p, _, _, _, rfl, rfl, .of hp, ?_, q _ k⟩
    show atI _ ((wt : Int) % ((vN t).length : Int)) = _
    rw [e]
    exact atI_nat (vN_getD (by rw [ordAt, ordIt_len]; exact Nat.mod_lt _ l1))
def keeperOf (ds : List Int) (t : List Nat) (n : Nat) : Nat := keptBy t ((n : Int) / ds.sum).toNat (watchOf ds n)
def spKeeper : Sp := fun vs H Q _ => ∃ (a b : Addr) (ds : List Int) (t : List Nat) (n : Nat), vs = [.ref a, .ref b, .int n] ∧ H a = some (.tup (ds.map V.int)) ∧ H b = some (.tup (vN t)) ∧ TurnOk t ∧ (∀ d ∈ ds, 1 ≤ d) ∧ 0 < ds.sum ∧ ds.sum ≤ 1000 ∧
  ∀ (H' : Hp), K0 H H' → Q (.int (keeperOf ds t n : Nat)) H'
abbrev n_keeper : List Str := ["day", "turn", "bell", "number", "watch", "left"]
theorem sc_keeper : FnScope n_keeper ["day", "turn", "bell"] (C8.fnScope s_keeper) := ⟨rfl, rfl, rfl, by decide +kernel, rfl, by decide +kernel, by decide +kernel⟩
theorem cal_keeper (h : HasDef K mg "keeper" s_keeper ["day", "turn", "bell"]) (c_watch_at : C8.Cal P w K mg base 2 "watch_at" spWatchAt []) (c_kept_by : C8.Cal P w K mg base 5 "kept_by" spKeptBy []) : C8.Cal P w K mg base 6 "keeper" spKeeper [] := by
  refine mkCal h sc_keeper (fun vs H Q E hh => ?_) (fun f cdv A outer s H vs Q E hr hh => ?_)
  · obtain ⟨a, b, ds, t, n, rfl, _⟩ := hh
    rfl
  · obtain ⟨a, b, ds, t, n, rfl, ha, hb, ok, h1, h2, h3, q⟩ := hh
    refine ⟨_, (pss_cons (ps_asg (C8.pe_c c_watch_at hr (by decide) rfl (pa_cons (pv 0) (pa_cons (pv 2) pa_nil))) (pg_tup rfl (pgs_cons (pg_name (i := 3) sc_keeper.nd rfl (loc_by rfl)) (pgs_cons (pg_name (i := 4) sc_keeper.nd rfl (loc_by rfl)) (pgs_cons (pg_name (i := 5) sc_keeper.nd rfl (loc_by rfl)) pgs_nil)))))
      (pss_one (ps_ret (C8.pe_c c_kept_by hr (by decide) rfl (pa_cons (pv 1) (pa_cons (pv 3) (pa_cons (pv 4) pa_nil))))))), ?_⟩
    refine ⟨_, rfl, _, rfl, a, ds, n, rfl, ha, h1, h2, h3, fun H1 p k hf hp => ?_⟩
    refine ⟨p, _, rfl, .of hp, rfl, _, _, rfl, _, _, rfl, _, _, rfl, rfl, ?_⟩
    have e : (n : Int) / ds.sum = (((n : Int) / ds.sum).toNat : Int) := by
      have : 0 ≤ (n : Int) / ds.sum := Int.ediv_nonneg (by omega) (by omega)
      omega
    refine ⟨_, rfl, _, rfl, _, rfl, b, t, ((n : Int) / ds.sum).toNat, watchOf ds n, by rw [← e]; rfl, k.tup hb, ok, fun H2 k2 => q _ (k.trans k2)⟩
end
end WS
set_option Elab.async false
set_option linter.all false
set_option maxHeartbeats 1000000
namespace WS
/-! # The manning: mirror and mathematics (plain Lean) -/
def FAR : Int := 1000000000000
structure Man where
  wanted : List Int
  bounty : List Int
  costs : List (List (Option Int))
  spots : List (Option Nat)
  named : List Int
def Man.np (S : Man) : Nat := S.named.length
def Man.nh (S : Man) : Nat := S.spots.length
def cst (S : Man) (h p : Nat) : Option Int := (S.costs.getD h []).getD p none
def cI (S : Man) (h p : Nat) : Int := (cst S h p).getD 0
def fitPl (S : Man) (h : Nat) : List Nat := (List.range S.np).filter fun p => (cst S h p).isSome
abbrev RS : Type := List Int × List (Option Nat) × Bool
def relaxPlace (S : Man) (h : Nat) (come : Int) (st : RS) (p : Nat) : RS :=
  if come + cI S h p < st.1.getD p 0 then (st.1.set p (come + cI S h p), st.2.1.set p (some h), true) else st
def relaxHand (S : Man) (st : RS) (h : Nat) : RS := match S.spots.getD h none with
  | none => (fitPl S h).foldl (relaxPlace S h 0) st
  | some w => if st.1.getD w 0 < FAR then (fitPl S h).foldl (relaxPlace S h (st.1.getD w 0 - cI S h w)) st else st
def relaxAll (S : Man) (far : List Int) (ways : List (Option Nat)) : RS := (List.range S.nh).foldl (relaxHand S) (far, ways, false)
/-- runs of a loop that goes on while its step says so -/
inductive RunsN {σ : Type} (f : σ → σ × Bool) : Nat → σ → σ → Prop
  | stop {s : σ} : (f s).2 = false → RunsN f 0 s (f s).1
  | go {n : Nat} {s t : σ} : (f s).2 = true → RunsN f n (f s).1 t → RunsN f (n + 1) s t
theorem RunsN.det {σ : Type} {f : σ → σ × Bool} : ∀ {n m : Nat} {s t u : σ}, RunsN f n s t → RunsN f m s u → t = u ∧ n = m
  | _, _, _, _, _, .stop _, .stop _ => ⟨rfl, rfl⟩
  | _, _, _, _, _, .stop a, .go b _ => by rw [a] at b; cases b
  | _, _, _, _, _, .go a _, .stop b => by rw [b] at a; cases a
  | _, _, _, _, _, .go _ x, .go _ y => by
    obtain ⟨h1, h2⟩ := RunsN.det x y
    exact ⟨h1, by rw [h2]⟩
def relaxF (S : Man) (s : List Int × List (Option Nat)) : (List Int × List (Option Nat)) × Bool := let r := relaxAll S s.1 s.2; ((r.1, r.2.1), r.2.2)
open Classical in
noncomputable def bfEnd (S : Man) : List Int × List (Option Nat) :=
  if h : ∃ t n, RunsN (relaxF S) n (List.replicate S.np FAR, List.replicate S.np none) t then h.choose else ([], [])
theorem bfEnd_eq {S : Man} {n : Nat} {t : List Int × List (Option Nat)} (h : RunsN (relaxF S) n (List.replicate S.np FAR, List.replicate S.np none) t) : bfEnd S = t := by
  have e : ∃ t n, RunsN (relaxF S) n (List.replicate S.np FAR, List.replicate S.np none) t := ⟨t, n, h⟩
  unfold bfEnd
  rw [dif_pos e]
  obtain ⟨m, hm⟩ := e.choose_spec
  exact (hm.det h).1
def pickStep (S : Man) (far : List Int) (st : Option Nat × Int) (p : Nat) : Option Nat × Int :=
  if far.getD p 0 < FAR ∧ S.named.getD p 0 < S.wanted.getD p 0 ∧ far.getD p 0 - S.bounty.getD p 0 < st.2 then (some p, far.getD p 0 - S.bounty.getD p 0) else st
def pick (S : Man) (far : List Int) : Option Nat := ((List.range S.wanted.length).foldl (pickStep S far) (none, 0)).1
noncomputable def cheapest (S : Man) : Option Nat × List (Option Nat) := (pick S (bfEnd S).1, (bfEnd S).2)
/-- the hands along the way, each to the next place -/
def alongF (ways : List (Option Nat)) : Nat → List (Option Nat) → Option Nat → List (Option Nat)
  | 0, sp, _ => sp
  | _ + 1, sp, none => sp
  | n + 1, sp, some p => alongF ways n (sp.set ((ways.getD p none).getD 0) (some p)) (sp.getD ((ways.getD p none).getD 0) none)
inductive Along (ways : List (Option Nat)) (nh np : Nat) : Nat → List (Option Nat) → Option Nat → List (Option Nat) → Prop
  | stop {sp : List (Option Nat)} : Along ways nh np 0 sp none sp
  | go {n : Nat} {sp t : List (Option Nat)} {p h : Nat} : p < np → ways.getD p none = some h → h < nh → Along ways nh np n (sp.set h (some p)) (sp.getD h none) t → Along ways nh np (n + 1) sp (some p) t
theorem Along.det {ways : List (Option Nat)} {nh np : Nat} : ∀ {n m : Nat} {sp t u : List (Option Nat)} {p : Option Nat}, Along ways nh np n sp p t → Along ways nh np m sp p u → t = u
  | _, _, _, _, _, _, .stop, .stop => rfl
  | _, _, _, _, _, _, .go _ e _ x, .go _ e' _ y => by
    have : _ = _ := e.symm.trans e'
    cases this
    exact Along.det x y
open Classical in
noncomputable def alongEnd (S : Man) (ways : List (Option Nat)) (p : Nat) : List (Option Nat) := if h : ∃ t n, Along ways S.nh S.np n S.spots (some p) t then h.choose else S.spots
theorem alongEnd_eq {S : Man} {ways : List (Option Nat)} {p n : Nat} {t : List (Option Nat)} (h : Along ways S.nh S.np n S.spots (some p) t) : alongEnd S ways p = t := by
  have e : ∃ t n, Along ways S.nh S.np n S.spots (some p) t := ⟨t, n, h⟩
  unfold alongEnd
  rw [dif_pos e]
  obtain ⟨m, hm⟩ := e.choose_spec
  exact hm.det h
noncomputable def putAlong (S : Man) (ways : List (Option Nat)) (p : Nat) : Man := { S with named := S.named.set p (S.named.getD p 0 + 1), spots := alongEnd S ways p }
/-! ### well-formed, potentials -/
structure Wf (S : Man) : Prop where
  lw : S.wanted.length = S.np
  lb : S.bounty.length = S.np
  lc : S.costs.length = S.nh
  lr : ∀ r ∈ S.costs, r.length = S.np
  np : S.np ≤ 1000
  nh : S.nh ≤ 1000
  cr : ∀ h p c, cst S h p = some c → 0 ≤ c ∧ c ≤ 1000
  bo : ∀ p, p < S.np → 1000 ≤ S.bounty.getD p 0
  sp : ∀ h w, S.spots.getD h none = some w → w < S.np ∧ ∃ c, cst S h w = some c
structure Pot (S : Man) (π : Nat → Int) (D : Int) : Prop where
  p1 : ∀ h p c, h < S.nh → S.spots.getD h none = none → p < S.np → cst S h p = some c → π p ≤ c
  p2 : ∀ h w p c, h < S.nh → S.spots.getD h none = some w → p < S.np → cst S h p = some c → π p ≤ π w - cI S h w + c
  p2' : ∀ h w, h < S.nh → S.spots.getD h none = some w → cI S h w ≤ π w
  p3 : ∀ p, p < S.np → 0 < S.named.getD p 0 → π p ≤ D + S.bounty.getD p 0
  p4 : ∀ p, p < S.np → S.named.getD p 0 < S.wanted.getD p 0 → D ≤ π p - S.bounty.getD p 0
  neg : D ≤ 0
theorem getD_set {α : Type} (l : List α) (i j : Nat) (x d : α) : (l.set i x).getD j d = if i = j ∧ j < l.length then x else l.getD j d := by
  simp only [List.getD_eq_getElem?_getD, List.getElem?_set]
  by_cases h : i = j
  · subst h
    by_cases hl : i < l.length
    · simp [hl]
    · simp [hl]
  · simp [h]
theorem fit_mem {S : Man} {h p : Nat} (hp : p ∈ fitPl S h) : p < S.np ∧ ∃ c, cst S h p = some c ∧ cI S h p = c := by
  unfold fitPl at hp
  rw [List.mem_filter, List.mem_range] at hp
  obtain ⟨c, hc⟩ := Option.isSome_iff_exists.mp hp.2
  exact ⟨hp.1, c, hc, by unfold cI; rw [hc]; rfl⟩
theorem mem_fit {S : Man} {h p : Nat} {c : Int} (hp : p < S.np) (hc : cst S h p = some c) : p ∈ fitPl S h := by
  unfold fitPl
  rw [List.mem_filter, List.mem_range]
  exact ⟨hp, by rw [hc]; rfl⟩
theorem cI_of {S : Man} {h p : Nat} {c : Int} (hc : cst S h p = some c) : cI S h p = c := by unfold cI; rw [hc]; rfl
/-! ### shortest ways: what holds between two steps -/
/-- how many places are reached -/
def cnt (n : Nat) (far : List Int) : Nat := ((List.range n).filter fun p => decide (far.getD p 0 < FAR)).length
structure BF (S : Man) (π : Nat → Int) (far : List Int) (ways : List (Option Nat)) (t : Nat → Nat) (T : Nat) : Prop where
  lf : far.length = S.np
  lw : ways.length = S.np
  le : ∀ p, p < S.np → far.getD p 0 ≤ FAR
  b1 : ∀ p, p < S.np → far.getD p 0 < FAR → far.getD p 0 ≤ 1000 * cnt S.np far
  b2 : ∀ p, p < S.np → far.getD p 0 < FAR → π p ≤ far.getD p 0
  b3 : ∀ p, p < S.np → far.getD p 0 < FAR → ∃ h c, ways.getD p none = some h ∧ h < S.nh ∧ cst S h p = some c ∧
    ((S.spots.getD h none = none ∧ far.getD p 0 = c) ∨ ∃ w, S.spots.getD h none = some w ∧ far.getD w 0 < FAR ∧ far.getD w 0 - cI S h w + c ≤ far.getD p 0 ∧
      (far.getD w 0 - π w < far.getD p 0 - π p ∨ (far.getD w 0 - π w = far.getD p 0 - π p ∧ t w < t p)))
  tt : ∀ p, t p < T
theorem cnt_le (n : Nat) (far : List Int) : cnt n far ≤ n := by
  unfold cnt
  exact Nat.le_trans (List.length_filter_le _ _) (by simp)
theorem filter_len_mono {α : Type} (p q : α → Bool) : ∀ (l : List α), (∀ x ∈ l, p x = true → q x = true) → (l.filter p).length ≤ (l.filter q).length
  | [], _ => Nat.le_refl _
  | x :: l, h => by
    have ih := filter_len_mono p q l fun y hy => h y (List.mem_cons_of_mem _ hy)
    have hx := h x (List.mem_cons_self ..)
    rw [List.filter_cons, List.filter_cons]
    by_cases hp : p x = true
    · rw [if_pos hp, if_pos (hx hp)]; simp; exact ih
    · rw [if_neg hp]
      split
      · simp; omega
      · exact ih
theorem filter_len_lt {α : Type} (p q : α → Bool) : ∀ (l : List α), (∀ x ∈ l, p x = true → q x = true) → (∃ x ∈ l, p x = false ∧ q x = true) → (l.filter p).length < (l.filter q).length
  | [], _, h => by obtain ⟨x, hx, _⟩ := h; cases hx
  | x :: l, h, ⟨y, hy, h1, h2⟩ => by
    have hx := h x (List.mem_cons_self ..)
    have hl := fun z hz => h z (List.mem_cons_of_mem x hz)
    rw [List.filter_cons, List.filter_cons]
    rcases List.mem_cons.mp hy with rfl | hy
    · have := filter_len_mono p q l hl
      rw [if_neg (by rw [h1]; exact Bool.false_ne_true), if_pos h2]
      simp; omega
    · have ih := filter_len_lt p q l hl ⟨y, hy, h1, h2⟩
      by_cases hp : p x = true
      · rw [if_pos hp, if_pos (hx hp)]; simp; exact ih
      · rw [if_neg hp]
        split
        · simp; omega
        · exact ih
/-- one place made nearer -/
theorem BF.upd {S : Man} {π : Nat → Int} {far : List Int} {ways : List (Option Nat)} {t : Nat → Nat} {T : Nat} (b : BF S π far ways t T) (W : Wf S) {h p : Nat} {v c : Int} (hh : h < S.nh) (hp : p < S.np) (hc : cst S h p = some c) (hv : v < far.getD p 0) (hπ : π p ≤ v)
    (hs : (S.spots.getD h none = none ∧ v = c) ∨ ∃ w, S.spots.getD h none = some w ∧ w ≠ p ∧ w < S.np ∧ far.getD w 0 < FAR ∧ far.getD w 0 - cI S h w + c = v ∧ π p ≤ π w - cI S h w + c) :
    BF S π (far.set p v) (ways.set p (some h)) (fun q => if q = p then T else t q) (T + 1) := by
  have hlt : p < far.length := by rw [b.lf]; exact hp
  have hltw : p < ways.length := by rw [b.lw]; exact hp
  have gp : (far.set p v).getD p 0 = v := by rw [getD_set, if_pos ⟨rfl, hlt⟩]
  have gq : ∀ q, q ≠ p → (far.set p v).getD q 0 = far.getD q 0 := fun q hq => by rw [getD_set, if_neg fun z => hq z.1.symm]
  have vF : v < FAR := Int.lt_of_lt_of_le hv (b.le p hp)
  have mono : cnt S.np far ≤ cnt S.np (far.set p v) := by
    refine filter_len_mono _ _ _ fun x _ hx => ?_
    have hx := of_decide_eq_true hx
    by_cases e : x = p
    · rw [e, gp]; exact decide_eq_true vF
    · rw [gq x e]; exact decide_eq_true hx
  have pos : 1 ≤ cnt S.np (far.set p v) := by
    unfold cnt
    exact List.length_pos_of_mem (List.mem_filter.mpr ⟨List.mem_range.mpr hp, by rw [gp]; exact decide_eq_true vF⟩)
  have cb := W.cr h p c hc
  have vb : v ≤ 1000 * cnt S.np (far.set p v) := by
    rcases hs with ⟨_, rfl⟩ | ⟨w, hw, hwp, hwn, hwF, e, _⟩
    · omega
    · have hwb := b.b1 w hwn hwF
      by_cases hf : far.getD p 0 < FAR
      · have := b.b1 p hp hf
        omega
      · have : cnt S.np far < cnt S.np (far.set p v) := by
          refine filter_len_lt _ _ _ (fun x _ hx => ?_) ⟨p, List.mem_range.mpr hp, decide_eq_false hf, by rw [gp]; exact decide_eq_true vF⟩
          have hx := of_decide_eq_true hx
          by_cases e : x = p
          · rw [e, gp]; exact decide_eq_true vF
          · rw [gq x e]; exact decide_eq_true hx
        obtain ⟨_, cw, hcw⟩ := W.sp h w hw
        have := W.cr h w cw hcw
        have := cI_of hcw
        omega
  refine ⟨by rw [List.length_set]; exact b.lf, by rw [List.length_set]; exact b.lw, fun q hq => ?_, fun q hq hF => ?_, fun q hq hF => ?_, fun q hq hF => ?_, fun q => ?_⟩
  · by_cases e : q = p
    · rw [e, gp]; omega
    · rw [gq q e]; exact b.le q hq
  · by_cases e : q = p
    · rw [e, gp]; exact vb
    · rw [gq q e] at hF ⊢
      have := b.b1 q hq hF
      omega
  · by_cases e : q = p
    · rw [e, gp]; exact hπ
    · rw [gq q e] at hF ⊢
      exact b.b2 q hq hF
  · by_cases e : q = p
    · subst e
      refine ⟨h, c, by rw [getD_set, if_pos ⟨rfl, hltw⟩], hh, hc, ?_⟩
      rw [gp]
      rcases hs with ⟨h1, h2⟩ | ⟨w, hw, hwp, hwn, hwF, e, hpw⟩
      · exact .inl ⟨h1, h2⟩
      · refine .inr ⟨w, hw, by rw [gq w hwp]; exact hwF, by rw [gq w hwp]; omega, ?_⟩
        rw [gq w hwp, if_neg hwp, if_pos rfl]
        have := b.tt w
        omega
    · rw [gq q e] at hF
      obtain ⟨h', c', e1, e2, e3, e4⟩ := b.b3 q hq hF
      refine ⟨h', c', by rw [getD_set, if_neg fun z => e z.1.symm]; exact e1, e2, e3, ?_⟩
      rw [gq q e]
      rcases e4 with e4 | ⟨w, f1, f2, f3, f4⟩
      · exact .inl e4
      · refine .inr ⟨w, f1, ?_⟩
        by_cases ew : w = p
        · subst ew
          rw [gp, if_pos rfl, if_neg e]
          refine ⟨vF, by omega, .inl ?_⟩
          rcases f4 with f4 | f4 <;> omega
        · rw [gq w ew, if_neg ew, if_neg e]
          exact ⟨f2, f3, f4⟩
  · by_cases e : q = p
    · rw [if_pos e]; omega
    · rw [if_neg e]; have := b.tt q; omega
end WS
set_option Elab.async false
set_option linter.all false
set_option maxHeartbeats 1000000
namespace WS
/-- how far all is above a floor -/
def mu (n : Nat) (B : Int) (far : List Int) : Nat := ((List.range n).map fun p => (far.getD p 0 + B).toNat).sum
theorem sum_le_sum {α : Type} (f g : α → Nat) : ∀ (l : List α), (∀ x ∈ l, f x ≤ g x) → (l.map f).sum ≤ (l.map g).sum
  | [], _ => Nat.le_refl _
  | x :: l, h => by
    have h1 := h x (List.mem_cons_self ..)
    have h2 := sum_le_sum f g l fun y hy => h y (List.mem_cons_of_mem _ hy)
    simp only [List.map_cons, List.sum_cons]; omega
theorem sum_lt_sum {α : Type} (f g : α → Nat) : ∀ (l : List α), (∀ x ∈ l, f x ≤ g x) → (∃ x ∈ l, f x < g x) → (l.map f).sum < (l.map g).sum
  | [], _, h => by obtain ⟨x, hx, _⟩ := h; cases hx
  | x :: l, h, ⟨y, hy, hlt⟩ => by
    have h1 := h x (List.mem_cons_self ..)
    have hl := fun z hz => h z (List.mem_cons_of_mem x hz)
    simp only [List.map_cons, List.sum_cons]
    rcases List.mem_cons.mp hy with rfl | hy
    · have := sum_le_sum f g l hl; omega
    · have := sum_lt_sum f g l hl ⟨y, hy, hlt⟩; omega
theorem mu_set {n : Nat} {B : Int} {far : List Int} {p : Nat} {v : Int} (hp : p < n) (hl : far.length = n) (hv : v < far.getD p 0) (hb : -B ≤ v) : mu n B (far.set p v) + 1 ≤ mu n B far := by
  unfold mu
  refine sum_lt_sum _ _ _ (fun x _ => ?_) ⟨p, List.mem_range.mpr hp, ?_⟩
  · rw [getD_set]; split
    · rename_i e; rw [← e.1]; omega
    · exact Nat.le_refl _
  · rw [getD_set, if_pos ⟨rfl, by omega⟩]; omega
/-- what holds of a step's state: the ways, and that all came nearer as often as it was told -/
structure St (S : Man) (π : Nat → Int) (B : Int) (m0 : Nat) (st : RS) : Prop where
  bf : ∃ t T, BF S π st.1 st.2.1 t T
  ph : mu S.np B st.1 + (if st.2.2 = true then 1 else 0) ≤ m0
theorem relaxPlace_st {S : Man} {π : Nat → Int} {D B : Int} {m0 : Nat} {st : RS} (W : Wf S) (Po : Pot S π D) (hB : ∀ p, p < S.np → -B ≤ π p) (x : St S π B m0 st) {h p : Nat} {come : Int} (hh : h < S.nh) (hp : p ∈ fitPl S h)
    (hc : (S.spots.getD h none = none ∧ come = 0) ∨ ∃ w, S.spots.getD h none = some w ∧ st.1.getD w 0 < FAR ∧ come = st.1.getD w 0 - cI S h w) :
    St S π B m0 (relaxPlace S h come st p) ∧ ((S.spots.getD h none = none ∧ come = 0) ∨ ∃ w, S.spots.getD h none = some w ∧ (relaxPlace S h come st p).1.getD w 0 < FAR ∧ come = (relaxPlace S h come st p).1.getD w 0 - cI S h w) := by
  obtain ⟨⟨t, T, b⟩, ph⟩ := x
  obtain ⟨hpn, c, hcst, ec⟩ := fit_mem hp
  unfold relaxPlace
  by_cases hlt : come + cI S h p < st.1.getD p 0
  · rw [if_pos hlt]
    rw [ec] at hlt ⊢
    have key : π p ≤ come + c ∧ ((S.spots.getD h none = none ∧ come + c = c) ∨ ∃ w, S.spots.getD h none = some w ∧ w ≠ p ∧ w < S.np ∧ st.1.getD w 0 < FAR ∧ st.1.getD w 0 - cI S h w + c = come + c ∧ π p ≤ π w - cI S h w + c) := by
      rcases hc with ⟨h1, h2⟩ | ⟨w, h1, h2, h3⟩
      · have := Po.p1 h p c hh h1 hpn hcst
        exact ⟨by omega, .inl ⟨h1, by omega⟩⟩
      · obtain ⟨hwn, _⟩ := W.sp h w h1
        have h4 := Po.p2 h w p c hh h1 hpn hcst
        have h5 := b.b2 w hwn h2
        refine ⟨by omega, .inr ⟨w, h1, ?_, hwn, h2, by omega, h4⟩⟩
        rintro rfl
        rw [h3, ec] at hlt; omega
    have nb := b.upd W hh hpn hcst hlt key.1 key.2
    refine ⟨⟨⟨_, _, nb⟩, ?_⟩, ?_⟩
    · have := mu_set (B := B) hpn b.lf hlt (by have := hB p hpn; omega)
      show mu S.np B (st.1.set p (come + c)) + (if true = true then 1 else 0) ≤ m0
      rw [if_pos rfl]
      split at ph <;> omega
    · rcases key.2 with ⟨h1, h2⟩ | ⟨w, h1, h2, h3, h4, h5, h6⟩
      · exact .inl ⟨h1, by omega⟩
      · refine .inr ⟨w, h1, ?_⟩
        show (st.1.set p (come + c)).getD w 0 < FAR ∧ _
        rw [getD_set, if_neg fun z => h2 z.1.symm]
        exact ⟨h4, by omega⟩
  · rw [if_neg hlt]
    exact ⟨⟨⟨t, T, b⟩, ph⟩, hc⟩
theorem relaxPlaces_st {S : Man} {π : Nat → Int} {D B : Int} {m0 : Nat} (W : Wf S) (Po : Pot S π D) (hB : ∀ p, p < S.np → -B ≤ π p) {h : Nat} {come : Int} (hh : h < S.nh) : ∀ (l : List Nat) (st : RS), (∀ p ∈ l, p ∈ fitPl S h) → St S π B m0 st →
    ((S.spots.getD h none = none ∧ come = 0) ∨ ∃ w, S.spots.getD h none = some w ∧ st.1.getD w 0 < FAR ∧ come = st.1.getD w 0 - cI S h w) → St S π B m0 (l.foldl (relaxPlace S h come) st)
  | [], _, _, x, _ => x
  | p :: l, st, hl, x, hc => by
    have y := relaxPlace_st W Po hB x hh (hl p (List.mem_cons_self ..)) hc
    exact relaxPlaces_st W Po hB hh l _ (fun q hq => hl q (List.mem_cons_of_mem _ hq)) y.1 y.2
theorem relaxHand_st {S : Man} {π : Nat → Int} {D B : Int} {m0 : Nat} {st : RS} (W : Wf S) (Po : Pot S π D) (hB : ∀ p, p < S.np → -B ≤ π p) (x : St S π B m0 st) {h : Nat} (hh : h < S.nh) : St S π B m0 (relaxHand S st h) := by
  unfold relaxHand
  split
  · rename_i e
    exact relaxPlaces_st W Po hB hh _ _ (fun _ hp => hp) x (.inl ⟨e, rfl⟩)
  · rename_i w e
    split
    · rename_i hF
      exact relaxPlaces_st W Po hB hh _ _ (fun _ hp => hp) x (.inr ⟨w, e, hF, rfl⟩)
    · exact x
theorem relaxHands_st {S : Man} {π : Nat → Int} {D B : Int} {m0 : Nat} (W : Wf S) (Po : Pot S π D) (hB : ∀ p, p < S.np → -B ≤ π p) : ∀ (l : List Nat) (st : RS), (∀ h ∈ l, h < S.nh) → St S π B m0 st → St S π B m0 (l.foldl (relaxHand S) st)
  | [], _, _, x => x
  | h :: l, st, hl, x => relaxHands_st W Po hB l _ (fun q hq => hl q (List.mem_cons_of_mem _ hq)) (relaxHand_st W Po hB x (hl h (List.mem_cons_self ..)))
theorem relaxAll_st {S : Man} {π : Nat → Int} {D B : Int} {far : List Int} {ways : List (Option Nat)} (W : Wf S) (Po : Pot S π D) (hB : ∀ p, p < S.np → -B ≤ π p) (b : ∃ t T, BF S π far ways t T) :
    (∃ t T, BF S π (relaxAll S far ways).1 (relaxAll S far ways).2.1 t T) ∧ mu S.np B (relaxAll S far ways).1 + (if (relaxAll S far ways).2.2 = true then 1 else 0) ≤ mu S.np B far := by
  have x := relaxHands_st (m0 := mu S.np B far) W Po hB (List.range S.nh) (far, ways, false) (fun h hh => List.mem_range.mp hh) ⟨b, by simp⟩
  exact ⟨x.bf, x.ph⟩
/-! ### nothing nearer: a fixed point -/
theorem relaxPlace_flag (S : Man) (h : Nat) (come : Int) (st : RS) (p : Nat) : (relaxPlace S h come st p).2.2 = false → relaxPlace S h come st p = st ∧ ¬ come + cI S h p < st.1.getD p 0 := by
  unfold relaxPlace
  split
  · intro e; cases e
  · rename_i hn; exact fun _ => ⟨rfl, hn⟩
theorem relaxPlaces_flag (S : Man) (h : Nat) (come : Int) : ∀ (l : List Nat) (st : RS), (l.foldl (relaxPlace S h come) st).2.2 = false → l.foldl (relaxPlace S h come) st = st ∧ ∀ p ∈ l, ¬ come + cI S h p < st.1.getD p 0
  | [], st, _ => ⟨rfl, fun _ z => by cases z⟩
  | p :: l, st, e => by
    have ih := relaxPlaces_flag S h come l (relaxPlace S h come st p) e
    have e2 : (relaxPlace S h come st p).2.2 = false := by
      have := e
      rw [List.foldl_cons, ih.1] at this
      exact this
    have h1 := relaxPlace_flag S h come st p e2
    rw [h1.1] at ih
    refine ⟨by rw [List.foldl_cons, h1.1]; exact ih.1, fun q hq => ?_⟩
    rcases List.mem_cons.mp hq with rfl | hq
    · exact h1.2
    · exact ih.2 q hq
/-- no way of a hand is shorter -/
def HandFix (S : Man) (far : List Int) (h : Nat) : Prop := (S.spots.getD h none = none → ∀ p ∈ fitPl S h, far.getD p 0 ≤ cI S h p) ∧
  ∀ w, S.spots.getD h none = some w → far.getD w 0 < FAR → ∀ p ∈ fitPl S h, far.getD p 0 ≤ far.getD w 0 - cI S h w + cI S h p
theorem relaxHand_flag (S : Man) (st : RS) (h : Nat) (e : (relaxHand S st h).2.2 = false) : relaxHand S st h = st ∧ HandFix S st.1 h := by
  unfold relaxHand at e ⊢
  split at e
  · rename_i eh
    have := relaxPlaces_flag S h 0 (fitPl S h) st e
    refine ⟨this.1, fun _ p hp => by have := this.2 p hp; omega, fun w hw => by rw [eh] at hw; cases hw⟩
  · rename_i w eh
    split at e
    · rename_i hF
      have := relaxPlaces_flag S h _ (fitPl S h) st e
      refine ⟨by rw [if_pos hF]; exact this.1, fun z => (by rw [eh] at z; cases z), fun w' hw' _ p hp => ?_⟩
      rw [eh] at hw'
      cases hw'
      have := this.2 p hp; omega
    · rename_i hF
      refine ⟨by rw [if_neg hF], fun z => (by rw [eh] at z; cases z), fun w' hw' hF' => ?_⟩
      rw [eh] at hw'
      cases hw'
      exact absurd hF' hF
theorem relaxHands_flag (S : Man) : ∀ (l : List Nat) (st : RS), (l.foldl (relaxHand S) st).2.2 = false → l.foldl (relaxHand S) st = st ∧ ∀ h ∈ l, HandFix S st.1 h
  | [], st, _ => ⟨rfl, fun _ z => by cases z⟩
  | h :: l, st, e => by
    have ih := relaxHands_flag S l (relaxHand S st h) e
    have e2 : (relaxHand S st h).2.2 = false := by
      have := e
      rw [List.foldl_cons, ih.1] at this
      exact this
    have h1 := relaxHand_flag S st h e2
    rw [h1.1] at ih
    refine ⟨by rw [List.foldl_cons, h1.1]; exact ih.1, fun q hq => ?_⟩
    rcases List.mem_cons.mp hq with rfl | hq
    · exact h1.2
    · exact ih.2 q hq
/-! ### the loop ends -/
theorem exists_floor (n : Nat) (π : Nat → Int) : ∃ B : Int, 0 ≤ B ∧ ∀ p, p < n → -B ≤ π p := by
  induction n with
  | zero => exact ⟨0, by omega, fun p h => by omega⟩
  | succ n ih =>
    obtain ⟨B, h0, hB⟩ := ih
    refine ⟨B + (π n).natAbs, by omega, fun p hp => ?_⟩
    by_cases e : p = n
    · subst e; omega
    · have := hB p (by omega); omega
theorem relax_runs {S : Man} {π : Nat → Int} {D : Int} (W : Wf S) (Po : Pot S π D) : ∀ (k : Nat) (far : List Int) (ways : List (Option Nat)) (B : Int), (∀ p, p < S.np → -B ≤ π p) → mu S.np B far ≤ k → (∃ t T, BF S π far ways t T) →
    ∃ n t, RunsN (relaxF S) n (far, ways) t ∧ (∃ u T, BF S π t.1 t.2 u T) ∧ ∀ h, h < S.nh → HandFix S t.1 h
  | k, far, ways, B, hB, hk, hb => by
    have hs := relaxAll_st W Po hB hb
    cases e : (relaxAll S far ways).2.2 with
    | false =>
      have hf := relaxHands_flag S (List.range S.nh) (far, ways, false) e
      have hr : relaxAll S far ways = (far, ways, false) := hf.1
      refine ⟨0, (far, ways), ?_, hb, fun h hh => hf.2 h (List.mem_range.mpr hh)⟩
      have := RunsN.stop (f := relaxF S) (s := (far, ways)) e
      unfold relaxF at this
      rw [hr] at this
      exact this
    | true =>
      rw [e, if_pos rfl] at hs
      match k, hk with
      | 0, hk => omega
      | k + 1, hk =>
        obtain ⟨n, t, r, h1, h2⟩ := relax_runs W Po k (relaxAll S far ways).1 (relaxAll S far ways).2.1 B hB (by omega) hs.1
        exact ⟨n + 1, t, .go (f := relaxF S) (s := (far, ways)) e r, h1, h2⟩
theorem bf_start {S : Man} (π : Nat → Int) : BF S π (List.replicate S.np FAR) (List.replicate S.np none) (fun _ => 0) 1 := by
  have g : ∀ p, p < S.np → (List.replicate S.np FAR).getD p 0 = FAR := fun p hp => by simp [hp]
  exact ⟨by simp, by simp, fun p hp => by rw [g p hp]; exact Int.le_refl _, fun p hp h => by rw [g p hp] at h; omega, fun p hp h => by rw [g p hp] at h; omega, fun p hp h => by rw [g p hp] at h; omega, fun _ => Nat.one_pos⟩
theorem bf_end {S : Man} {π : Nat → Int} {D : Int} (W : Wf S) (Po : Pot S π D) : ∃ n, RunsN (relaxF S) n (List.replicate S.np FAR, List.replicate S.np none) (bfEnd S) ∧ (∃ u T, BF S π (bfEnd S).1 (bfEnd S).2 u T) ∧ ∀ h, h < S.nh → HandFix S (bfEnd S).1 h := by
  obtain ⟨B, _, hB⟩ := exists_floor S.np π
  obtain ⟨n, t, r, h1, h2⟩ := relax_runs W Po _ _ _ B hB (Nat.le_refl _) ⟨_, _, bf_start π⟩
  rw [bfEnd_eq r]
  exact ⟨n, r, h1, h2⟩
end WS
set_option Elab.async false
set_option linter.all false
set_option maxHeartbeats 1000000
namespace WS
/-! ### the place that is picked -/
def Elig (S : Man) (far : List Int) (p : Nat) : Prop := far.getD p 0 < FAR ∧ S.named.getD p 0 < S.wanted.getD p 0
theorem pick_inv (S : Man) (far : List Int) : ∀ k, let r := (List.range k).foldl (pickStep S far) (none, 0);
    r.2 ≤ 0 ∧ (r.1 = none → r.2 = 0) ∧ (∀ b, r.1 = some b → b < k ∧ Elig S far b ∧ r.2 = far.getD b 0 - S.bounty.getD b 0 ∧ r.2 < 0) ∧ ∀ p, p < k → Elig S far p → r.2 ≤ far.getD p 0 - S.bounty.getD p 0
  | 0 => ⟨Int.le_refl _, fun _ => rfl, (fun b h => by cases h), (fun p h => by omega)⟩
  | k + 1 => by
    have ih := pick_inv S far k
    simp only at ih ⊢
    rw [List.range_succ, List.foldl_append]
    generalize (List.range k).foldl (pickStep S far) (none, 0) = r at ih
    obtain ⟨i0, i1, i2, i3⟩ := ih
    simp only [List.foldl_cons, List.foldl_nil]
    unfold pickStep
    by_cases h : far.getD k 0 < FAR ∧ S.named.getD k 0 < S.wanted.getD k 0 ∧ far.getD k 0 - S.bounty.getD k 0 < r.2
    · rw [if_pos h]
      refine ⟨by show far.getD k 0 - S.bounty.getD k 0 ≤ 0; omega, (fun z => by cases z), fun b hb => ?_, fun p hp he => ?_⟩
      · cases hb
        exact ⟨by omega, ⟨h.1, h.2.1⟩, rfl, by show far.getD k 0 - S.bounty.getD k 0 < 0; omega⟩
      · show far.getD k 0 - S.bounty.getD k 0 ≤ _
        by_cases e : p = k
        · rw [e]; exact Int.le_refl _
        · have := i3 p (by omega) he; omega
    · rw [if_neg h]
      refine ⟨i0, i1, fun b hb => ?_, fun p hp he => ?_⟩
      · obtain ⟨a1, a2⟩ := i2 b hb
        exact ⟨by omega, a2⟩
      · by_cases e : p = k
        · subst e
          have hz : ¬ far.getD p 0 - S.bounty.getD p 0 < r.2 := fun z => h ⟨he.1, he.2, z⟩
          omega
        · exact i3 p (by omega) he
/-! ### the next potentials -/
def nextπ (far : List Int) (π : Nat → Int) (κ : Int) (p : Nat) : Int := if far.getD p 0 < FAR then min (far.getD p 0) (π p + κ) else π p + κ
structure BfEnd (S : Man) (π : Nat → Int) (far : List Int) (ways : List (Option Nat)) (t : Nat → Nat) (T : Nat) : Prop where
  bf : BF S π far ways t T
  fix : ∀ h, h < S.nh → HandFix S far h
theorem next_pot {S : Man} {π : Nat → Int} {D D' : Int} {far : List Int} {ways : List (Option Nat)} {t : Nat → Nat} {T : Nat} (W : Wf S) (Po : Pot S π D) (b : BfEnd S π far ways t T) (hD : D ≤ D') (h0 : D' ≤ 0) (hel : ∀ p, p < S.np → Elig S far p → D' ≤ far.getD p 0 - S.bounty.getD p 0) :
    Pot S (nextπ far π (D' - D)) D' := by
  have cn : ∀ q, q < S.np → far.getD q 0 < FAR → far.getD q 0 + 1000 < FAR := fun q hq hF => by
    have h1 := b.bf.b1 q hq hF
    have h2 := cnt_le S.np far
    have h3 := W.np
    unfold FAR
    omega
  refine ⟨fun h p c hh hs hp hc => ?_, fun h w p c hh hs hp hc => ?_, fun h w hh hs => ?_, fun p hp hn => ?_, fun p hp hn => ?_, h0⟩
  · have h1 := (b.fix h hh).1 hs p (mem_fit hp hc)
    rw [cI_of hc] at h1
    have h2 := W.cr h p c hc
    have hF : far.getD p 0 < FAR := by unfold FAR; omega
    unfold nextπ
    rw [if_pos hF]
    omega
  · obtain ⟨hw, cw, hcw⟩ := W.sp h w hs
    have h2 := Po.p2 h w p c hh hs hp hc
    have h3 := W.cr h p c hc
    have h4 := W.cr h w cw hcw
    have h5 := cI_of hcw
    unfold nextπ
    by_cases hF : far.getD w 0 < FAR
    · have h1 := (b.fix h hh).2 w hs hF p (mem_fit hp hc)
      rw [cI_of hc] at h1
      have := cn w hw hF
      rw [if_pos (show far.getD p 0 < FAR by omega), if_pos hF]
      omega
    · rw [if_neg hF]
      split <;> omega
  · obtain ⟨hw, cw, hcw⟩ := W.sp h w hs
    have h1 := Po.p2' h w hh hs
    unfold nextπ
    split
    · rename_i hF
      have := b.bf.b2 w hw hF
      omega
    · omega
  · have h1 := Po.p3 p hp hn
    unfold nextπ
    split <;> omega
  · have h1 := Po.p4 p hp hn
    unfold nextπ
    split
    · rename_i hF
      have := hel p hp ⟨hF, hn⟩
      omega
    · omega
/-! ### along the way -/
structure SpOk (S : Man) (π : Nat → Int) (sp : List (Option Nat)) : Prop where
  len : sp.length = S.nh
  wf : ∀ h w, sp.getD h none = some w → w < S.np ∧ ∃ c, cst S h w = some c
  p1 : ∀ h p c, h < S.nh → sp.getD h none = none → p < S.np → cst S h p = some c → π p ≤ c
  p2 : ∀ h w p c, h < S.nh → sp.getD h none = some w → p < S.np → cst S h p = some c → π p ≤ π w - cI S h w + c
  p2' : ∀ h w, h < S.nh → sp.getD h none = some w → cI S h w ≤ π w
theorem SpOk.set {S : Man} {π : Nat → Int} {sp : List (Option Nat)} (x : SpOk S π sp) {h p : Nat} {c : Int} (hh : h < S.nh) (hp : p < S.np) (hc : cst S h p = some c)
    (ht : (sp.getD h none = none ∧ π p = c) ∨ ∃ w, sp.getD h none = some w ∧ π p = π w - cI S h w + c) : SpOk S π (sp.set h (some p)) := by
  have ec := cI_of hc
  have g : ∀ h', (sp.set h (some p)).getD h' none = if h' = h then some p else sp.getD h' none := fun h' => by
    rw [getD_set]
    by_cases e : h' = h
    · subst e; rw [if_pos ⟨rfl, by rw [x.len]; exact hh⟩, if_pos rfl]
    · rw [if_neg fun z => e z.1.symm, if_neg e]
  refine ⟨by rw [List.length_set]; exact x.len, fun h' w hw => ?_, fun h' q cq hh' hs hq hcq => ?_, fun h' w q cq hh' hs hq hcq => ?_, fun h' w hh' hs => ?_⟩
  · rw [g] at hw
    by_cases e : h' = h
    · rw [if_pos e] at hw; cases hw; rw [e]; exact ⟨hp, c, hc⟩
    · rw [if_neg e] at hw; exact x.wf h' w hw
  · rw [g] at hs
    by_cases e : h' = h
    · rw [if_pos e] at hs; cases hs
    · rw [if_neg e] at hs; exact x.p1 h' q cq hh' hs hq hcq
  · rw [g] at hs
    by_cases e : h' = h
    · rw [if_pos e] at hs
      cases hs
      subst e
      rcases ht with ⟨h1, h2⟩ | ⟨w', h1, h2⟩
      · have := x.p1 h' q cq hh h1 hq hcq; omega
      · have := x.p2 h' w' q cq hh h1 hq hcq; omega
    · rw [if_neg e] at hs; exact x.p2 h' w q cq hh' hs hq hcq
  · rw [g] at hs
    by_cases e : h' = h
    · rw [if_pos e] at hs
      cases hs
      subst e
      rcases ht with ⟨h1, h2⟩ | ⟨w', h1, h2⟩
      · omega
      · have := x.p2' h' w' hh h1; omega
    · rw [if_neg e] at hs; exact x.p2' h' w hh' hs
theorem along_ex {S : Man} {π π' : Nat → Int} {far : List Int} {ways : List (Option Nat)} {t : Nat → Nat} {T : Nat} (W : Wf S) (b : BF S π far ways t T) (hle : ∀ p, p < S.np → far.getD p 0 < FAR → π' p ≤ far.getD p 0)
    (p : Nat) (sp : List (Option Nat)) (hp : p < S.np) (hF : far.getD p 0 < FAR) (hq : π' p = far.getD p 0) (x : SpOk S π' sp)
    (hd : ∀ h, sp.getD h none ≠ S.spots.getD h none → ∃ v, S.spots.getD h none = some v ∧ v < S.np ∧ far.getD v 0 < FAR ∧ (far.getD p 0 - π p < far.getD v 0 - π v ∨ (far.getD p 0 - π p = far.getD v 0 - π v ∧ t p ≤ t v))) :
    ∃ n u, Along ways S.nh S.np n sp (some p) u ∧ SpOk S π' u := by
  obtain ⟨h, c, e1, hh, hc, e4⟩ := b.b3 p hp hF
  have same : sp.getD h none = S.spots.getD h none := by
    apply Classical.byContradiction
    intro hne
    obtain ⟨v, hv, _, _, hv2⟩ := hd h hne
    rcases e4 with ⟨f1, _⟩ | ⟨w, f1, f2, f3, f4⟩
    · rw [f1] at hv; cases hv
    · rw [f1] at hv; cases hv; omega
  rcases e4 with ⟨f1, f2⟩ | ⟨w, f1, f2, f3, f4⟩
  · have hs : sp.getD h none = none := same.trans f1
    have y := x.set hh hp hc (.inl ⟨hs, by omega⟩)
    refine ⟨1, sp.set h (some p), .go hp e1 hh ?_, y⟩
    rw [hs]
    exact .stop
  · have hs : sp.getD h none = some w := same.trans f1
    obtain ⟨hw, _⟩ := W.sp h w f1
    have g1 := x.p2 h w p c hh hs hp hc
    have g2 := hle w hw f2
    have g3 : π' w = far.getD w 0 := by omega
    have y := x.set hh hp hc (.inr ⟨w, hs, by omega⟩)
    have r := along_ex W b hle w (sp.set h (some p)) hw f2 g3 y (fun h' hne => by
      rw [getD_set] at hne
      by_cases e : h = h' ∧ h' < sp.length
      · obtain ⟨e, _⟩ := e
        subst e
        exact ⟨w, f1, hw, f2, .inr ⟨rfl, Nat.le_refl _⟩⟩
      · rw [if_neg e] at hne
        obtain ⟨v, v1, v2, v3, v4⟩ := hd h' hne
        exact ⟨v, v1, v2, v3, by omega⟩)
    obtain ⟨n, u, a, z⟩ := r
    refine ⟨n + 1, u, .go hp e1 hh ?_, z⟩
    rw [hs]
    exact a
termination_by ((far.getD p 0 - π p).toNat, t p)
decreasing_by
  have h1 := b.b2 w hw f2
  have h2 := b.b2 p hp hF
  rcases f4 with f4 | ⟨f4, f5⟩
  · exact Prod.Lex.left _ _ (by omega)
  · rw [f4]
    exact Prod.Lex.right _ f5
/-! ### all together: a hand more -/
def Good (S : Man) : Prop := Wf S ∧ ∃ π D, Pot S π D
def room (S : Man) : Nat := ((List.range S.np).map fun p => (S.wanted.getD p 0 - S.named.getD p 0).toNat).sum
theorem pot_spok {S : Man} {π : Nat → Int} {D : Int} (W : Wf S) (Po : Pot S π D) : SpOk S π S.spots := ⟨rfl, W.sp, Po.p1, Po.p2, Po.p2'⟩
theorem put_good {S : Man} (G : Good S) {b : Nat} (hb : (cheapest S).1 = some b) :
    b < S.np ∧ (∃ n, Along (cheapest S).2 S.nh S.np n S.spots (some b) (alongEnd S (cheapest S).2 b)) ∧ Good (putAlong S (cheapest S).2 b) ∧ room (putAlong S (cheapest S).2 b) < room S ∧ (cheapest S).2.length = S.np := by
  obtain ⟨W, π, D, Po⟩ := G
  obtain ⟨_, _, ⟨t, T, bf⟩, fx⟩ := bf_end W Po
  have BE : BfEnd S π (bfEnd S).1 (bfEnd S).2 t T := ⟨bf, fx⟩
  have hpk := pick_inv S (bfEnd S).1 S.wanted.length
  simp only at hpk
  have hb' : ((List.range S.wanted.length).foldl (pickStep S (bfEnd S).1) (none, 0)).1 = some b := hb
  generalize hr : (List.range S.wanted.length).foldl (pickStep S (bfEnd S).1) (none, 0) = r at hpk hb'
  obtain ⟨i0, _, i2, i3⟩ := hpk
  obtain ⟨b1, ⟨b2, b3⟩, b4, b5⟩ := i2 b hb'
  rw [W.lw] at b1 i3
  have hDD : D ≤ r.2 := by
    have h1 := Po.p4 b b1 b3
    have h2 := bf.b2 b b1 b2
    omega
  have P1 := next_pot (D' := r.2) W Po BE hDD i0 i3
  have tight : nextπ (bfEnd S).1 π (r.2 - D) b = (bfEnd S).1.getD b 0 := by
    have h1 := P1.p4 b b1 b3
    have h2 : nextπ (bfEnd S).1 π (r.2 - D) b ≤ (bfEnd S).1.getD b 0 := by unfold nextπ; rw [if_pos b2]; omega
    omega
  obtain ⟨n, u, ha, hu⟩ := along_ex W bf (π' := nextπ (bfEnd S).1 π (r.2 - D)) (fun p _ hF => by unfold nextπ; rw [if_pos hF]; omega) b S.spots b1 b2 tight (pot_spok W P1) (fun h hne => absurd rfl hne)
  have ea : alongEnd S (cheapest S).2 b = u := alongEnd_eq ha
  have hnl : (putAlong S (cheapest S).2 b).np = S.np := by unfold putAlong Man.np; simp
  have hsl : (putAlong S (cheapest S).2 b).nh = S.nh := by show (alongEnd S (cheapest S).2 b).length = _; rw [ea]; exact hu.len
  have gn : ∀ p, (putAlong S (cheapest S).2 b).named.getD p 0 = if p = b then S.named.getD b 0 + 1 else S.named.getD p 0 := fun p => by
    show (S.named.set b _).getD p 0 = _
    rw [getD_set]
    by_cases e : p = b
    · subst e; rw [if_pos ⟨rfl, b1⟩, if_pos rfl]
    · rw [if_neg fun z => e z.1.symm, if_neg e]
  refine ⟨b1, ⟨n, by rw [ea]; exact ha⟩, ⟨⟨?_, ?_, ?_, ?_, ?_, ?_, ?_, ?_, ?_⟩, nextπ (bfEnd S).1 π (r.2 - D), r.2, ?_⟩, ?_, bf.lw⟩
  · rw [hnl]; exact W.lw
  · rw [hnl]; exact W.lb
  · rw [hsl]; exact W.lc
  · rw [hnl]; exact W.lr
  · rw [hnl]; exact W.np
  · rw [hsl]; exact W.nh
  · exact W.cr
  · rw [hnl]; exact W.bo
  · intro h w hw
    rw [hnl]
    have hw : (alongEnd S (cheapest S).2 b).getD h none = some w := hw
    rw [ea] at hw
    exact hu.wf h w hw
  · refine ⟨fun h p c hh hs hp hc => ?_, fun h w p c hh hs hp hc => ?_, fun h w hh hs => ?_, fun p hp hn => ?_, fun p hp hn => ?_, i0⟩
    · rw [hsl] at hh
      rw [hnl] at hp
      have hs : (alongEnd S (cheapest S).2 b).getD h none = none := hs
      rw [ea] at hs
      exact hu.p1 h p c hh hs hp hc
    · rw [hsl] at hh
      rw [hnl] at hp
      have hs : (alongEnd S (cheapest S).2 b).getD h none = some w := hs
      rw [ea] at hs
      exact hu.p2 h w p c hh hs hp hc
    · rw [hsl] at hh
      have hs : (alongEnd S (cheapest S).2 b).getD h none = some w := hs
      rw [ea] at hs
      exact hu.p2' h w hh hs
    · rw [hnl] at hp
      rw [gn] at hn
      by_cases e : p = b
      · subst e
        rw [tight]
        show _ ≤ r.2 + S.bounty.getD p 0
        omega
      · rw [if_neg e] at hn
        exact P1.p3 p hp hn
    · rw [hnl] at hp
      rw [gn] at hn
      have hn' : S.named.getD p 0 < S.wanted.getD p 0 := by
        by_cases e : p = b
        · rw [e]; exact b3
        · rw [if_neg e] at hn; exact hn
      exact P1.p4 p hp hn'
  · unfold room
    rw [hnl]
    refine sum_lt_sum _ _ _ (fun p _ => ?_) ⟨b, List.mem_range.mpr b1, ?_⟩
    · rw [gn]
      show (S.wanted.getD p 0 - _).toNat ≤ _
      split
      · rename_i e; rw [e]; omega
      · exact Nat.le_refl _
    · rw [gn, if_pos rfl]
      show (S.wanted.getD b 0 - _).toNat < _
      omega
/-! ### the filling -/
inductive FillN : Nat → Man → Man → Prop
  | stop {S : Man} : (cheapest S).1 = none → FillN 0 S S
  | go {n : Nat} {S T : Man} {b : Nat} : (cheapest S).1 = some b → FillN n (putAlong S (cheapest S).2 b) T → FillN (n + 1) S T
theorem FillN.det : ∀ {n m : Nat} {S T U : Man}, FillN n S T → FillN m S U → T = U
  | _, _, _, _, _, .stop _, .stop _ => rfl
  | _, _, _, _, _, .stop a, .go b _ => by rw [a] at b; cases b
  | _, _, _, _, _, .go a _, .stop b => by rw [b] at a; cases a
  | _, _, _, _, _, .go a x, .go b y => by
    have e := a.symm.trans b
    cases e
    exact FillN.det x y
theorem fill_runs : ∀ (k : Nat) (S : Man), Good S → room S ≤ k → ∃ n T, FillN n S T ∧ Good T ∧ (cheapest T).1 = none
  | k, S, G, hk => by
    cases e : (cheapest S).1 with
    | none => exact ⟨0, S, .stop e, G, e⟩
    | some b =>
      obtain ⟨_, _, g, l, _⟩ := put_good G e
      match k, hk with
      | 0, hk => omega
      | k + 1, hk =>
        obtain ⟨n, T, f, g', z⟩ := fill_runs k _ g (by omega)
        exact ⟨n + 1, T, .go e f, g', z⟩
open Classical in
noncomputable def fillEnd (S : Man) : Man := if h : ∃ T n, FillN n S T then h.choose else S
theorem fillEnd_eq {S T : Man} {n : Nat} (h : FillN n S T) : fillEnd S = T := by
  have e : ∃ T n, FillN n S T := ⟨T, n, h⟩
  unfold fillEnd
  rw [dif_pos e]
  obtain ⟨m, hm⟩ := e.choose_spec
  exact hm.det h
theorem fill_end {S : Man} (G : Good S) : ∃ n, FillN n S (fillEnd S) ∧ Good (fillEnd S) ∧ (cheapest (fillEnd S)).1 = none := by
  obtain ⟨n, T, f, g, z⟩ := fill_runs _ S G (Nat.le_refl _)
  rw [fillEnd_eq f]
  exact ⟨n, f, g, z⟩
/-- behind the filling: potentials over the ground itself -/
theorem full_pot {S : Man} (G : Good S) (h : (cheapest S).1 = none) : ∃ π, Pot S π 0 := by
  obtain ⟨W, π, D, Po⟩ := G
  obtain ⟨_, _, ⟨t, T, bf⟩, fx⟩ := bf_end W Po
  have BE : BfEnd S π (bfEnd S).1 (bfEnd S).2 t T := ⟨bf, fx⟩
  have hpk := pick_inv S (bfEnd S).1 S.wanted.length
  simp only at hpk
  have hb' : ((List.range S.wanted.length).foldl (pickStep S (bfEnd S).1) (none, 0)).1 = none := h
  generalize (List.range S.wanted.length).foldl (pickStep S (bfEnd S).1) (none, 0) = r at hpk hb'
  obtain ⟨_, i1, _, i3⟩ := hpk
  rw [W.lw] at i3
  have := i1 hb'
  exact ⟨_, next_pot (D' := 0) W Po BE Po.neg (Int.le_refl _) (fun p hp he => by have := i3 p hp he; omega)⟩
end WS
set_option Elab.async false
set_option linter.all false
set_option maxRecDepth 100000
set_option maxHeartbeats 4000000
namespace WS
open PySem PySem.Spec PyProof.Rows L2
/-! ### hands, places -/
structure Hand where
  name : Str
  rank : Int
  skills : List Str
  sec : Int
structure Place where
  name : Str
  skill : Str
  rank : Int
  steps : Int
  many : Int
  grade : Int
def dHand (h : Hand) : PyData := .tuple [.str h.name, .int h.rank, .tuple (h.skills.map .str), .int h.sec]
def dPlace (p : Place) : PyData := .tuple [.str p.name, .str p.skill, .int p.rank, .int p.steps, .int p.many, .int p.grade]
theorem im_hand {H : Hp} {v : V} {h : Hand} : Im H v (dHand h) ↔ ∃ a s, v = .ref a ∧ H a = some (.tup [.str h.name, .int h.rank, .ref s, .int h.sec]) ∧ H s = some (.tup (h.skills.map V.str)) := by
  constructor
  · intro x
    obtain ⟨a, xs, rfl, h1, h2⟩ := x.tup_inv
    obtain ⟨v1, r, rfl, e1, h2⟩ := h2.cons_inv
    obtain ⟨v2, r, rfl, e2, h2⟩ := h2.cons_inv
    obtain ⟨v3, r, rfl, e3, h2⟩ := h2.cons_inv
    obtain ⟨v4, r, rfl, e4, h2⟩ := h2.cons_inv
    have e5 := h2.nil_inv
    subst e5
    obtain ⟨s, ys, rfl, g1, g2⟩ := e3.tup_inv
    have e1 := e1.str_inv
    have e2 := e2.int_inv
    have e4 := e4.int_inv
    have g2 := g2.strs
    subst e1 e2 e4 g2
    exact ⟨a, s, rfl, h1, g1⟩
  · rintro ⟨a, s, rfl, h1, h2⟩
    exact .tup h1 (.cons (.str _) (.cons (.int _) (.cons (.tup h2 (ImAll.of_strs _)) (.cons (.int _) .nil))))
theorem im_place {H : Hp} {v : V} {p : Place} : Im H v (dPlace p) ↔ ∃ a, v = .ref a ∧ H a = some (.tup [.str p.name, .str p.skill, .int p.rank, .int p.steps, .int p.many, .int p.grade]) := by
  constructor
  · intro x
    obtain ⟨a, xs, rfl, h1, h2⟩ := x.tup_inv
    obtain ⟨v1, r, rfl, e1, h2⟩ := h2.cons_inv
    obtain ⟨v2, r, rfl, e2, h2⟩ := h2.cons_inv
    obtain ⟨v3, r, rfl, e3, h2⟩ := h2.cons_inv
    obtain ⟨v4, r, rfl, e4, h2⟩ := h2.cons_inv
    obtain ⟨v5, r, rfl, e5, h2⟩ := h2.cons_inv
    obtain ⟨v6, r, rfl, e6, h2⟩ := h2.cons_inv
    have e7 := h2.nil_inv
    subst e7
    have e1 := e1.str_inv
    have e2 := e2.str_inv
    have e3 := e3.int_inv
    have e4 := e4.int_inv
    have e5 := e5.int_inv
    have e6 := e6.int_inv
    subst e1 e2 e3 e4 e5 e6
    exact ⟨a, rfl, h1⟩
  · rintro ⟨a, rfl, h1⟩
    exact .tup h1 (.cons (.str _) (.cons (.str _) (.cons (.int _) (.cons (.int _) (.cons (.int _) (.cons (.int _) .nil))))))
def vO : Option Str → V
  | none => .non
  | some x => .str x
def vOI : Option Int → V
  | none => .non
  | some i => .int i
def vON : Option Nat → V
  | none => .non
  | some i => .int (i : Nat)
def shortOf (h : Hand) (p : Place) : Int := if p.rank - h.rank > 0 then p.rank - h.rank else 0
def isFit (h : Hand) (p : Place) : Bool := inV (.str p.skill) (h.skills.map V.str) && decide (shortOf h p ≤ p.steps)
def lackOf (g : Int) : Int := if g = 0 then 10000 else if g = 1 then 1000000 else 100000000
def costOf (h : Hand) (p : Place) (st : Option Str) : Int := 100 * (if decide (vO st = .str p.name) = true then 0 else 1) + shortOf h p
def costsOf (h : Hand) (lot : List Place) (st : Option Str) : List (Option Int) := lot.map fun p => if isFit h p = true then some (costOf h p st) else none
structure HandOk (h : Hand) : Prop where
  r0 : 0 ≤ h.rank
  r7 : h.rank ≤ 7
structure PlaceOk (p : Place) : Prop where
  r0 : 0 ≤ p.rank
  r7 : p.rank ≤ 7
  m0 : 0 ≤ p.many
  m4 : p.many ≤ 4
  g0 : 0 ≤ p.grade
  g2 : p.grade ≤ 2
theorem flat_strs (l : List Str) : (l.map V.str).all flatV = true := by
  rw [List.all_eq_true]
  intro x hx
  obtain ⟨y, _, rfl⟩ := List.mem_map.mp hx
  rfl
section
variable {P : Program} {w : World} {K : PySem.W.Frag} {mg : Str → Option Value} {base : Heap} {CM CH CV LP : Addr}
def spShort : Sp := fun vs H Q _ => ∃ (x y : V) (h : Hand) (p : Place), vs = [x, y] ∧ Im H x (dHand h) ∧ Im H y (dPlace p) ∧ Q (.int (shortOf h p)) H
abbrev n_short : List Str := ["hand", "place"]
theorem sc_short : FnScope n_short ["hand", "place"] (C8.fnScope s_short) := ⟨rfl, rfl, rfl, by decide +kernel, rfl, by decide +kernel, by decide +kernel⟩
theorem cal_short (T : Txt K mg CM CH CV LP) (h : HasDef K mg "short" s_short ["hand", "place"]) : C8.Cal P w K mg base 1 "short" spShort [] := by
  refine mkCal h sc_short (fun vs H Q E hh => ?_) (fun f cdv A outer s H vs Q E hr hh => ?_)
  · obtain ⟨x, y, h, p, rfl, _⟩ := hh
    rfl
  · obtain ⟨x, y, h, p, rfl, hx, hy, q⟩ := hh
    refine ⟨_, (pss_one (ps_ret (pe_callB (call_max2 rfl) (by rfl) T.m_max (by decide +kernel) (pa_cons pe_int (pa_cons (pe_op op_sub (pe_ix (ix_tupK (K := K) rfl) (pv 1) pe_int (fun _ _ => rfl)) (pe_ix (ix_tupK (K := K) rfl) (pv 0) pe_int (fun _ _ => rfl))) pa_nil))))), ?_⟩
    obtain ⟨a, sk, rfl, h1, h2⟩ := im_hand.mp hx
    obtain ⟨b, rfl, h3⟩ := im_place.mp hy
    exact ⟨_, rfl, b, _, _, _, rfl, rfl, .of h3, rfl, _, rfl, a, _, _, _, rfl, rfl, .of h1, rfl, _, _, rfl, rfl, _, _, rfl, q⟩
def spIsFit : Sp := fun vs H Q _ => ∃ (x y : V) (h : Hand) (p : Place), vs = [x, y] ∧ Im H x (dHand h) ∧ Im H y (dPlace p) ∧ Q (.bl (isFit h p)) H
abbrev n_is_fit : List Str := ["hand", "place"]
theorem sc_is_fit : FnScope n_is_fit ["hand", "place"] (C8.fnScope s_is_fit) := ⟨rfl, rfl, rfl, by decide +kernel, rfl, by decide +kernel, by decide +kernel⟩
theorem cal_is_fit (h : HasDef K mg "is_fit" s_is_fit ["hand", "place"]) (c_short : C8.Cal P w K mg base 1 "short" spShort []) : C8.Cal P w K mg base 2 "is_fit" spIsFit [] := by
  refine mkCal h sc_is_fit (fun vs H Q E hh => ?_) (fun f cdv A outer s H vs Q E hr hh => ?_)
  · obtain ⟨x, y, h, p, rfl, _⟩ := hh
    rfl
  · obtain ⟨x, y, h, p, rfl, hx, hy, q⟩ := hh
    refine ⟨_, (pss_one (ps_ret (pe_and (pe_cmpR (op_inK (K := K) rfl) (pe_ix (ix_tupK (K := K) rfl) (pv 1) pe_int (fun _ _ => rfl)) (pe_ix (ix_tupK (K := K) rfl) (pv 0) pe_int (fun _ _ => rfl)) (by rfl)) (pe_one (pe_cmpR op_le (C8.pe_c c_short hr (by decide) rfl (pa_cons (pv 0) (pa_cons (pv 1) pa_nil))) (pe_ix (ix_tupK (K := K) rfl) (pv 1) pe_int (fun _ _ => rfl)) (nomark _)))))), ?_⟩
    obtain ⟨a, sk, rfl, h1, h2⟩ := im_hand.mp hx
    obtain ⟨b, rfl, h3⟩ := im_place.mp hy
    refine ⟨_, rfl, b, _, _, _, rfl, rfl, .of h3, rfl, _, rfl, a, _, _, _, rfl, rfl, .of h1, rfl, sk, _, rfl, .inr (.of h2), rfl, flat_strs _, _, rfl, ?_⟩
    show (if inV (.str p.skill) (h.skills.map V.str) = true then _ else _)
    refine ite2 (fun e => ?_) (fun e => ?_)
    · refine ⟨_, rfl, _, rfl, _, _, h, p, rfl, hx, hy, _, rfl, b, _, _, _, rfl, rfl, .of h3, rfl, _, _, rfl, rfl, ?_⟩
      unfold isFit at q
      rw [e, Bool.true_and] at q
      exact q
    · unfold isFit at q
      rw [show inV (.str p.skill) (h.skills.map V.str) = false by simpa using e, Bool.false_and] at q
      exact q
def spLackPrice : Sp := fun vs H Q _ => ∃ g : Int, vs = [.int g] ∧ 0 ≤ g ∧ g ≤ 2 ∧ Q (.int (lackOf g)) H
abbrev n_lack_price : List Str := ["grade"]
theorem sc_lack_price : FnScope n_lack_price ["grade"] (C8.fnScope s_lack_price) := ⟨rfl, rfl, rfl, by decide +kernel, rfl, by decide +kernel, by decide +kernel⟩
theorem cal_lack_price (T : Txt K mg CM CH CV LP) (h : HasDef K mg "lack_price" s_lack_price ["grade"]) : C8.Cal P w K mg base 1 "lack_price" spLackPrice [] := by
  refine mkCal h sc_lack_price (fun vs H Q E hh => ?_) (fun f cdv A outer s H vs Q E hr hh => ?_)
  · obtain ⟨g, rfl, _⟩ := hh
    rfl
  · obtain ⟨g, rfl, h0, h2, q⟩ := hh
    refine ⟨_, (pss_one (ps_ret (pe_ix (ix_tupK (K := K) rfl) (C8.pe_gc rfl T.c_LACK_PRICES) (pv 0) (fun _ _ => rfl)))), ?_⟩
    have hg : g = 0 ∨ g = 1 ∨ g = 2 := by omega
    rcases hg with rfl | rfl | rfl
    · exact ⟨_, rfl, LP, _, _, _, rfl, rfl, T.lp H, rfl, q⟩
    · exact ⟨_, rfl, LP, _, _, _, rfl, rfl, T.lp H, rfl, q⟩
    · exact ⟨_, rfl, LP, _, _, _, rfl, rfl, T.lp H, rfl, q⟩
def spCostOf : Sp := fun vs H Q _ => ∃ (x y : V) (h : Hand) (p : Place) (st : Option Str), vs = [x, y, vO st] ∧ Im H x (dHand h) ∧ Im H y (dPlace p) ∧ Q (.int (costOf h p st)) H
abbrev n_cost_of : List Str := ["hand", "place", "stood"]
theorem sc_cost_of : FnScope n_cost_of ["hand", "place", "stood"] (C8.fnScope s_cost_of) := ⟨rfl, rfl, rfl, by decide +kernel, rfl, by decide +kernel, by decide +kernel⟩
theorem scal_vO (st : Option Str) (x : Str) : scal (vO st) (.str x) = true := by cases st <;> rfl
theorem cal_cost_of (T : Txt K mg CM CH CV LP) (h : HasDef K mg "cost_of" s_cost_of ["hand", "place", "stood"]) (c_short : C8.Cal P w K mg base 1 "short" spShort []) : C8.Cal P w K mg base 2 "cost_of" spCostOf [] := by
  refine mkCal h sc_cost_of (fun vs H Q E hh => ?_) (fun f cdv A outer s H vs Q E hr hh => ?_)
  · obtain ⟨x, y, h, p, st, rfl, _⟩ := hh
    rfl
  · obtain ⟨x, y, h, p, st, rfl, hx, hy, q⟩ := hh
    refine ⟨_, (pss_one (ps_ret (pe_op op_add (pe_op op_mul (C8.pe_gc rfl T.c_MOVED_PRICE) (pe_callTy call_int1 (by rfl) T.m_int (by decide +kernel) (pa_cons (pe_cmpR op_ne (pv 2) (pe_ix (ix_tupK (K := K) rfl) (pv 1) pe_int (fun _ _ => rfl)) (nomark _)) pa_nil))) (C8.pe_c c_short hr (by decide) rfl (pa_cons (pv 0) (pa_cons (pv 1) pa_nil)))))), ?_⟩
    obtain ⟨b, rfl, h3⟩ := im_place.mp hy
    refine ⟨_, rfl, _, rfl, b, _, _, _, rfl, rfl, .of h3, rfl, scal_vO _ _, .inr ⟨_, rfl, ?_⟩⟩
    refine ⟨_, _, rfl, rfl, .inl ⟨by decide, by decide⟩, _, rfl, _, rfl, _, _, h, p, rfl, hx, hy, _, _, rfl, rfl, ?_⟩
    unfold costOf at q
    cases e : decide (vO st = .str p.name) with
    | true => rw [e] at q; exact q
    | false => rw [e] at q; exact q
def dLot (lot : List Place) : PyData := .tuple (lot.map dPlace)
def spCostsOf : Sp := fun vs H Q _ => ∃ (x y : V) (h : Hand) (lot : List Place) (st : Option Str), vs = [x, y, vO st] ∧ Im H x (dHand h) ∧ Im H y (dLot lot) ∧ lot.length ≤ 1000 ∧
  ∀ (H' : Hp) (p : Addr), K0 H H' → H p = none → H' p = some (.lst ((costsOf h lot st).map vOI)) → Q (.ref p) H'
abbrev n_costs_of : List Str := ["hand", "lot", "stood", "place"]
theorem sc_costs_of : FnScope n_costs_of ["hand", "lot", "stood"] (C8.fnScope s_costs_of) := ⟨rfl, rfl, rfl, by decide +kernel, rfl, by decide +kernel, by decide +kernel⟩
theorem paired_eq_map_range {α β : Type} {l : List α} {f : α → β} {ys : List β} (h : Paired (fun i v => ∀ a, l[i]? = some a → v = f a) (List.range l.length) ys) : ys = l.map f := by
  apply List.ext_getElem?
  intro i
  by_cases hi : i < l.length
  · obtain ⟨y, hy, hf⟩ := WS.Paired.get_l h (range_getElem? hi)
    rw [hy, List.getElem?_map, List.getElem?_eq_getElem hi, hf _ (List.getElem?_eq_getElem hi)]
    rfl
  · have : ys.length = l.length := by rw [← h.length]; simp
    rw [List.getElem?_eq_none (by omega), List.getElem?_map, List.getElem?_eq_none (by omega)]; rfl
theorem cal_costs_of (h : HasDef K mg "costs_of" s_costs_of ["hand", "lot", "stood"]) (c_is_fit : C8.Cal P w K mg base 2 "is_fit" spIsFit []) (c_cost_of : C8.Cal P w K mg base 2 "cost_of" spCostOf []) : C8.Cal P w K mg base 3 "costs_of" spCostsOf [] := by
  refine mkCal h sc_costs_of (fun vs H Q E hh => ?_) (fun f cdv A outer s H vs Q E hr hh => ?_)
  · obtain ⟨x, y, h, p, st, rfl, _⟩ := hh
    rfl
  · obtain ⟨x, y, h, lot, st, rfl, hx, hy, hl, q⟩ := hh
    refine ⟨_, (pss_one (ps_ret (pe_lc (own := [("place", 3)]) (g := (gName 3)) (tt := tYes) rfl sc_costs_of.nd (pi_tup (pv 1)) (blkOk_by (own := [("place", 3)]) (N := n_costs_of) (sc := C8.fnScope s_costs_of) (by decide +kernel)) (fun _ _ _ _ _ => (pg_name (i := 3) sc_costs_of.nd rfl (loc_by rfl))) (fun _ _ _ _ _ => pts_nil) (fun _ _ _ _ _ => (pe_ifExp (pt_val (C8.pe_c c_is_fit hr (by decide) rfl (pa_cons (pv 0) (pa_cons (pv 3) pa_nil)))) (C8.pe_c c_cost_of hr (by decide) rfl (pa_cons (pv 0) (pa_cons (pv 3) (pa_cons (pv 2) pa_nil)))) pe_non))))), ?_⟩
    obtain ⟨b, xs, rfl, h1, h2⟩ := hy.tup_inv
    have hxl : xs.length = lot.length := by rw [h2.length, List.length_map]
    refine ⟨_, rfl, b, rfl, ⟨_, .of h1⟩, fun D hD => ?_⟩
    refine lc_pure (n := lot.length) (hxl ▸ walk_tup (K := K) (a := b) (xs := xs)) (fun j _ v => ∀ p, lot[j]? = some p → v = vOI (if isFit h p = true then some (costOf h p st) else none)) (fun _ => true) hD (by omega) (fun _ _ _ _ h _ => h) (fun H2 k2 => SqT.of (k2.tup h1)) ?_ ?_
    · rintro j z H2 H3 hj k2 ⟨rfl, hz⟩ Post Skip hP hS
      obtain ⟨D', hD', hi⟩ := h2.get hz
      rw [List.getElem?_map] at hD'
      obtain ⟨p, hp, rfl⟩ := Option.map_eq_some_iff.mp hD'
      have hi := hi.mono k2.tk
      have hx := hx.mono k2.tk
      refine ⟨rfl, ?_⟩
      refine ⟨_, rfl, _, rfl, _, _, h, p, rfl, hx, hi, _, rfl, ?_⟩
      refine ite2 (fun e => ?_) (fun e => ?_)
      · refine ⟨_, rfl, _, rfl, _, rfl, _, _, h, p, st, rfl, hx, hi, ?_⟩
        refine hP rfl _ _ (.refl _) fun p' hp' => ?_
        rw [hp] at hp'
        cases hp'
        rw [if_pos e]; rfl
      · refine hP rfl _ _ (.refl _) fun p' hp' => ?_
        rw [hp] at hp'
        cases hp'
        rw [if_neg e]; rfl
    · intro H2 acc k2 hacc hp
      rw [filter_true] at hp
      refine q H2 D k2 hD ?_
      rw [hacc, paired_eq_map_range hp]
      unfold costsOf
      rw [List.map_map]; rfl
end
end WS
set_option Elab.async false
set_option linter.all false
set_option maxRecDepth 100000
set_option maxHeartbeats 4000000
namespace WS
open PySem PySem.Spec PyProof.Rows L2
/-! ### values told at once -/
section
variable {σ : L2.St} {H : Hp} {i : Nat} {v x y z : V} {ta tb te tc : TE} {b : Bool} {K : PySem.W.Frag} {mg : Str → Option Value} {CM CH CV LP : Addr}
theorem val_ixL {p : Addr} {xs : List V} {i : Nat} (ha : Val ta σ H (.ref p)) (hb : Val tb σ H (.int (i : Nat))) (h : H p = some (.lst xs)) (e : xs[i]? = some v) : Val (tOp (rIxL K) ta tb) σ H v :=
  val_op ha hb fun Q q => ⟨p, xs, _, v, rfl, rfl, .of h, atI_nat e, q⟩
theorem val_add {n m : Int} (ha : Val ta σ H (.int n)) (hb : Val tb σ H (.int m)) : Val (tOp (rI0 fun i j => .int (i + j)) ta tb) σ H (.int (n + m)) := val_op ha hb fun Q q => ⟨n, m, rfl, rfl, q⟩
theorem val_sub {n m : Int} (ha : Val ta σ H (.int n)) (hb : Val tb σ H (.int m)) : Val (tOp (rI0 fun i j => .int (i - j)) ta tb) σ H (.int (n - m)) := val_op ha hb fun Q q => ⟨n, m, rfl, rfl, q⟩
theorem ans_lt {n m : Int} (ha : Val ta σ H (.int n)) (hb : Val tb σ H (.int m)) : Ans (tTest (tOp (rI0 fun i j => .bl (decide (i < j))) ta tb)) σ H (decide (n < m)) := ans_cmp ha hb fun Q q => ⟨n, m, rfl, rfl, q⟩
theorem ans_is (ha : Val ta σ H x) : Ans (tTest (tOp (fun x y H Q => y = V.non ∧ Q (.bl (decide (x = .non))) H) ta (tC .non))) σ H (decide (x = .non)) := ans_cmp ha val_c fun Q q => ⟨rfl, q⟩
theorem ans_isnot (ha : Val ta σ H x) : Ans (tTest (tOp (fun x y H Q => y = V.non ∧ Q (.bl (!decide (x = .non))) H) ta (tC .non))) σ H (!decide (x = .non)) := ans_cmp ha val_c fun Q q => ⟨rfl, q⟩
theorem vON_ne (i : Nat) : (!decide (vON (some i) = V.non)) = true := rfl
/-! ### the manning on the heap -/
structure MA where
  o : Addr
  dx : Addr
  lw : Addr
  lb : Addr
  lc : Addr
  ls : Addr
  ln : Addr
  rows : List Addr
def MA.ins (A : MA) (C : Addr) : HO := .ins C A.dx [("wanted", .ref A.lw), ("bounty", .ref A.lb), ("costs", .ref A.lc), ("spots", .ref A.ls), ("named", .ref A.ln)]
structure ManO (CM : Addr) (H : Hp) (A : MA) (S : Man) : Prop where
  o : H A.o = some (A.ins CM)
  w : H A.lw = some (.lst (S.wanted.map V.int))
  b : H A.lb = some (.lst (S.bounty.map V.int))
  c : H A.lc = some (.lst (A.rows.map V.ref))
  r : Paired (fun a row => H a = some (.lst (row.map vOI))) A.rows S.costs
  s : H A.ls = some (.lst (S.spots.map vON))
  n : H A.ln = some (.lst (S.named.map V.int))
  sw : A.lw ≠ A.ls
  sb : A.lb ≠ A.ls
  sc : A.lc ≠ A.ls
  sr : ∀ r ∈ A.rows, r ≠ A.ls
  nw : A.lw ≠ A.ln
  nb : A.lb ≠ A.ln
  nc : A.lc ≠ A.ln
  nr : ∀ r ∈ A.rows, r ≠ A.ln
  sn : A.ls ≠ A.ln
structure MA.Off (A : MA) (x : Addr) : Prop where
  o : A.o ≠ x
  w : A.lw ≠ x
  b : A.lb ≠ x
  c : A.lc ≠ x
  s : A.ls ≠ x
  n : A.ln ≠ x
  r : ∀ r ∈ A.rows, r ≠ x
theorem paired_mem_l {α β : Type} {F : α → β → Prop} : ∀ {l₁ : List α} {l₂ : List β}, Paired F l₁ l₂ → ∀ a ∈ l₁, ∃ b ∈ l₂, F a b
  | _, _, .nil, a, h => by cases h
  | _, _, .cons h t, a, hm => by
    rcases List.mem_cons.mp hm with rfl | hm
    · exact ⟨_, List.mem_cons_self .., h⟩
    · obtain ⟨b, hb, f⟩ := paired_mem_l t a hm
      exact ⟨b, List.mem_cons_of_mem _ hb, f⟩
theorem paired_mono_mem {α β : Type} {F G : α → β → Prop} : ∀ {l₁ : List α} {l₂ : List β}, Paired F l₁ l₂ → (∀ a ∈ l₁, ∀ b, F a b → G a b) → Paired G l₁ l₂
  | _, _, .nil, h => .nil
  | _, _, .cons f t, h => .cons (h _ (List.mem_cons_self ..) _ f) (paired_mono_mem t fun a ha => h a (List.mem_cons_of_mem _ ha))
variable {A : MA} {S : Man} {H' : Hp} {p : Addr} {U : Addr → Prop}
theorem ManO.off (m : ManO CM H A S) (h : H p = none) : A.Off p := ⟨ne_of_none m.o h, ne_of_none m.w h, ne_of_none m.b h, ne_of_none m.c h, ne_of_none m.s h, ne_of_none m.n h, fun r hr => by
  obtain ⟨row, _, e⟩ := paired_mem_l m.r r hr
  exact ne_of_none e h⟩
theorem ManO.keep (m : ManO CM H A S) (k : Kp U H H') (h : ∀ b, U b → A.Off b) : ManO CM H' A S :=
  ⟨k.get m.o fun u => (h _ u).o rfl, k.get m.w fun u => (h _ u).w rfl, k.get m.b fun u => (h _ u).b rfl, k.get m.c fun u => (h _ u).c rfl,
    paired_mono_mem m.r fun a ha b e => k.get e fun u => (h _ u).r a ha rfl, k.get m.s fun u => (h _ u).s rfl, k.get m.n fun u => (h _ u).n rfl, m.sw, m.sb, m.sc, m.sr, m.nw, m.nb, m.nc, m.nr, m.sn⟩
theorem ManO.keep0 (m : ManO CM H A S) (k : K0 H H') : ManO CM H' A S := m.keep k fun _ z => z.elim
theorem ManO.o_ne_s (m : ManO CM H A S) : A.o ≠ A.ls := fun e => by
  have := m.o
  rw [e, m.s] at this
  cases this
theorem ManO.o_ne_n (m : ManO CM H A S) : A.o ≠ A.ln := fun e => by
  have := m.o
  rw [e, m.n] at this
  cases this
theorem ManO.setS (m : ManO CM H A S) (sp : List (Option Nat)) : ManO CM (upd H A.ls (.lst (sp.map vON))) A { S with spots := sp } :=
  ⟨by rw [upd_ne m.o_ne_s]; exact m.o, by rw [upd_ne m.sw]; exact m.w, by rw [upd_ne m.sb]; exact m.b, by rw [upd_ne m.sc]; exact m.c,
    paired_mono_mem m.r fun a ha b e => by rw [upd_ne (m.sr a ha)]; exact e, upd_same, by rw [upd_ne m.sn.symm]; exact m.n, m.sw, m.sb, m.sc, m.sr, m.nw, m.nb, m.nc, m.nr, m.sn⟩
theorem ManO.setN (m : ManO CM H A S) (nm : List Int) : ManO CM (upd H A.ln (.lst (nm.map V.int))) A { S with named := nm } :=
  ⟨by rw [upd_ne m.o_ne_n]; exact m.o, by rw [upd_ne m.nw]; exact m.w, by rw [upd_ne m.nb]; exact m.b, by rw [upd_ne m.nc]; exact m.c,
    paired_mono_mem m.r fun a ha b e => by rw [upd_ne (m.nr a ha)]; exact e, by rw [upd_ne m.sn]; exact m.s, upd_same, m.sw, m.sb, m.sc, m.sr, m.nw, m.nb, m.nc, m.nr, m.sn⟩
theorem ManO.vw (m : ManO CM H A S) (T : Txt K mg CM CH CV LP) (e : Val ta σ H (.ref A.o)) : Val (tFld K ta "wanted") σ H (.ref A.lw) := val_fld e m.o T.clM (T.nM _ (by simp)) rfl
theorem ManO.vb (m : ManO CM H A S) (T : Txt K mg CM CH CV LP) (e : Val ta σ H (.ref A.o)) : Val (tFld K ta "bounty") σ H (.ref A.lb) := val_fld e m.o T.clM (T.nM _ (by simp)) rfl
theorem ManO.vc (m : ManO CM H A S) (T : Txt K mg CM CH CV LP) (e : Val ta σ H (.ref A.o)) : Val (tFld K ta "costs") σ H (.ref A.lc) := val_fld e m.o T.clM (T.nM _ (by simp)) rfl
theorem ManO.vs (m : ManO CM H A S) (T : Txt K mg CM CH CV LP) (e : Val ta σ H (.ref A.o)) : Val (tFld K ta "spots") σ H (.ref A.ls) := val_fld e m.o T.clM (T.nM _ (by simp)) rfl
theorem ManO.vn (m : ManO CM H A S) (T : Txt K mg CM CH CV LP) (e : Val ta σ H (.ref A.o)) : Val (tFld K ta "named") σ H (.ref A.ln) := val_fld e m.o T.clM (T.nM _ (by simp)) rfl
/-- what of Wf the walk asks -/
structure WfL (S : Man) : Prop where
  lw : S.wanted.length = S.np
  lb : S.bounty.length = S.np
  lc : S.costs.length = S.nh
  lr : ∀ r ∈ S.costs, r.length = S.np
  np : S.np ≤ 1000
  nh : S.nh ≤ 1000
  sp : ∀ h w, S.spots.getD h none = some w → w < S.np ∧ ∃ c, cst S h w = some c
theorem Wf.l {S : Man} (W : Wf S) : WfL S := ⟨W.lw, W.lb, W.lc, W.lr, W.np, W.nh, W.sp⟩
theorem ManO.cost (m : ManO CM H A S) (W : WfL S) (T : Txt K mg CM CH CV LP) (e : Val ta σ H (.ref A.o)) {h p : Nat} (eh : Val tb σ H (.int (h : Nat))) (ep : Val tc σ H (.int (p : Nat))) (hh : h < S.nh) (hp : p < S.np) :
    Val (tOp (rIxL K) (tOp (rIxL K) (tFld K ta "costs") tb) tc) σ H (vOI (cst S h p)) := by
  have hr : h < A.rows.length := by rw [m.r.length, W.lc]; exact hh
  obtain ⟨row, h1, h2⟩ := WS.Paired.get_l m.r (List.getElem?_eq_getElem hr)
  have hc : h < S.costs.length := by rw [W.lc]; exact hh
  have hrow : row = S.costs[h] := by
    rw [List.getElem?_eq_getElem hc] at h1; exact (Option.some.inj h1).symm
  have hl : row.length = S.np := by rw [hrow]; exact W.lr _ (List.getElem_mem hc)
  refine val_ixL (val_ixL (m.vc T e) eh m.c (by rw [List.getElem?_map, List.getElem?_eq_getElem hr]; rfl)) ep h2 ?_
  rw [List.getElem?_map, List.getElem?_eq_getElem (by omega)]
  unfold cst
  rw [show S.costs.getD h [] = row by rw [hrow]; simp [hc]]
  rw [show row.getD p none = row[p]'(by omega) by simp [show p < row.length by omega]]
  rfl
end
section
variable {P : Program} {w : World} {K : PySem.W.Frag} {mg : Str → Option Value} {base : Heap} {CM CH CV LP : Addr}
/-! ### fit_places -/
def spFitPlaces (CM : Addr) : Sp := fun vs H Q _ => ∃ (A : MA) (S : Man) (h : Nat), vs = [.ref A.o, .int (h : Nat)] ∧ ManO CM H A S ∧ WfL S ∧ h < S.nh ∧
  ∀ (H' : Hp) (p : Addr), K0 H H' → H p = none → H' p = some (.lst (vN (fitPl S h))) → Q (.ref p) H'
abbrev n_Manning_fit_places : List Str := ["self", "hand", "place"]
theorem sc_Manning_fit_places : FnScope n_Manning_fit_places ["self", "hand"] (C8.fnScope s_Manning_fit_places) := ⟨rfl, rfl, rfl, by decide +kernel, rfl, by decide +kernel, by decide +kernel⟩
theorem met_fit_places (T : Txt K mg CM CH CV LP) (h : HasMeth K CM "fit_places" "Manning.fit_places" s_Manning_fit_places ["self", "hand"]) : C8.Met P w K mg base 1 CM "fit_places" (spFitPlaces CM) [] := by
  refine mkMet h sc_Manning_fit_places (fun vs H Q E hh => ?_) (fun f cdv A outer s H vs Q E hr hh => ?_)
  · obtain ⟨A, S, h, rfl, _⟩ := hh
    rfl
  · obtain ⟨A, S, h, rfl, m, W, hh, q⟩ := hh
    refine ⟨_, (pss_one (ps_ret (pe_lc (own := [("place", 2)]) (g := (gName 2)) (tt := _) rfl sc_Manning_fit_places.nd (pi_range1 rfl T.m_range (pa_cons (pe_callB (call_lenK (K := K) rfl) (by rfl) T.m_len (by decide +kernel) (pa_cons (pe_fldK (K := K) rfl (pv 0) rfl) pa_nil)) pa_nil)) (blkOk_by (own := [("place", 2)]) (N := n_Manning_fit_places) (sc := C8.fnScope s_Manning_fit_places) (by decide +kernel)) (fun _ _ _ _ _ => (pg_name (i := 2) sc_Manning_fit_places.nd rfl (loc_by rfl))) (fun _ _ _ _ _ => (pts_one (pt_cmpR op_notN (pe_ix (ix_listK (K := K) rfl) (pe_ix (ix_listK (K := K) rfl) (pe_fldK (K := K) rfl (pv 0) rfl) (pv 1) (fun _ _ => rfl)) (pv 2) (fun _ _ => rfl)) pe_non (nomark _)))) (fun _ _ _ _ _ => (pv 2))))), ?_⟩
    refine m.vn T (val_var rfl) _ ?_
    refine ⟨_, _, rfl, .inl (.of m.n), ?_⟩
    have hn := W.np
    refine ⟨_, rfl, by rw [List.length_map]; unfold Man.np at hn; omega, by rw [List.length_map]; unfold Man.np at hn; omega, fun D hD => ?_⟩
    rw [List.length_map, show ((S.named.length : Nat) : Int).toNat = S.np by simp [Man.np]]
    refine lc_pure (n := S.np) (walk_range (lo := 0)) (fun j _ v => v = .int (j : Nat)) (fun p => (cst S h p).isSome) hD (by omega) (fun _ _ _ _ h _ => h) (fun H2 k2 => trivial) ?_ ?_
    · rintro j x H2 H3 hj k2 ⟨rfl, rfl⟩ Post Skip hP hS
      refine ⟨rfl, ?_⟩
      have m2 := m.keep0 k2
      simp only [Int.zero_add]
      refine ans_isnot (m2.cost W T (val_var rfl) (val_var rfl) (val_var rfl) hh hj) _ ?_
      cases e : cst S h j with
      | none => 
        refine if_false_of rfl ?_
        exact hS (by rw [e]; rfl) _ (.refl _)
      | some c =>
        refine if_true_of rfl ?_
        exact ⟨_, rfl, hP (by rw [e]; rfl) _ _ (.refl _) rfl⟩
    · intro H2 acc k2 hacc hp
      refine q H2 D k2 hD ?_
      rw [hacc, WS.Paired.eq_map (f := fun (j : Nat) => V.int (j : Nat)) hp]
      rfl
end
end WS
set_option Elab.async false
set_option linter.all false
set_option maxRecDepth 100000
set_option maxHeartbeats 4000000
namespace WS
open PySem PySem.Spec PyProof.Rows L2
theorem ixNn {n j : Nat} (hj : j < n) : ixN n (j : Int) = some j := by
  unfold ixN
  rw [if_pos (by omega), if_pos (by omega)]
  simp
theorem foldl_take_succ {α β : Type} (f : β → α → β) (b : β) (l : List α) {i : Nat} (h : i < l.length) : (l.take (i + 1)).foldl f b = f ((l.take i).foldl f b) l[i] := by
  rw [List.take_succ, List.getElem?_eq_getElem h, List.foldl_append]
  rfl
structure RsOk (S : Man) (st : RS) : Prop where
  lf : st.1.length = S.np
  lw : st.2.1.length = S.np
theorem relaxPlace_ok {S : Man} {h : Nat} {come : Int} {st : RS} {p : Nat} (r : RsOk S st) : RsOk S (relaxPlace S h come st p) := by
  unfold relaxPlace
  split
  · exact ⟨by rw [List.length_set]; exact r.lf, by rw [List.length_set]; exact r.lw⟩
  · exact r
theorem relaxPlaces_ok {S : Man} {h : Nat} {come : Int} : ∀ (l : List Nat) {st : RS}, RsOk S st → RsOk S (l.foldl (relaxPlace S h come) st)
  | [], _, r => r
  | _ :: l, _, r => relaxPlaces_ok l (relaxPlace_ok r)
theorem relaxHand_ok {S : Man} {h : Nat} {st : RS} (r : RsOk S st) : RsOk S (relaxHand S st h) := by
  unfold relaxHand
  split
  · exact relaxPlaces_ok _ r
  · split
    · exact relaxPlaces_ok _ r
    · exact r
theorem relaxHands_ok {S : Man} : ∀ (l : List Nat) {st : RS}, RsOk S st → RsOk S (l.foldl (relaxHand S) st)
  | [], _, r => r
  | _ :: l, _, r => relaxHands_ok l (relaxHand_ok r)
theorem getD_get {α : Type} {l : List α} {i : Nat} (d : α) (h : i < l.length) : l[i]? = some (l.getD i d) := by simp [h]
theorem map_int_get {l : List Int} {i : Nat} (h : i < l.length) : (l.map V.int)[i]? = some (.int (l.getD i 0)) := by
  rw [List.getElem?_map, getD_get 0 h]; rfl
theorem map_vON_get {l : List (Option Nat)} {i : Nat} (h : i < l.length) : (l.map vON)[i]? = some (vON (l.getD i none)) := by
  rw [List.getElem?_map, getD_get none h]; rfl
theorem vOI_some (i : Int) : vOI (some i) = .int i := rfl
/-- two lists that a relax writes -/
structure RsAt (H : Hp) (f wv : Addr) (st : RS) : Prop where
  f : H f = some (.lst (st.1.map V.int))
  w : H wv = some (.lst (st.2.1.map vON))
section
variable {P : Program} {w : World} {K : PySem.W.Frag} {mg : Str → Option Value} {base : Heap} {CM CH CV LP : Addr}
def spRelax (CM : Addr) : Sp := fun vs H Q _ => ∃ (A : MA) (S : Man) (f wv : Addr) (st : RS), vs = [.ref A.o, .ref f, .ref wv] ∧ ManO CM H A S ∧ WfL S ∧ A.Off f ∧ A.Off wv ∧ f ≠ wv ∧ RsAt H f wv st ∧ RsOk S st ∧
  ∀ H', Kp (fun b => b = f ∨ b = wv) H H' → RsAt H' f wv (relaxAll S st.1 st.2.1) → Q (.bl (relaxAll S st.1 st.2.1).2.2) H'
abbrev n_Manning_relax : List Str := ["self", "far", "ways", "shorter", "hand", "where", "come", "place"]
theorem sc_Manning_relax : FnScope n_Manning_relax ["self", "far", "ways"] (C8.fnScope s_Manning_relax) := ⟨rfl, rfl, rfl, by decide +kernel, rfl, by decide +kernel, by decide +kernel⟩
theorem met_relax (T : Txt K mg CM CH CV LP) (h : HasMeth K CM "relax" "Manning.relax" s_Manning_relax ["self", "far", "ways"]) (c_fit_places : C8.Met P w K mg base 1 CM "fit_places" (spFitPlaces CM) []) : C8.Met P w K mg base 2 CM "relax" (spRelax CM) [] := by
  refine mkMet h sc_Manning_relax (fun vs H Q E hh => ?_) (fun fa cdv Ar outer s H vs Q E hr hh => ?_)
  · obtain ⟨A, S, f, wv, st, rfl, _⟩ := hh
    rfl
  · obtain ⟨A, S, f, wv, ⟨far, ways, b0⟩, rfl, m, W, of, ow, fw, ra, ro, q⟩ := hh
    refine ⟨_, (pss_cons (ps_set (i := 3) sc_Manning_relax.nd rfl (loc_by rfl) pe_bl)
      (pss_cons (ps_for PassesOwn.never rfl (pi_enum rfl T.m_enumerate (pa_cons (pe_fldK (K := K) rfl (pv 0) rfl) pa_nil)) (pg_tup rfl (pgs_cons (pg_name (i := 4) sc_Manning_relax.nd rfl (loc_by rfl)) (pgs_cons (pg_name (i := 5) sc_Manning_relax.nd rfl (loc_by rfl)) pgs_nil))) (pss_cons (ps_set (i := 6) sc_Manning_relax.nd rfl (loc_by rfl) pe_int)
      (C8.pss_cut (ps_if (pt_cmpR op_notN (pv 5) pe_non (nomark _)) (pss_one (ps_set (i := 6) sc_Manning_relax.nd rfl (loc_by rfl) (pe_op op_sub (pe_ix (ix_listK (K := K) rfl) (pv 1) (pv 5) (fun _ _ => rfl)) (pe_ix (ix_listK (K := K) rfl) (pe_ix (ix_listK (K := K) rfl) (pe_fldK (K := K) rfl (pv 0) rfl) (pv 4) (fun _ _ => rfl)) (pv 5) (fun _ _ => rfl))))) pss_nil)
      (pss_one (ps_if (PW.pt (pw_or (pt_cmpR op_isN (pv 5) pe_non (nomark _)) (pw_or1 (pt_cmpR op_lt (pe_ix (ix_listK (K := K) rfl) (pv 1) (pv 5) (fun _ _ => rfl)) (C8.pe_gc rfl T.c_FAR) (nomark _))))) (pss_one (ps_for PassesOwn.never rfl (pi_list (C8.pe_mt c_fit_places hr (by decide) (pv 0) (pa_cons (pv 4) pa_nil))) (pg_name (i := 7) sc_Manning_relax.nd rfl (loc_by rfl)) (pss_one (ps_if (pt_cmpR op_lt (pe_op op_add (pv 6) (pe_ix (ix_listK (K := K) rfl) (pe_ix (ix_listK (K := K) rfl) (pe_fldK (K := K) rfl (pv 0) rfl) (pv 4) (fun _ _ => rfl)) (pv 7) (fun _ _ => rfl))) (pe_ix (ix_listK (K := K) rfl) (pv 1) (pv 7) (fun _ _ => rfl)) (nomark _)) (pss_cons (ps_asg (pe_op op_add (pv 6) (pe_ix (ix_listK (K := K) rfl) (pe_ix (ix_listK (K := K) rfl) (pe_fldK (K := K) rfl (pv 0) rfl) (pv 4) (fun _ _ => rfl)) (pv 7) (fun _ _ => rfl))) (pg_sub (pv 1) (pv 7) set_list))
      (pss_cons (ps_asg (pv 4) (pg_sub (pv 2) (pv 7) set_list))
      (pss_one (ps_set (i := 3) sc_Manning_relax.nd rfl (loc_by rfl) pe_bl)))) pss_nil)))) pss_nil)))))
      (pss_one (ps_ret (pv 3))))), ?_⟩
    have hU : ∀ b, (b = f ∨ b = wv) → A.Off b := fun b hb => by
      rcases hb with rfl | rfl
      · exact of
      · exact ow
    refine m.vs T (val_var rfl) _ ?_
    refine ⟨A.ls, _, rfl, .of m.s, ?_⟩
    have hnh := W.nh
    refine for_it (walk_enum (K := K) (a := A.ls) (xs := S.spots.map vON)) (fun i σ H' => ∃ x4 x5 x6 x7 fl, σ = [some (.ref A.o), some (.ref f), some (.ref wv), some (.bl fl), x4, x5, x6, x7] ∧ Kp (fun b => b = f ∨ b = wv) H H' ∧
      ((List.range S.nh).take i).foldl (relaxHand S) (far, ways, false) = ((((List.range S.nh).take i).foldl (relaxHand S) (far, ways, false)).1, (((List.range S.nh).take i).foldl (relaxHand S) (far, ways, false)).2.1, fl) ∧ RsAt H' f wv (((List.range S.nh).take i).foldl (relaxHand S) (far, ways, false)))
      ⟨none, none, none, none, false, rfl, .refl _, rfl, ⟨ra.f, ra.w⟩⟩ ?_ ?_ ?_
    · rintro i σ H' hi ⟨x4, x5, x6, x7, fl, rfl, k, _, _⟩
      exact .of (m.keep k hU).s
    · rintro i v σ H1 H2 hi ⟨x4, x5, x6, x7, fl, rfl, k, e, r1⟩ ⟨T0, x, y, rfl, hT, rfl, hx, hy⟩
      cases hx
      rw [List.length_map] at hi
      have hi : i < S.nh := hi
      have hy : (S.spots.map vON)[i]? = some y := hy
      rw [map_vON_get hi] at hy
      have hy := Option.some.inj hy
      subst hy
      have hr1 : i < (List.range S.nh).length := by simp; exact hi
      have estep := foldl_take_succ (relaxHand S) (far, ways, false) (List.range S.nh) hr1
      rw [List.getElem_range] at estep
      have rok : RsOk S (((List.range S.nh).take i).foldl (relaxHand S) (far, ways, false)) := relaxHands_ok _ ⟨ro.lf, ro.lw⟩
      rw [estep]
      generalize ((List.range S.nh).take i).foldl (relaxHand S) (far, ways, false) = st at e r1 rok ⊢
      obtain ⟨fr, wy, fl'⟩ := st
      have e : fl' = fl := congrArg (fun z => z.2.2) e
      subst e
      have k2 : Kp (fun b => b = f ∨ b = wv) H (upd H1 T0 (.tup [.int (i : Nat), vON (S.spots.getD i none)])) := k.then_new hT
      have r2 : RsAt (upd H1 T0 (.tup [.int (i : Nat), vON (S.spots.getD i none)])) f wv (fr, wy, fl') := ⟨by rw [upd_ne (ne_of_none r1.f hT)]; exact r1.f, by rw [upd_ne (ne_of_none r1.w hT)]; exact r1.w⟩
      refine ⟨T0, _, rfl, .of upd_same, rfl, _, _, rfl, _, _, rfl, rfl, ?_⟩
      have hT1 : (upd H1 T0 (.tup [.int (i : Nat), vON (S.spots.getD i none)])) T0 = some (.tup [.int (i : Nat), vON (S.spots.getD i none)]) := upd_same
      generalize upd H1 T0 (.tup [.int (i : Nat), vON (S.spots.getD i none)]) = H3 at k2 r2 hT1
      have m3 := m.keep k2 hU
      -- the body behind the first test
      refine ⟨fun σ' H' => H' = H3 ∧ ∃ come, σ' = [some (.ref A.o), some (.ref f), some (.ref wv), some (.bl fl'), some (.int (i : Nat)), some (vON (S.spots.getD i none)), some (.int come), x7] ∧
        (S.spots.getD i none = none → come = 0) ∧ (∀ w, S.spots.getD i none = some w → come = fr.getD w 0 - cI S i w), ?_, ?_⟩
      · cases e : S.spots.getD i none with
        | none => exact st_no (ans_isnot (x := V.non) (val_var rfl)) ⟨rfl, 0, rfl, fun _ => rfl, fun w z => by cases z⟩
        | some w =>
          obtain ⟨hw, c, hc⟩ := W.sp i w e
          refine st_yes (ans_isnot (x := vON (some w)) (val_var rfl)) ?_
          refine val_sub (val_ixL (val_var rfl) (val_var rfl) r2.f (map_int_get (by rw [rok.lf]; exact hw))) (m3.cost W T (val_var rfl) (val_var rfl) (val_var rfl) hi hw |> fun z => by rw [hc, vOI_some] at z; exact z) _ ?_
          exact ⟨rfl, _, rfl, fun z => (by cases z), fun w' z => (by cases z; rw [cI_of hc])⟩
      · rintro σ' H3 ⟨rfl, come, rfl, h0, h1⟩
        have main : (relaxHand S (fr, wy, fl') i = match S.spots.getD i none with
            | none => (fitPl S i).foldl (relaxPlace S i come) (fr, wy, fl')
            | some w => if fr.getD w 0 < FAR then (fitPl S i).foldl (relaxPlace S i come) (fr, wy, fl') else (fr, wy, fl')) := by
          unfold relaxHand
          cases e : S.spots.getD i none with
          | none => rw [h0 e]
          | some w => rw [h1 w e]
        obtain ⟨bt, hbt, htt, htf⟩ : ∃ bt, Ans (tOr (tTest (tOp (fun x y H Q => y = V.non ∧ Q (V.bl (decide (x = V.non))) H) (tVar 5) (tC .non))) (tTest (tOp (rI0 fun i j => V.bl (decide (i < j))) (tOp (rIxL K) (tVar 1) (tVar 5)) (tC (V.int 1000000000000)))))
            [some (.ref A.o), some (.ref f), some (.ref wv), some (.bl fl'), some (.int (i : Nat)), some (vON (S.spots.getD i none)), some (.int come), x7] H3 bt ∧
            (bt = true → relaxHand S (fr, wy, fl') i = (fitPl S i).foldl (relaxPlace S i come) (fr, wy, fl')) ∧ (bt = false → relaxHand S (fr, wy, fl') i = (fr, wy, fl')) := by
          cases e : S.spots.getD i none with
          | none => exact ⟨true, ans_or1 (ans_is (x := V.non) (val_var rfl)), fun _ => by rw [main, e], fun z => by cases z⟩
          | some w =>
            obtain ⟨hw, c, hc⟩ := W.sp i w e
            refine ⟨decide (fr.getD w 0 < FAR), ans_or (ans_is (x := vON (some w)) (val_var rfl)) (ans_lt (val_ixL (val_var rfl) (val_var rfl) r2.f (map_int_get (by rw [rok.lf]; exact hw))) val_c), fun z => ?_, fun z => ?_⟩
            · rw [main, e]
              exact if_pos (of_decide_eq_true z)
            · rw [main, e]
              exact if_neg (of_decide_eq_false z)
        cases bt with
        | false =>
          refine st_no hbt ?_
          refine ⟨_, _, _, _, fl', rfl, k2, ?_, ?_⟩
          · rw [htf rfl]
          · rw [htf rfl]; exact r2
        | true =>
          refine st_yes hbt ?_
          refine ⟨_, rfl, A.o, A.dx, _, rfl, m3.o, rfl, _, rfl, A, S, i, rfl, m3, W, hi, fun H4 p k4 hp hp4 => ?_⟩
          have k5 : Kp (fun b => b = f ∨ b = wv) H H4 := k2.trans k4.up
          have pf : p ≠ f := (ne_of_none r2.f hp).symm
          have pw : p ≠ wv := (ne_of_none r2.w hp).symm
          refine ⟨p, rfl, ⟨_, .of hp4⟩, ?_⟩
          refine for_list (xs := vN (fitPl S i)) (fun j σ H' => ∃ x7 fl, σ = [some (.ref A.o), some (.ref f), some (.ref wv), some (.bl fl), some (.int (i : Nat)), some (vON (S.spots.getD i none)), some (.int come), x7] ∧ Kp (fun b => b = f ∨ b = wv) H4 H' ∧
            (((fitPl S i).take j).foldl (relaxPlace S i come) (fr, wy, fl')).2.2 = fl ∧ RsAt H' f wv (((fitPl S i).take j).foldl (relaxPlace S i come) (fr, wy, fl')))
            ⟨x7, fl', rfl, .refl _, rfl, ⟨k4.get0 r2.f, k4.get0 r2.w⟩⟩ ?_ ?_ ?_
          · rintro j σ H' hj ⟨x7, fl, rfl, k6, _, _⟩
            refine .of (k6.get hp4 ?_)
            rintro (z | z)
            · exact pf z
            · exact pw z
          · rintro j v σ H5 hv ⟨x7, fl, rfl, k6, e6, r6⟩
            obtain ⟨hj', hv⟩ := vN_at hv
            subst hv
            have hmem := fit_mem (List.getElem_mem hj')
            have estep := foldl_take_succ (relaxPlace S i come) (fr, wy, fl') (fitPl S i) hj'
            have rok' : RsOk S (((fitPl S i).take j).foldl (relaxPlace S i come) (fr, wy, fl')) := relaxPlaces_ok _ rok
            rw [estep]
            generalize ((fitPl S i).take j).foldl (relaxPlace S i come) (fr, wy, fl') = st at e6 r6 rok' ⊢
            obtain ⟨g1, g2, g3⟩ := st
            obtain rfl : g3 = fl := e6
            obtain ⟨hp', c, hc, hcI⟩ := hmem
            generalize (fitPl S i)[j] = pl at hp' hc hcI ⊢
            have m5 := m.keep (k5.trans k6) hU
            have hpf : pl < g1.length := by rw [rok'.lf]; exact hp'
            have hpw : pl < g2.length := by rw [rok'.lw]; exact hp'
            have σ0 : ∀ {ta tb tc : TE} {σ : L2.St}, Val ta σ H5 (.ref A.o) → Val tb σ H5 (.int (i : Nat)) → Val tc σ H5 (.int (pl : Nat)) → Val (tOp (rIxL K) (tOp (rIxL K) (tFld K ta "costs") tb) tc) σ H5 (.int (cI S i pl)) := fun a b d => by
              have z := m5.cost W T a b d hi hp'
              rw [hc, vOI_some] at z
              rw [hcI]; exact z
            by_cases hlt : come + cI S i pl < g1.getD pl 0
            · refine st_yes ((ans_lt (val_add (val_var rfl) (σ0 (val_var rfl) (val_var rfl) (val_var rfl))) (val_ixL (val_var rfl) (val_var rfl) r6.f (map_int_get hpf))).to (decide_eq_true hlt)) ?_
              refine val_add (val_var rfl) (σ0 (val_var rfl) (val_var rfl) (val_var rfl)) _ ?_
              refine ⟨_, rfl, _, rfl, f, _, _, pl, rfl, rfl, r6.f, ixNn (by rw [List.length_map]; exact hpf), ?_⟩
              refine ⟨_, rfl, _, rfl, _, rfl, wv, _, _, pl, rfl, rfl, (by rw [upd_ne fw.symm]; exact r6.w), ixNn (by rw [List.length_map]; exact hpw), ?_⟩
              refine ⟨_, true, rfl, (k6.then_set (.inl rfl) r6.f (fun _ z => by cases z) (fun _ z => by cases z)).then_set (.inr rfl) (by rw [upd_ne fw.symm]; exact r6.w) (fun _ z => by cases z) (fun _ z => by cases z), ?_, ?_⟩
              · unfold relaxPlace
                rw [if_pos hlt]
              · unfold relaxPlace
                rw [if_pos hlt]
                refine ⟨?_, ?_⟩
                · rw [upd_ne fw, upd_same, ← List.map_set]
                · rw [upd_same, show (V.int (i : Nat)) = vON (some i) from rfl, ← List.map_set]
            · refine st_no ((ans_lt (val_add (val_var rfl) (σ0 (val_var rfl) (val_var rfl) (val_var rfl))) (val_ixL (val_var rfl) (val_var rfl) r6.f (map_int_get hpf))).to (decide_eq_false hlt)) ?_
              refine ⟨_, g3, rfl, k6, ?_, ?_⟩
              · unfold relaxPlace
                rw [if_neg hlt]
              · unfold relaxPlace
                rw [if_neg hlt]; exact r6
          · rintro σ H' ⟨x7, fl, rfl, k6, e6, r6⟩
            rw [show (vN (fitPl S i)).length = (fitPl S i).length from vN_len _, List.take_length, ← htt rfl] at e6 r6
            refine ⟨_, _, _, _, fl, rfl, k5.trans k6, ?_, r6⟩
            rw [← e6]
    · rintro σ H' ⟨x4, x5, x6, x7, fl, rfl, k, e, r⟩
      rw [List.length_map] at e r
      rw [List.take_of_length_le (by simp; exact Nat.le_refl _)] at e r
      have e : (relaxAll S far ways).2.2 = fl := congrArg (fun z => z.2.2) e
      refine ⟨_, rfl, ?_⟩
      rw [← e]
      exact q H' k r
end
end WS
set_option Elab.async false
set_option linter.all false
set_option maxRecDepth 100000
set_option maxHeartbeats 4000000
namespace WS
open PySem PySem.Spec PyProof.Rows L2
theorem rep1 {α : Type} (n : Nat) (x : α) : (List.replicate n [x]).flatten = List.replicate n x := by simp
theorem rng_wf {n : Nat} : (List.range n).length = n := by simp
section
variable {P : Program} {w : World} {K : PySem.W.Frag} {mg : Str → Option Value} {base : Heap} {CM CH CV LP : Addr}
/-! ### cheapest -/
def spCheapest (CM : Addr) : Sp := fun vs H Q _ => ∃ (A : MA) (S : Man), vs = [.ref A.o] ∧ ManO CM H A S ∧ Good S ∧
  ∀ (H' : Hp) (p wv : Addr), K0 H H' → H p = none → H' p = some (.tup [vON (cheapest S).1, .ref wv]) → H wv = none → H' wv = some (.lst ((cheapest S).2.map vON)) → Q (.ref p) H'
abbrev n_Manning_cheapest : List Str := ["self", "far", "ways", "best", "least", "place", "many"]
theorem sc_Manning_cheapest : FnScope n_Manning_cheapest ["self"] (C8.fnScope s_Manning_cheapest) := ⟨rfl, rfl, rfl, by decide +kernel, rfl, by decide +kernel, by decide +kernel⟩
theorem met_cheapest (T : Txt K mg CM CH CV LP) (h : HasMeth K CM "cheapest" "Manning.cheapest" s_Manning_cheapest ["self"]) (c_relax : C8.Met P w K mg base 2 CM "relax" (spRelax CM) []) : C8.Met P w K mg base 3 CM "cheapest" (spCheapest CM) [] := by
  refine mkMet h sc_Manning_cheapest (fun vs H Q E hh => ?_) (fun fa cdv Ar outer s H vs Q E hr hh => ?_)
  · obtain ⟨A, S, rfl, _⟩ := hh
    rfl
  · obtain ⟨A, S, rfl, m, G, q⟩ := hh
    refine ⟨_, (pss_cons (ps_set (i := 1) sc_Manning_cheapest.nd rfl (loc_by rfl) (pe_op op_rep (pe_lst (pa_cons (C8.pe_gc rfl T.c_FAR) pa_nil)) (pe_callB (call_lenK (K := K) rfl) (by rfl) T.m_len (by decide +kernel) (pa_cons (pe_fldK (K := K) rfl (pv 0) rfl) pa_nil))))
      (pss_cons (ps_set (i := 2) sc_Manning_cheapest.nd rfl (loc_by rfl) (pe_op op_rep (pe_lst (pa_cons pe_non pa_nil)) (pe_callB (call_lenK (K := K) rfl) (by rfl) T.m_len (by decide +kernel) (pa_cons (pe_fldK (K := K) rfl (pv 0) rfl) pa_nil))))
      (C8.pss_cut (ps_while PassesOwn.never (pt_val (C8.pe_mt c_relax hr (by decide) (pv 0) (pa_cons (pv 1) (pa_cons (pv 2) pa_nil)))) (pss_one ps_continue))
      (pss_cons (ps_asg (pe_tup (pa_cons pe_non (pa_cons pe_int pa_nil))) (pg_tup rfl (pgs_cons (pg_name (i := 3) sc_Manning_cheapest.nd rfl (loc_by rfl)) (pgs_cons (pg_name (i := 4) sc_Manning_cheapest.nd rfl (loc_by rfl)) pgs_nil))))
      (pss_cons (ps_for PassesOwn.never rfl (pi_enum rfl T.m_enumerate (pa_cons (pe_fldK (K := K) rfl (pv 0) rfl) pa_nil)) (pg_tup rfl (pgs_cons (pg_name (i := 5) sc_Manning_cheapest.nd rfl (loc_by rfl)) (pgs_cons (pg_name (i := 6) sc_Manning_cheapest.nd rfl (loc_by rfl)) pgs_nil))) (pss_one (ps_if (PW.pt (pw_and (pt_cmpR op_lt (pe_ix (ix_listK (K := K) rfl) (pv 1) (pv 5) (fun _ _ => rfl)) (C8.pe_gc rfl T.c_FAR) (nomark _)) (pw_and (pt_cmpR op_lt (pe_ix (ix_listK (K := K) rfl) (pe_fldK (K := K) rfl (pv 0) rfl) (pv 5) (fun _ _ => rfl)) (pv 6) (nomark _)) (pw_and1 (pt_cmpR op_lt (pe_op op_sub (pe_ix (ix_listK (K := K) rfl) (pv 1) (pv 5) (fun _ _ => rfl)) (pe_ix (ix_listK (K := K) rfl) (pe_fldK (K := K) rfl (pv 0) rfl) (pv 5) (fun _ _ => rfl))) (pv 4) (nomark _)))))) (pss_one (ps_par (i := 3) (j := 4) rfl sc_Manning_cheapest.nd rfl rfl (by decide) rfl rfl (pa_cons (pv 5) (pa_cons (pe_op op_sub (pe_ix (ix_listK (K := K) rfl) (pv 1) (pv 5) (fun _ _ => rfl)) (pe_ix (ix_listK (K := K) rfl) (pe_fldK (K := K) rfl (pv 0) rfl) (pv 5) (fun _ _ => rfl))) pa_nil)) (by rfl))) pss_nil)))
      (pss_one (ps_ret (pe_tup (pa_cons (pv 3) (pa_cons (pv 2) pa_nil)))))))))), ?_⟩
    obtain ⟨W, π, D, Po⟩ := G
    obtain ⟨n, hrun, ⟨u, T0, bf⟩, _⟩ := bf_end W Po
    have hnp := W.np
    have hnp' : S.named.length ≤ 1000 := hnp
    -- far
    refine ⟨by show 1 ≤ sizeLine; decide, fun p hp => ?_⟩
    have m1 := m.keep0 (.new hp (o := .lst [V.int FAR]))
    refine m1.vn T (val_var rfl) _ ?_
    refine ⟨_, _, rfl, .inl (.of m1.n), ?_⟩
    rw [List.length_map]
    refine ⟨_, _, _, rfl, rfl, upd_same, by omega, by omega, le_line (by simp; omega), fun f hf => ?_⟩
    rw [rep1, Int.toNat_natCast]
    have k1 : K0 H (upd (upd H p (.lst [V.int FAR])) f (.lst (List.replicate S.named.length (V.int FAR)))) := (Kp.new hp).then_new hf
    have hf0 : H f = none := (Kp.new (S := fun _ => False) hp).fr _ hf
    have hff : upd (upd H p (.lst [V.int FAR])) f (.lst (List.replicate S.named.length (V.int FAR))) f = some (.lst ((List.replicate S.np FAR).map V.int)) := by rw [upd_same, List.map_replicate]; rfl
    generalize upd (upd H p (.lst [V.int FAR])) f (.lst (List.replicate S.named.length (V.int FAR))) = H1 at k1 hff
    -- ways
    refine ⟨by show 1 ≤ sizeLine; decide, fun p2 hp2 => ?_⟩
    have m2 := (m.keep0 k1).keep0 (.new hp2 (o := .lst [V.non]))
    refine m2.vn T (val_var rfl) _ ?_
    refine ⟨_, _, rfl, .inl (.of m2.n), ?_⟩
    rw [List.length_map]
    refine ⟨_, _, _, rfl, rfl, upd_same, by omega, by omega, le_line (by simp; omega), fun wv hwv => ?_⟩
    rw [rep1, Int.toNat_natCast]
    have hwv1 : H1 wv = none := (Kp.new (S := fun _ => False) hp2).fr _ hwv
    have k2' : K0 H1 (upd (upd H1 p2 (.lst [V.non])) wv (.lst (List.replicate S.named.length V.non))) := (Kp.new hp2).then_new hwv
    have hww : upd (upd H1 p2 (.lst [V.non])) wv (.lst (List.replicate S.named.length V.non)) wv = some (.lst ((List.replicate S.np none).map vON)) := by rw [upd_same, List.map_replicate]; rfl
    have fw : f ≠ wv := ne_of_none hff hwv1
    have hf2 := k2'.get0 hff
    have k2 := k1.trans k2'
    have hw0 : H wv = none := k1.fr _ hwv1
    generalize upd (upd H1 p2 (.lst [V.non])) wv (.lst (List.replicate S.named.length V.non)) = H2 at k2 hww hf2
    -- the loop
    refine ⟨fun σ H' => σ = [some (.ref A.o), some (.ref f), some (.ref wv), none, none, none, none] ∧ K0 H H' ∧ RsAt H' f wv ((bfEnd S).1, (bfEnd S).2, false), ?_, ?_⟩
    · refine ⟨fun mm σ H' => σ = [some (.ref A.o), some (.ref f), some (.ref wv), none, none, none, none] ∧ K0 H H' ∧ ∃ fr wy, RunsN (relaxF S) mm (fr, wy) (bfEnd S) ∧ RsAt H' f wv (fr, wy, false) ∧ RsOk S (fr, wy, false), ⟨n, rfl, k2, _, _, hrun, ⟨hf2, hww⟩, ⟨by simp, by simp⟩⟩, ?_⟩
      rintro mm σ H' ⟨rfl, k, fr, wy, hrn, ra, ro⟩
      have m' := m.keep0 k
      refine ⟨_, rfl, A.o, A.dx, _, rfl, m'.o, rfl, _, rfl, _, rfl, A, S, f, wv, _, rfl, m', W.l, m.off hf0, m.off hw0, fw, ra, ro, fun H3 k3 r3 => ?_⟩
      have k4 : K0 H H3 := (k.up.trans k3).drop fun b o e z => by
        rcases z with rfl | rfl
        · rw [hf0] at e; cases e
        · rw [hw0] at e; cases e
      have ro3 : RsOk S (relaxAll S fr wy) := relaxHands_ok _ ⟨ro.lf, ro.lw⟩
      refine ⟨_, rfl, ?_⟩
      generalize hE : bfEnd S = e at hrn ⊢
      cases hrn with
      | stop hb =>
        refine if_false_of hb ?_
        exact ⟨rfl, k4, r3.f, r3.w⟩
      | go hb hrest =>
        refine if_true_of hb ?_
        exact ⟨fun σ' H2 => ∃ m', m' < _ ∧ _, fun _ _ h => h, _, Nat.lt_succ_self _, rfl, k4, _, _, hrest, ⟨r3.f, r3.w⟩, ⟨ro3.lf, ro3.lw⟩⟩
    · rintro σ H3 ⟨rfl, k, r⟩
      refine ⟨by show 2 ≤ sizeLine; decide, fun pc hpc => ⟨pc, _, rfl, .of upd_same, rfl, _, _, rfl, _, _, rfl, rfl, ?_⟩⟩
      have r : RsAt (upd H3 pc (.tup [.non, .int 0])) f wv ((bfEnd S).1, (bfEnd S).2, false) := ⟨by rw [upd_ne (ne_of_none r.f hpc)]; exact r.f, by rw [upd_ne (ne_of_none r.w hpc)]; exact r.w⟩
      have k := k.then_new hpc (o := .tup [.non, .int 0])
      generalize upd H3 pc (.tup [.non, .int 0]) = H3 at k r
      have m3 := m.keep0 k
      refine m3.vw T (val_var rfl) _ ?_
      refine ⟨A.lw, _, rfl, .of m3.w, ?_⟩
      refine for_it (walk_enum (K := K) (a := A.lw) (xs := S.wanted.map V.int)) (fun i σ H' => ∃ x5 x6, σ = [some (.ref A.o), some (.ref f), some (.ref wv), some (vON ((List.range S.wanted.length).take i |>.foldl (pickStep S (bfEnd S).1) (none, 0)).1), some (.int ((List.range S.wanted.length).take i |>.foldl (pickStep S (bfEnd S).1) (none, 0)).2), x5, x6] ∧ K0 H3 H')
        ⟨none, none, rfl, .refl _⟩ ?_ ?_ ?_
      · rintro i σ H' hi ⟨x5, x6, rfl, k4⟩
        exact .of (m3.keep0 k4).w
      · rintro i v σ H4 H5 hi ⟨x5, x6, rfl, k4⟩ ⟨T0, x, y, rfl, hT, rfl, hx, hy⟩
        cases hx
        rw [List.length_map] at hi
        have hy : (S.wanted.map V.int)[i]? = some y := hy
        rw [map_int_get hi] at hy
        have hy := Option.some.inj hy
        subst hy
        have hin : i < S.np := by rw [← W.lw]; exact hi
        have estep := foldl_take_succ (pickStep S (bfEnd S).1) (none, 0) (List.range S.wanted.length) (i := i) (by simp; exact hi)
        rw [List.getElem_range] at estep
        rw [estep]
        generalize ((List.range S.wanted.length).take i).foldl (pickStep S (bfEnd S).1) (none, 0) = st
        obtain ⟨b, l⟩ := st
        have k5 : K0 H3 (upd H4 T0 (.tup [.int (i : Nat), .int (S.wanted.getD i 0)])) := k4.then_new hT
        refine ⟨T0, _, rfl, .of upd_same, rfl, _, _, rfl, _, _, rfl, rfl, ?_⟩
        generalize upd H4 T0 (.tup [.int (i : Nat), .int (S.wanted.getD i 0)]) = H5 at k5
        have m5 := m3.keep0 k5
        have hfl : i < (bfEnd S).1.length := by rw [bf.lf]; exact hin
        have hbl : i < S.bounty.length := by rw [W.lb]; exact hin
        have rf := k5.get0 r.f
        have vfar : ∀ {ta tb : TE} {σ : L2.St}, Val ta σ H5 (.ref f) → Val tb σ H5 (.int (i : Nat)) → Val (tOp (rIxL K) ta tb) σ H5 (.int ((bfEnd S).1.getD i 0)) := fun a b => val_ixL a b rf (map_int_get hfl)
        have vbou : ∀ {ta tb : TE} {σ : L2.St}, Val ta σ H5 (.ref A.o) → Val tb σ H5 (.int (i : Nat)) → Val (tOp (rIxL K) (tFld K ta "bounty") tb) σ H5 (.int (S.bounty.getD i 0)) := fun a b => val_ixL (m5.vb T a) b m5.b (map_int_get hbl)
        have ht := ans_and2 (ans_lt (vfar (ta := tVar 1) (tb := tVar 5) (σ := [some (.ref A.o), some (.ref f), some (.ref wv), some (vON b), some (.int l), some (.int (i : Nat)), some (.int (S.wanted.getD i 0))]) (val_var rfl) (val_var rfl)) (val_c (v := .int FAR)))
          (ans_and2 (ans_lt (val_ixL (K := K) (m5.vn T (val_var (i := 0) rfl)) (val_var (i := 5) rfl) m5.n (map_int_get hin)) (val_var (i := 6) rfl)) (ans_lt (val_sub (vfar (ta := tVar 1) (tb := tVar 5) (val_var rfl) (val_var rfl)) (vbou (ta := tVar 0) (tb := tVar 5) (val_var rfl) (val_var rfl))) (val_var (i := 4) rfl)))
        cases hc : (decide ((bfEnd S).1.getD i 0 < FAR) && (decide (S.named.getD i 0 < S.wanted.getD i 0) && decide ((bfEnd S).1.getD i 0 - S.bounty.getD i 0 < l))) with
        | true =>
          refine st_yes (ht.to hc) ?_
          refine ⟨_, rfl, ?_⟩
          refine val_sub (vfar (val_var rfl) (val_var rfl)) (vbou (val_var rfl) (val_var rfl)) _ ?_
          rw [Bool.and_eq_true, Bool.and_eq_true, decide_eq_true_eq, decide_eq_true_eq, decide_eq_true_eq] at hc
          refine ⟨_, _, rfl, some (.int (i : Nat)), some (.int (S.wanted.getD i 0)), ?_, k5⟩
          unfold pickStep
          rw [if_pos hc]
          rfl
        | false =>
          refine st_no (ht.to hc) ?_
          refine ⟨some (.int (i : Nat)), some (.int (S.wanted.getD i 0)), ?_, k5⟩
          have hc : ¬ ((bfEnd S).1.getD i 0 < FAR ∧ S.named.getD i 0 < S.wanted.getD i 0 ∧ (bfEnd S).1.getD i 0 - S.bounty.getD i 0 < l) := fun z => by
            rw [← decide_eq_true_eq (p := (_ ∧ _)), Bool.decide_and, Bool.decide_and, hc] at z
            cases z
          unfold pickStep
          rw [if_neg hc]
          rfl
      · rintro σ H4 ⟨x5, x6, rfl, k4⟩
        rw [List.length_map, List.take_of_length_le (by simp)]
        refine ⟨_, rfl, _, rfl, by show 2 ≤ sizeLine; decide, fun p' hp' => ?_⟩
        have k5 := (k.trans k4).then_new hp' (o := .tup [vON (cheapest S).1, .ref wv])
        refine q _ p' wv k5 ((k.trans k4).fr _ hp') upd_same hw0 ?_
        rw [upd_ne (ne_of_none (k4.get0 r.w) hp')]
        exact k4.get0 r.w
end
end WS
set_option Elab.async false
set_option linter.all false
set_option maxRecDepth 100000
set_option maxHeartbeats 4000000
namespace WS
open PySem PySem.Spec PyProof.Rows L2
def SN (A : MA) (b : Addr) : Prop := b = A.ls ∨ b = A.ln
section
variable {P : Program} {w : World} {K : PySem.W.Frag} {mg : Str → Option Value} {base : Heap} {CM CH CV LP : Addr}
/-! ### put_along -/
def spPutAlong (CM : Addr) : Sp := fun vs H Q _ => ∃ (A : MA) (S : Man) (b : Nat) (wv : Addr) (ways : List (Option Nat)), vs = [.ref A.o, .int (b : Nat), .ref wv] ∧ ManO CM H A S ∧ A.Off wv ∧ H wv = some (.lst (ways.map vON)) ∧
  ways.length = S.np ∧ b < S.np ∧ (∃ n, Along ways S.nh S.np n S.spots (some b) (alongEnd S ways b)) ∧
  ∀ H', Kp (SN A) H H' → ManO CM H' A (putAlong S ways b) → Q .non H'
abbrev n_Manning_put_along : List Str := ["self", "place", "ways", "hand", "ahead"]
theorem sc_Manning_put_along : FnScope n_Manning_put_along ["self", "place", "ways"] (C8.fnScope s_Manning_put_along) := ⟨rfl, rfl, rfl, by decide +kernel, rfl, by decide +kernel, by decide +kernel⟩
theorem met_put_along (T : Txt K mg CM CH CV LP) (h : HasMeth K CM "put_along" "Manning.put_along" s_Manning_put_along ["self", "place", "ways"]) : C8.Met P w K mg base 1 CM "put_along" (spPutAlong CM) [] := by
  refine mkMet h sc_Manning_put_along (fun vs H Q E hh => ?_) (fun fa cdv Ar outer s H vs Q E hr hh => ?_)
  · obtain ⟨A, S, b, wv, ways, rfl, _⟩ := hh
    rfl
  · obtain ⟨A, S, b, wv, ways, rfl, m, ow, hw, hl, hb, ⟨n, al⟩, q⟩ := hh
    refine ⟨_, (pss_cons (ps_augS (pe_fldK (K := K) rfl (pv 0) rfl) (pv 1) get_list pe_int ip_add set_list)
      (pss_one (ps_while PassesOwn.never (pt_cmpR op_notN (pv 1) pe_non (nomark _)) (pss_cons (ps_set (i := 3) sc_Manning_put_along.nd rfl (loc_by rfl) (pe_ix (ix_listK (K := K) rfl) (pv 2) (pv 1) (fun _ _ => rfl)))
      (pss_cons (ps_set (i := 4) sc_Manning_put_along.nd rfl (loc_by rfl) (pe_ix (ix_listK (K := K) rfl) (pe_fldK (K := K) rfl (pv 0) rfl) (pv 3) (fun _ _ => rfl)))
      (pss_cons (ps_asg (pv 1) (pg_sub (pe_fldK (K := K) rfl (pv 0) rfl) (pv 3) set_list))
      (pss_one (ps_set (i := 1) sc_Manning_put_along.nd rfl (loc_by rfl) (pv 4))))))))), ?_⟩
    refine ⟨_, rfl, A.o, CM, A.dx, _, .ref A.ln, rfl, m.o, T.clM, T.nM _ (by simp), rfl, ?_⟩
    refine ⟨_, rfl, A.ln, _, _, _, rfl, rfl, m.n, atI_nat (map_int_get hb), ?_⟩
    refine ⟨_, _, rfl, rfl, A.ln, _, _, b, rfl, rfl, m.n, ixNn (by rw [List.length_map]; exact hb), ?_⟩
    have e1 : upd H A.ln (.lst ((S.named.map V.int).set b (.int (S.named.getD b 0 + 1)))) = upd H A.ln (.lst ((S.named.set b (S.named.getD b 0 + 1)).map V.int)) := by rw [List.map_set]
    have m1 := m.setN (S.named.set b (S.named.getD b 0 + 1))
    have k1 : Kp (SN A) H (upd H A.ln (.lst ((S.named.set b (S.named.getD b 0 + 1)).map V.int))) := .set (.inr rfl) m.n (fun _ z => by cases z) (fun _ z => by cases z)
    have hw1 : upd H A.ln (.lst ((S.named.set b (S.named.getD b 0 + 1)).map V.int)) wv = some (.lst (ways.map vON)) := by rw [upd_ne ow.n.symm]; exact hw
    show ∃ W, _
    rw [e1]
    generalize upd H A.ln (.lst ((S.named.set b (S.named.getD b 0 + 1)).map V.int)) = H1 at m1 k1 hw1
    have hS1 : putAlong S ways b = { S with named := S.named.set b (S.named.getD b 0 + 1), spots := alongEnd S ways b } := rfl
    rw [hS1] at q
    generalize alongEnd S ways b = fin at al q
    refine ⟨fun mm σ H' => ∃ p sp x3 x4, Along ways S.nh S.np mm sp p fin ∧ sp.length = S.nh ∧ σ = [some (.ref A.o), some (vON p), some (.ref wv), x3, x4] ∧ Kp (SN A) H H' ∧ ManO CM H' A { S with named := S.named.set b (S.named.getD b 0 + 1), spots := sp } ∧ H' wv = some (.lst (ways.map vON)),
      ⟨n, some b, S.spots, none, none, al, rfl, rfl, k1, m1, hw1⟩, ?_⟩
    rintro mm σ H' ⟨p, sp, x3, x4, al, hsp, rfl, k, m', hw'⟩
    cases al with
    | stop =>
      refine ans_isnot (x := V.non) (val_var rfl) _ ?_
      refine if_false_of rfl ?_
      exact q H' k m'
    | @go n' _ _ p h hp hwy hh al =>
      refine ans_isnot (x := vON (some p)) (val_var rfl) _ ?_
      refine if_true_of rfl ?_
      refine ⟨fun σ' H2 => ∃ m', m' < n' + 1 ∧ _, fun _ _ h => h, ?_⟩
      refine val_ixL (v := .int (h : Nat)) (i := p) (val_var rfl) (val_var rfl) hw' (by rw [map_vON_get (by rw [hl]; exact hp), hwy]; rfl) _ ?_
      refine val_ixL (v := vON (sp.getD h none)) (i := h) (m'.vs T (val_var rfl)) (val_var rfl) m'.s (map_vON_get (by rw [hsp]; exact hh)) _ ?_
      refine ⟨_, rfl, ?_⟩
      refine m'.vs T (val_var rfl) _ ?_
      refine ⟨_, rfl, A.ls, _, _, h, rfl, rfl, m'.s, ixNn (by rw [List.length_map, hsp]; exact hh), ?_⟩
      have e2 : (sp.map vON).set h (vON (some p)) = (sp.set h (some p)).map vON := by rw [List.map_set]
      refine ⟨_, rfl, n', Nat.lt_succ_self _, sp.getD h none, sp.set h (some p), _, _, al, by rw [List.length_set]; exact hsp, rfl, ?_, ?_, ?_⟩
      · exact k.then_set (.inl rfl) m'.s (fun _ z => by cases z) (fun _ z => by cases z)
      · show ManO CM (upd H' A.ls (.lst ((sp.map vON).set h (vON (some p))))) A _
        rw [e2]
        exact m'.setS (sp.set h (some p))
      · rw [upd_ne ow.s.symm]; exact hw'
/-! ### fill -/
def spFill (CM : Addr) : Sp := fun vs H Q _ => ∃ (A : MA) (S : Man), vs = [.ref A.o] ∧ ManO CM H A S ∧ Good S ∧ ∀ H', Kp (SN A) H H' → ManO CM H' A (fillEnd S) → Q .non H'
abbrev n_Manning_fill : List Str := ["self", "best", "ways"]
theorem sc_Manning_fill : FnScope n_Manning_fill ["self"] (C8.fnScope s_Manning_fill) := ⟨rfl, rfl, rfl, by decide +kernel, rfl, by decide +kernel, by decide +kernel⟩
theorem met_fill (T : Txt K mg CM CH CV LP) (h : HasMeth K CM "fill" "Manning.fill" s_Manning_fill ["self"]) (c_cheapest : C8.Met P w K mg base 3 CM "cheapest" (spCheapest CM) []) (c_put_along : C8.Met P w K mg base 1 CM "put_along" (spPutAlong CM) []) : C8.Met P w K mg base 4 CM "fill" (spFill CM) [] := by
  refine mkMet h sc_Manning_fill (fun vs H Q E hh => ?_) (fun fa cdv Ar outer s H vs Q E hr hh => ?_)
  · obtain ⟨A, S, rfl, _⟩ := hh
    rfl
  · obtain ⟨A, S, rfl, m, G, q⟩ := hh
    refine ⟨_, (pss_cons (ps_asg (C8.pe_mt0 c_cheapest hr (by decide) (pv 0)) (pg_tup rfl (pgs_cons (pg_name (i := 1) sc_Manning_fill.nd rfl (loc_by rfl)) (pgs_cons (pg_name (i := 2) sc_Manning_fill.nd rfl (loc_by rfl)) pgs_nil))))
      (pss_one (ps_while PassesOwn.never (pt_cmpR op_notN (pv 1) pe_non (nomark _)) (pss_cons (ps_expr (C8.pe_mt c_put_along hr (by decide) (pv 0) (pa_cons (pv 1) (pa_cons (pv 2) pa_nil))))
      (pss_one (ps_asg (C8.pe_mt0 c_cheapest hr (by decide) (pv 0)) (pg_tup rfl (pgs_cons (pg_name (i := 1) sc_Manning_fill.nd rfl (loc_by rfl)) (pgs_cons (pg_name (i := 2) sc_Manning_fill.nd rfl (loc_by rfl)) pgs_nil))))))))), ?_⟩
    obtain ⟨n, hf, _, _⟩ := fill_end G
    refine ⟨_, rfl, A.o, A.dx, _, rfl, m.o, rfl, A, S, rfl, m, G, fun H1 p wv k1 hp hp1 hwv hw1 => ?_⟩
    refine ⟨p, _, rfl, .of hp1, rfl, _, _, rfl, _, _, rfl, rfl, ?_⟩
    refine ⟨fun mm σ H' => ∃ S' wv, FillN mm S' (fillEnd S) ∧ Good S' ∧ σ = [some (.ref A.o), some (vON (cheapest S').1), some (.ref wv)] ∧ Kp (SN A) H H' ∧ ManO CM H' A S' ∧ A.Off wv ∧ H' wv = some (.lst ((cheapest S').2.map vON)),
      ⟨n, S, wv, hf, G, rfl, k1.up, m.keep0 k1, m.off hwv, hw1⟩, ?_⟩
    rintro mm σ H' ⟨S', wv, hf, G', rfl, k, m', ow, hw⟩
    generalize hE : fillEnd S = fin at hf q
    cases hf with
    | stop e =>
      rw [e]
      refine ans_isnot (x := V.non) (val_var rfl) _ ?_
      refine if_false_of rfl ?_
      exact q H' k m'
    | @go n' _ _ b e hf =>
      rw [e]
      refine ans_isnot (x := vON (some b)) (val_var rfl) _ ?_
      refine if_true_of rfl ?_
      refine ⟨fun σ' H2 => ∃ m', m' < n' + 1 ∧ _, fun _ _ h => h, ?_⟩
      obtain ⟨hb, al, G2, _, hl⟩ := put_good G' e
      refine ⟨_, rfl, A.o, A.dx, _, rfl, m'.o, rfl, _, rfl, _, rfl, A, S', b, wv, _, rfl, m', ow, hw, hl, hb, al, fun H2 k2 m2 => ?_⟩
      refine ⟨_, rfl, A.o, A.dx, _, rfl, m2.o, rfl, A, _, rfl, m2, G2, fun H3 p wv k3 hp hp3 hwv hw3 => ?_⟩
      refine ⟨p, _, rfl, .of hp3, rfl, _, _, rfl, _, _, rfl, rfl, ?_⟩
      exact ⟨n', Nat.lt_succ_self _, _, wv, hf, G2, rfl, (k.trans k2).trans k3.up, m2.keep0 k3, m2.off hwv, hw3⟩
end
end WS
set_option Elab.async false
set_option linter.all false
set_option maxHeartbeats 1000000
namespace WS
/-! # The paper: heights go down to a floor (plain Lean) -/
def mn (i j : Int) : Int := if j < i then j else i
theorem mn_l (i j : Int) : mn i j ≤ i := by unfold mn; split <;> omega
theorem mn_r (i j : Int) : mn i j ≤ j := by unfold mn; split <;> omega
theorem le_mn {x i j : Int} (h1 : x ≤ i) (h2 : x ≤ j) : x ≤ mn i j := by unfold mn; split <;> omega
structure Fea (S : Man) (η π : Nat → Int) (γ : Int) : Prop where
  f1 : ∀ h, h < S.nh → S.spots.getD h none = none → η h ≤ γ
  f2 : ∀ h w, h < S.nh → S.spots.getD h none = some w → η h ≤ π w - cI S h w ∧ γ ≤ η h
  f3 : ∀ h p c, h < S.nh → p < S.np → cst S h p = some c → π p ≤ η h + c
  f4 : ∀ p, p < S.np → 0 < S.named.getD p 0 → π p ≤ γ + S.bounty.getD p 0
  f5 : ∀ p, p < S.np → S.named.getD p 0 < S.wanted.getD p 0 → γ ≤ π p - S.bounty.getD p 0
def etaOf (S : Man) (π : Nat → Int) (h : Nat) : Int := match S.spots.getD h none with
  | none => 0
  | some w => π w - cI S h w
theorem eta_none {S : Man} {π : Nat → Int} {h : Nat} (e : S.spots.getD h none = none) : etaOf S π h = 0 := by unfold etaOf; rw [e]
theorem eta_some {S : Man} {π : Nat → Int} {h w : Nat} (e : S.spots.getD h none = some w) : etaOf S π h = π w - cI S h w := by unfold etaOf; rw [e]
theorem fea_of_pot {S : Man} {π : Nat → Int} (W : Wf S) (Po : Pot S π 0) : ∃ η π' γ, Fea S η π' γ ∧ (∀ h, h < S.nh → η h ≤ 0) ∧ (∀ p, p < S.np → π' p ≤ 0) ∧ γ ≤ 0 := by
  obtain ⟨M, hM, hb⟩ := exists_floor S.np (fun p => - π p)
  have hb : ∀ p, p < S.np → π p ≤ M := fun p hp => by have := hb p hp; omega
  refine ⟨fun h => etaOf S π h - M, fun p => π p - M, -M, ⟨fun h hh e => ?_, fun h w hh e => ?_, fun h p c hh hp hc => ?_, fun p hp hn => ?_, fun p hp hn => ?_⟩, fun h hh => ?_, fun p hp => ?_, by omega⟩
  · have := eta_none (π := π) e; omega
  · have := eta_some (π := π) e
    have := Po.p2' h w hh e
    show etaOf S π h - M ≤ π w - M - cI S h w ∧ -M ≤ etaOf S π h - M
    omega
  · show π p - M ≤ etaOf S π h - M + c
    cases e : S.spots.getD h none with
    | none =>
      have := Po.p1 h p c hh e hp hc
      have := eta_none (π := π) e; omega
    | some w =>
      have := Po.p2 h w p c hh e hp hc
      have := eta_some (π := π) e; omega
  · have := Po.p3 p hp hn
    show π p - M ≤ -M + S.bounty.getD p 0
    omega
  · have := Po.p4 p hp hn
    show -M ≤ π p - M - S.bounty.getD p 0
    omega
  · show etaOf S π h - M ≤ 0
    cases e : S.spots.getD h none with
    | none => have := eta_none (π := π) e; omega
    | some w =>
      obtain ⟨hw, c, hc⟩ := W.sp h w e
      have := W.cr h w c hc
      have := cI_of hc
      have := hb w hw
      have := eta_some (π := π) e; omega
  · have := hb p hp
    show π p - M ≤ 0
    omega
structure Lo (S : Man) (η π : Nat → Int) (γ : Int) (hs ps : List Int) (g : Int) : Prop where
  lh : hs.length = S.nh
  lp : ps.length = S.np
  h : ∀ i, i < S.nh → η i ≤ hs.getD i 0
  p : ∀ i, i < S.np → π i ≤ ps.getD i 0
  g : γ ≤ g
structure Dn (hs ps : List Int) (g : Int) (hs' ps' : List Int) (g' : Int) : Prop where
  h : ∀ i, hs'.getD i 0 ≤ hs.getD i 0
  p : ∀ i, ps'.getD i 0 ≤ ps.getD i 0
  g : g' ≤ g
theorem Dn.refl (hs ps : List Int) (g : Int) : Dn hs ps g hs ps g := ⟨fun _ => Int.le_refl _, fun _ => Int.le_refl _, Int.le_refl _⟩
theorem Dn.trans {a b : List Int} {g : Int} {a' b' : List Int} {g' : Int} {a2 b2 : List Int} {g2 : Int} (x : Dn a b g a' b' g') (y : Dn a' b' g' a2 b2 g2) : Dn a b g a2 b2 g2 :=
  ⟨fun i => Int.le_trans (y.h i) (x.h i), fun i => Int.le_trans (y.p i) (x.p i), Int.le_trans y.g x.g⟩
theorem getD_set_le {l : List Int} {i : Nat} {x : Int} (h : x ≤ l.getD i 0) (j : Nat) : (l.set i x).getD j 0 ≤ l.getD j 0 := by
  rw [getD_set]
  split
  · rename_i e; rw [← e.1]; exact h
  · exact Int.le_refl _
theorem lo_set {η : Nat → Int} {l : List Int} {n i : Nat} {x : Int} (h : ∀ j, j < n → η j ≤ l.getD j 0) (hx : η i ≤ x) : ∀ j, j < n → η j ≤ (l.set i x).getD j 0 := fun j hj => by
  rw [getD_set]
  split
  · rename_i e; rw [← e.1]; exact hx
  · exact h j hj
def handDown (S : Man) (hs : List Int) (g : Int) (ps : List Int) (h : Nat) : Int × Int := match S.spots.getD h none with
  | none => (mn (hs.getD h 0) g, g)
  | some w => (mn (hs.getD h 0) (ps.getD w 0 - cI S h w), mn g (mn (hs.getD h 0) (ps.getD w 0 - cI S h w)))
def placeDown1 (S : Man) (p : Nat) (x g : Int) : Int := if 0 < S.named.getD p 0 then mn x (g + S.bounty.getD p 0) else x
def placeDown2 (S : Man) (p : Nat) (x g : Int) : Int := if S.named.getD p 0 < S.wanted.getD p 0 then mn g (x - S.bounty.getD p 0) else g
def placeDown (S : Man) (p : Nat) (x g : Int) : Int × Int := (placeDown1 S p x g, placeDown2 S p (placeDown1 S p x g) g)
section
variable {S : Man} {η π : Nat → Int} {γ : Int} {hs ps : List Int} {g : Int}
theorem hand_step (F : Fea S η π γ) (W : Wf S) (L : Lo S η π γ hs ps g) {h : Nat} (hh : h < S.nh) :
    Lo S η π γ (hs.set h (handDown S hs g ps h).1) ps (handDown S hs g ps h).2 ∧ Dn hs ps g (hs.set h (handDown S hs g ps h).1) ps (handDown S hs g ps h).2 := by
  have key : η h ≤ (handDown S hs g ps h).1 ∧ (handDown S hs g ps h).1 ≤ hs.getD h 0 ∧ γ ≤ (handDown S hs g ps h).2 ∧ (handDown S hs g ps h).2 ≤ g := by
    unfold handDown
    have h0 := L.h h hh
    have hg := L.g
    cases e : S.spots.getD h none with
    | none =>
      have := F.f1 h hh e
      exact ⟨le_mn h0 (by omega), mn_l _ _, hg, Int.le_refl _⟩
    | some w =>
      obtain ⟨hw, _⟩ := W.sp h w e
      have hp := L.p w hw
      obtain ⟨f, f'⟩ := F.f2 h w hh e
      have hx : η h ≤ mn (hs.getD h 0) (ps.getD w 0 - cI S h w) := le_mn h0 (by omega)
      exact ⟨hx, mn_l _ _, le_mn hg (by omega), mn_l _ _⟩
  obtain ⟨k1, k2, k3, k4⟩ := key
  exact ⟨⟨by rw [List.length_set]; exact L.lh, L.lp, lo_set L.h k1, L.p, k3⟩, ⟨getD_set_le k2, fun _ => Int.le_refl _, k4⟩⟩
theorem fit_step (F : Fea S η π γ) (L : Lo S η π γ hs ps g) {h p : Nat} {c : Int} (hh : h < S.nh) (hp : p < S.np) (hc : cst S h p = some c) :
    Lo S η π γ hs (ps.set p (mn (ps.getD p 0) (hs.getD h 0 + c))) g ∧ Dn hs ps g hs (ps.set p (mn (ps.getD p 0) (hs.getD h 0 + c))) g := by
  have h1 := F.f3 h p c hh hp hc
  have h2 := L.h h hh
  exact ⟨⟨L.lh, by rw [List.length_set]; exact L.lp, L.h, lo_set L.p (le_mn (L.p p hp) (by omega)), L.g⟩, ⟨fun _ => Int.le_refl _, getD_set_le (mn_l _ _), Int.le_refl _⟩⟩
theorem place_step (F : Fea S η π γ) (L : Lo S η π γ hs ps g) {p : Nat} (hp : p < S.np) :
    Lo S η π γ hs (ps.set p (placeDown S p (ps.getD p 0) g).1) (placeDown S p (ps.getD p 0) g).2 ∧ Dn hs ps g hs (ps.set p (placeDown S p (ps.getD p 0) g).1) (placeDown S p (ps.getD p 0) g).2 := by
  have h0 := L.p p hp
  have hg := L.g
  have k1 : π p ≤ placeDown1 S p (ps.getD p 0) g ∧ placeDown1 S p (ps.getD p 0) g ≤ ps.getD p 0 := by
    unfold placeDown1
    split
    · rename_i e
      have := F.f4 p hp e
      exact ⟨le_mn h0 (by omega), mn_l _ _⟩
    · exact ⟨h0, Int.le_refl _⟩
  have k2 : γ ≤ placeDown2 S p (placeDown1 S p (ps.getD p 0) g) g ∧ placeDown2 S p (placeDown1 S p (ps.getD p 0) g) g ≤ g := by
    unfold placeDown2
    split
    · rename_i e
      have := F.f5 p hp e
      exact ⟨le_mn hg (by omega), mn_l _ _⟩
    · exact ⟨hg, Int.le_refl _⟩
  exact ⟨⟨L.lh, by rw [List.length_set]; exact L.lp, L.h, lo_set L.p k1.1, k2.1⟩, ⟨fun _ => Int.le_refl _, getD_set_le k1.2, k2.2⟩⟩
/-- how far all is above the floor -/
def muL (S : Man) (η π : Nat → Int) (γ : Int) (hs ps : List Int) (g : Int) : Nat :=
  ((List.range S.nh).map fun i => (hs.getD i 0 - η i).toNat).sum + ((List.range S.np).map fun i => (ps.getD i 0 - π i).toNat).sum + (g - γ).toNat
theorem ext_getD {l m : List Int} (hl : l.length = m.length) (h : ∀ i, i < l.length → l.getD i 0 = m.getD i 0) : l = m := by
  apply List.ext_getElem hl
  intro i h1 h2
  have := h i h1
  simpa [h1, h2] using this
theorem muL_lt {hs' ps' : List Int} {g' : Int} (L : Lo S η π γ hs ps g) (L' : Lo S η π γ hs' ps' g') (d : Dn hs ps g hs' ps' g') (ne : ¬ (hs' = hs ∧ ps' = ps ∧ g' = g)) : muL S η π γ hs' ps' g' < muL S η π γ hs ps g := by
  unfold muL
  have a1 := sum_le_sum (fun i => (hs'.getD i 0 - η i).toNat) (fun i => (hs.getD i 0 - η i).toNat) (List.range S.nh) fun x _ => by have := d.h x; omega
  have a2 := sum_le_sum (fun i => (ps'.getD i 0 - π i).toNat) (fun i => (ps.getD i 0 - π i).toNat) (List.range S.np) fun x _ => by have := d.p x; omega
  have a3 := d.g
  have lg := L'.g
  have lg0 := L.g
  by_cases e1 : hs' = hs
  · by_cases e2 : ps' = ps
    · have e3 : g' ≠ g := fun z => ne ⟨e1, e2, z⟩
      omega
    · have : ∃ i, i < S.np ∧ ps'.getD i 0 ≠ ps.getD i 0 := by
        by_cases z : ∃ i, i < S.np ∧ ps'.getD i 0 ≠ ps.getD i 0
        · exact z
        · exact absurd (ext_getD (by rw [L.lp, L'.lp]) fun i hi => by
            by_cases q : ps'.getD i 0 = ps.getD i 0
            · exact q
            · exact absurd ⟨i, by rw [← L'.lp]; exact hi, q⟩ z) e2
      obtain ⟨i, hi, hne⟩ := this
      have := sum_lt_sum (fun i => (ps'.getD i 0 - π i).toNat) (fun i => (ps.getD i 0 - π i).toNat) (List.range S.np) (fun x _ => by have := d.p x; omega) ⟨i, List.mem_range.mpr hi, by have := d.p i; have := L'.p i hi; omega⟩
      omega
  · have : ∃ i, i < S.nh ∧ hs'.getD i 0 ≠ hs.getD i 0 := by
      by_cases z : ∃ i, i < S.nh ∧ hs'.getD i 0 ≠ hs.getD i 0
      · exact z
      · exact absurd (ext_getD (by rw [L.lh, L'.lh]) fun i hi => by
          by_cases q : hs'.getD i 0 = hs.getD i 0
          · exact q
          · exact absurd ⟨i, by rw [← L'.lh]; exact hi, q⟩ z) e1
    obtain ⟨i, hi, hne⟩ := this
    have := sum_lt_sum (fun i => (hs'.getD i 0 - η i).toNat) (fun i => (hs.getD i 0 - η i).toNat) (List.range S.nh) (fun x _ => by have := d.h x; omega) ⟨i, List.mem_range.mpr hi, by have := d.h i; have := L'.h i hi; omega⟩
    omega
end
/-- the manning as it starts -/
theorem good_start {S : Man} (lw : S.wanted.length = S.np) (lb : S.bounty.length = S.np) (lc : S.costs.length = S.nh) (lr : ∀ r ∈ S.costs, r.length = S.np) (np : S.np ≤ 1000) (nh : S.nh ≤ 1000)
    (cr : ∀ h p c, cst S h p = some c → 0 ≤ c ∧ c ≤ 1000) (bo : ∀ p, p < S.np → 1000 ≤ S.bounty.getD p 0 ∧ S.bounty.getD p 0 ≤ 100000000) (sp : ∀ h, S.spots.getD h none = none) (nm : ∀ p, S.named.getD p 0 = 0) : Good S := by
  refine ⟨⟨lw, lb, lc, lr, np, nh, cr, fun p hp => (bo p hp).1, fun h w e => (by rw [sp h] at e; cases e)⟩, fun _ => 0, -100000000, ?_⟩
  refine ⟨fun h p c _ _ _ e => (cr h p c e).1, fun h w p c _ e => (by rw [sp h] at e; cases e), fun h w _ e => (by rw [sp h] at e; cases e), fun p _ e => (by rw [nm p] at e; omega), fun p hp _ => ?_, by omega⟩
  have := (bo p hp).2
  omega
end WS
set_option Elab.async false
set_option linter.all false
set_option maxRecDepth 100000
set_option maxHeartbeats 4000000
namespace WS
open PySem PySem.Spec PyProof.Rows L2
section
variable {σ : L2.St} {H : Hp} {ta tb : TE}
theorem val_min {X : Cx} {n m : Int} (ha : Val ta σ H (.int n)) (hb : Val tb σ H (.int m)) : Val (tCB (fun xs H Q => ∃ i j, xs = [V.int i, V.int j] ∧ Q (V.int (if j < i then j else i)) H) (tCons ta (tCons tb tNil))) σ H (.int (mn n m)) := fun Q q => by
  refine ha _ ?_
  refine hb _ ?_
  exact ⟨n, m, rfl, q⟩
end
section
variable {P : Program} {w : World} {K : PySem.W.Frag} {mg : Str → Option Value} {base : Heap} {CM CH CV LP : Addr}
/-! ### hand_down -/
def spHandDown (CM : Addr) : Sp := fun vs H Q _ => ∃ (A : MA) (S : Man) (h : Nat) (a b : Addr) (hs ps : List Int) (g : Int), vs = [.ref A.o, .int (h : Nat), .ref a, .int g, .ref b] ∧ ManO CM H A S ∧ WfL S ∧ h < S.nh ∧
  H a = some (.lst (hs.map V.int)) ∧ H b = some (.lst (ps.map V.int)) ∧ hs.length = S.nh ∧ ps.length = S.np ∧
  ∀ p, H p = none → Q (.ref p) (upd H p (.tup [.int (handDown S hs g ps h).1, .int (handDown S hs g ps h).2]))
abbrev n_Manning_hand_down : List Str := ["self", "hand", "heights", "ground", "place_heights", "where", "height"]
theorem sc_Manning_hand_down : FnScope n_Manning_hand_down ["self", "hand", "heights", "ground", "place_heights"] (C8.fnScope s_Manning_hand_down) := ⟨rfl, rfl, rfl, by decide +kernel, rfl, by decide +kernel, by decide +kernel⟩
theorem met_hand_down (T : Txt K mg CM CH CV LP) (h : HasMeth K CM "hand_down" "Manning.hand_down" s_Manning_hand_down ["self", "hand", "heights", "ground", "place_heights"]) : C8.Met P w K mg base 1 CM "hand_down" (spHandDown CM) [] := by
  refine mkMet h sc_Manning_hand_down (fun vs H Q E hh => ?_) (fun fa cdv Ar outer s H vs Q E hr hh => ?_)
  · obtain ⟨A, S, h, a, b, hs, ps, g, rfl, _⟩ := hh
    rfl
  · obtain ⟨A, S, h, a, b, hs, ps, g, rfl, m, W, hh, ha, hb, la, lb, q⟩ := hh
    refine ⟨_, (pss_cons (ps_set (i := 5) sc_Manning_hand_down.nd rfl (loc_by rfl) (pe_ix (ix_listK (K := K) rfl) (pe_fldK (K := K) rfl (pv 0) rfl) (pv 1) (fun _ _ => rfl)))
      (pss_cons (ps_if (pt_cmpR op_isN (pv 5) pe_non (nomark _)) (pss_one (ps_ret (pe_tup (pa_cons (pe_callB (call_min2 rfl) (by rfl) T.m_min (by decide +kernel) (pa_cons (pe_ix (ix_listK (K := K) rfl) (pv 2) (pv 1) (fun _ _ => rfl)) (pa_cons (pv 3) pa_nil))) (pa_cons (pv 3) pa_nil))))) pss_nil)
      (pss_cons (ps_set (i := 6) sc_Manning_hand_down.nd rfl (loc_by rfl) (pe_callB (call_min2 rfl) (by rfl) T.m_min (by decide +kernel) (pa_cons (pe_ix (ix_listK (K := K) rfl) (pv 2) (pv 1) (fun _ _ => rfl)) (pa_cons (pe_op op_sub (pe_ix (ix_listK (K := K) rfl) (pv 4) (pv 5) (fun _ _ => rfl)) (pe_ix (ix_listK (K := K) rfl) (pe_ix (ix_listK (K := K) rfl) (pe_fldK (K := K) rfl (pv 0) rfl) (pv 1) (fun _ _ => rfl)) (pv 5) (fun _ _ => rfl))) pa_nil))))
      (pss_one (ps_ret (pe_tup (pa_cons (pv 6) (pa_cons (pe_callB (call_min2 rfl) (by rfl) T.m_min (by decide +kernel) (pa_cons (pv 3) (pa_cons (pv 6) pa_nil))) pa_nil)))))))), ?_⟩
    have v2 : ∀ {ta tb : TE} {σ : L2.St}, Val ta σ H (.ref a) → Val tb σ H (.int (h : Nat)) → Val (tOp (rIxL K) ta tb) σ H (.int (hs.getD h 0)) := fun x y => val_ixL x y ha (map_int_get (by rw [la]; exact hh))
    refine val_ixL (v := vON (S.spots.getD h none)) (m.vs T (val_var rfl)) (val_var rfl) m.s (map_vON_get hh) _ ?_
    cases e : S.spots.getD h none with
    | none =>
      refine st_yes (ans_is (x := V.non) (val_var rfl)) ?_
      refine v2 (val_var rfl) (val_var rfl) _ ?_
      refine ⟨_, rfl, _, _, rfl, _, rfl, by show 2 ≤ sizeLine; decide, fun p hp => ?_⟩
      have := q p hp
      unfold handDown at this
      rw [e] at this
      exact this
    | some w =>
      obtain ⟨hw, c, hc⟩ := W.sp h w e
      refine st_no (ans_is (x := vON (some w)) (val_var rfl)) ?_
      refine v2 (val_var rfl) (val_var rfl) _ ?_
      refine val_sub (val_ixL (val_var rfl) (val_var rfl) hb (map_int_get (by rw [lb]; exact hw))) (m.cost W T (val_var rfl) (val_var rfl) (val_var rfl) hh hw |> fun z => by rw [hc, vOI_some] at z; exact z) _ ?_
      refine ⟨_, _, rfl, ?_⟩
      refine ⟨_, rfl, _, rfl, _, rfl, _, _, rfl, by show 2 ≤ sizeLine; decide, fun p hp => ?_⟩
      have := q p hp
      unfold handDown at this
      rw [e] at this
      simp only [] at this
      rw [cI_of hc] at this
      exact this
/-! ### place_down -/
def spPlaceDown (CM : Addr) : Sp := fun vs H Q _ => ∃ (A : MA) (S : Man) (p : Nat) (x g : Int), vs = [.ref A.o, .int (p : Nat), .int x, .int g] ∧ ManO CM H A S ∧ WfL S ∧ p < S.np ∧
  ∀ t, H t = none → Q (.ref t) (upd H t (.tup [.int (placeDown S p x g).1, .int (placeDown S p x g).2]))
abbrev n_Manning_place_down : List Str := ["self", "place", "height", "ground"]
theorem sc_Manning_place_down : FnScope n_Manning_place_down ["self", "place", "height", "ground"] (C8.fnScope s_Manning_place_down) := ⟨rfl, rfl, rfl, by decide +kernel, rfl, by decide +kernel, by decide +kernel⟩
theorem met_place_down (T : Txt K mg CM CH CV LP) (h : HasMeth K CM "place_down" "Manning.place_down" s_Manning_place_down ["self", "place", "height", "ground"]) : C8.Met P w K mg base 1 CM "place_down" (spPlaceDown CM) [] := by
  refine mkMet h sc_Manning_place_down (fun vs H Q E hh => ?_) (fun fa cdv Ar outer s H vs Q E hr hh => ?_)
  · obtain ⟨A, S, p, x, g, rfl, _⟩ := hh
    rfl
  · obtain ⟨A, S, p, x, g, rfl, m, W, hp, q⟩ := hh
    refine ⟨_, (C8.pss_cut (ps_if (pt_cmpR op_gt (pe_ix (ix_listK (K := K) rfl) (pe_fldK (K := K) rfl (pv 0) rfl) (pv 1) (fun _ _ => rfl)) pe_int (nomark _)) (pss_one (ps_set (i := 2) sc_Manning_place_down.nd rfl (loc_by rfl) (pe_callB (call_min2 rfl) (by rfl) T.m_min (by decide +kernel) (pa_cons (pv 2) (pa_cons (pe_op op_add (pv 3) (pe_ix (ix_listK (K := K) rfl) (pe_fldK (K := K) rfl (pv 0) rfl) (pv 1) (fun _ _ => rfl))) pa_nil))))) pss_nil)
      (C8.pss_cut (ps_if (pt_cmpR op_lt (pe_ix (ix_listK (K := K) rfl) (pe_fldK (K := K) rfl (pv 0) rfl) (pv 1) (fun _ _ => rfl)) (pe_ix (ix_listK (K := K) rfl) (pe_fldK (K := K) rfl (pv 0) rfl) (pv 1) (fun _ _ => rfl)) (nomark _)) (pss_one (ps_set (i := 3) sc_Manning_place_down.nd rfl (loc_by rfl) (pe_callB (call_min2 rfl) (by rfl) T.m_min (by decide +kernel) (pa_cons (pv 3) (pa_cons (pe_op op_sub (pv 2) (pe_ix (ix_listK (K := K) rfl) (pe_fldK (K := K) rfl (pv 0) rfl) (pv 1) (fun _ _ => rfl))) pa_nil))))) pss_nil)
      (pss_one (ps_ret (pe_tup (pa_cons (pv 2) (pa_cons (pv 3) pa_nil))))))), ?_⟩
    have vn : ∀ {σ : L2.St}, Val (tVar 0) σ H (.ref A.o) → Val (tVar 1) σ H (.int (p : Nat)) → Val (tOp (rIxL K) (tFld K (tVar 0) "named") (tVar 1)) σ H (.int (S.named.getD p 0)) := fun a b => val_ixL (m.vn T a) b m.n (map_int_get hp)
    have vb : ∀ {σ : L2.St}, Val (tVar 0) σ H (.ref A.o) → Val (tVar 1) σ H (.int (p : Nat)) → Val (tOp (rIxL K) (tFld K (tVar 0) "bounty") (tVar 1)) σ H (.int (S.bounty.getD p 0)) := fun a b => val_ixL (m.vb T a) b m.b (map_int_get (by rw [W.lb]; exact hp))
    have vw : ∀ {σ : L2.St}, Val (tVar 0) σ H (.ref A.o) → Val (tVar 1) σ H (.int (p : Nat)) → Val (tOp (rIxL K) (tFld K (tVar 0) "wanted") (tVar 1)) σ H (.int (S.wanted.getD p 0)) := fun a b => val_ixL (m.vw T a) b m.w (map_int_get (by rw [W.lw]; exact hp))
    refine ⟨fun σ' H' => H' = H ∧ σ' = [some (.ref A.o), some (.int (p : Nat)), some (.int (placeDown1 S p x g)), some (.int g)], ?_, ?_⟩
    · unfold placeDown1
      split
      · rename_i e
        refine st_yes (ans_gt (vn (val_var rfl) (val_var rfl)) (decide_eq_true e)) ?_
        refine ⟨_, rfl, ?_⟩
        refine val_add (val_var rfl) (vb (val_var rfl) (val_var rfl)) _ ?_
        exact ⟨_, _, rfl, rfl, rfl⟩
      · rename_i e
        refine st_no (ans_gt (vn (val_var rfl) (val_var rfl)) (decide_eq_false e)) ?_
        exact ⟨rfl, rfl⟩
    · rintro σ' H' ⟨rfl, rfl⟩
      refine ⟨fun σ' H2 => H2 = H' ∧ σ' = [some (.ref A.o), some (.int (p : Nat)), some (.int (placeDown S p x g).1), some (.int (placeDown S p x g).2)], ?_, ?_⟩
      · show tIfS _ _ _ _ _ _
        unfold placeDown placeDown2
        generalize placeDown1 S p x g = y
        simp only []
        split
        · rename_i e
          refine st_yes ((ans_lt (vn (val_var rfl) (val_var rfl)) (vw (val_var rfl) (val_var rfl))).to (decide_eq_true e)) ?_
          refine ⟨_, rfl, ?_⟩
          refine val_sub (val_var rfl) (vb (val_var rfl) (val_var rfl)) _ ?_
          exact ⟨_, _, rfl, rfl, rfl⟩
        · rename_i e
          refine st_no ((ans_lt (vn (val_var rfl) (val_var rfl)) (vw (val_var rfl) (val_var rfl))).to (decide_eq_false e)) ?_
          exact ⟨rfl, rfl⟩
      · rintro σ' H' ⟨rfl, rfl⟩
        exact ⟨_, rfl, _, rfl, by show 2 ≤ sizeLine; decide, q⟩
end
end WS
set_option Elab.async false
set_option linter.all false
set_option maxRecDepth 100000
set_option maxHeartbeats 4000000
namespace WS
open PySem PySem.Spec PyProof.Rows L2
structure TwoAt (H : Hp) (a b : Addr) (hs ps : List Int) : Prop where
  a : H a = some (.lst (hs.map V.int))
  b : H b = some (.lst (ps.map V.int))
theorem TwoAt.new {H : Hp} {a b t : Addr} {hs ps : List Int} {o : HO} (x : TwoAt H a b hs ps) (h : H t = none) : TwoAt (upd H t o) a b hs ps := ⟨by rw [upd_ne (ne_of_none x.a h)]; exact x.a, by rw [upd_ne (ne_of_none x.b h)]; exact x.b⟩
theorem TwoAt.k0 {H H' : Hp} {a b : Addr} {hs ps : List Int} (x : TwoAt H a b hs ps) (k : K0 H H') : TwoAt H' a b hs ps := ⟨k.get0 x.a, k.get0 x.b⟩
theorem TwoAt.setA {H : Hp} {a b : Addr} {hs ps : List Int} (x : TwoAt H a b hs ps) (ne : a ≠ b) (i : Nat) (z : Int) : TwoAt (upd H a (.lst ((hs.map V.int).set i (.int z)))) a b (hs.set i z) ps := ⟨by rw [upd_same, List.map_set], by rw [upd_ne ne.symm]; exact x.b⟩
theorem TwoAt.setB {H : Hp} {a b : Addr} {hs ps : List Int} (x : TwoAt H a b hs ps) (ne : a ≠ b) (i : Nat) (z : Int) : TwoAt (upd H b (.lst ((ps.map V.int).set i (.int z)))) a b hs (ps.set i z) := ⟨by rw [upd_ne ne]; exact x.a, by rw [upd_same, List.map_set]⟩
section
variable {P : Program} {w : World} {K : PySem.W.Frag} {mg : Str → Option Value} {base : Heap} {CM CH CV LP : Addr}
def spLevelled (CM : Addr) : Sp := fun vs H Q _ => ∃ (A : MA) (S : Man) (a b : Addr) (hs ps : List Int) (g : Int) (η π : Nat → Int) (γ : Int), vs = [.ref A.o, .ref a, .ref b, .int g] ∧ ManO CM H A S ∧ Wf S ∧ Fea S η π γ ∧ Lo S η π γ hs ps g ∧
  TwoAt H a b hs ps ∧ ∀ (H' : Hp) (t a' b' : Addr) (hs' ps' : List Int) (g' : Int), K0 H H' → H' t = some (.tup [.ref a', .ref b', .int g']) → TwoAt H' a' b' hs' ps' → Lo S η π γ hs' ps' g' → Dn hs ps g hs' ps' g' → Q (.ref t) H'
abbrev n_Manning_levelled : List Str := ["self", "hands", "places", "ground", "hand", "place"]
theorem sc_Manning_levelled : FnScope n_Manning_levelled ["self", "hands", "places", "ground"] (C8.fnScope s_Manning_levelled) := ⟨rfl, rfl, rfl, by decide +kernel, rfl, by decide +kernel, by decide +kernel⟩
theorem met_levelled (T : Txt K mg CM CH CV LP) (h : HasMeth K CM "levelled" "Manning.levelled" s_Manning_levelled ["self", "hands", "places", "ground"]) (c_hand_down : C8.Met P w K mg base 1 CM "hand_down" (spHandDown CM) []) (c_place_down : C8.Met P w K mg base 1 CM "place_down" (spPlaceDown CM) [])
    (c_fit_places : C8.Met P w K mg base 1 CM "fit_places" (spFitPlaces CM) []) : C8.Met P w K mg base 2 CM "levelled" (spLevelled CM) [] := by
  refine mkMet h sc_Manning_levelled (fun vs H Q E hh => ?_) (fun fa cdv Ar outer s H vs Q E hr hh => ?_)
  · obtain ⟨A, S, a, b, hs, ps, g, η, π, γ, rfl, _⟩ := hh
    rfl
  · obtain ⟨A, S, a, b, hs, ps, g, η, π, γ, rfl, m, W, F, L, tw, q⟩ := hh
    refine ⟨_, (pss_cons (ps_par (i := 1) (j := 2) rfl sc_Manning_levelled.nd rfl rfl (by decide) rfl rfl (pa_cons (pe_callTy (call_lstK (K := K) rfl) (by rfl) T.m_list (by decide +kernel) (pa_cons (pv 1) pa_nil)) (pa_cons (pe_callTy (call_lstK (K := K) rfl) (by rfl) T.m_list (by decide +kernel) (pa_cons (pv 2) pa_nil)) pa_nil)) (by rfl))
      (C8.pss_cut (ps_for PassesOwn.never rfl (pi_range1 rfl T.m_range (pa_cons (pe_callB (call_lenK (K := K) rfl) (by rfl) T.m_len (by decide +kernel) (pa_cons (pv 1) pa_nil)) pa_nil)) (pg_name (i := 4) sc_Manning_levelled.nd rfl (loc_by rfl)) (pss_cons (ps_asg (C8.pe_mt c_hand_down hr (by decide) (pv 0) (pa_cons (pv 4) (pa_cons (pv 1) (pa_cons (pv 3) (pa_cons (pv 2) pa_nil))))) (pg_tup rfl (pgs_cons (pg_sub (pv 1) (pv 4) set_list) (pgs_cons (pg_name (i := 3) sc_Manning_levelled.nd rfl (loc_by rfl)) pgs_nil))))
      (pss_one (ps_for PassesOwn.never rfl (pi_list (C8.pe_mt c_fit_places hr (by decide) (pv 0) (pa_cons (pv 4) pa_nil))) (pg_name (i := 5) sc_Manning_levelled.nd rfl (loc_by rfl)) (pss_one (ps_asg (pe_callB (call_min2 rfl) (by rfl) T.m_min (by decide +kernel) (pa_cons (pe_ix (ix_listK (K := K) rfl) (pv 2) (pv 5) (fun _ _ => rfl)) (pa_cons (pe_op op_add (pe_ix (ix_listK (K := K) rfl) (pv 1) (pv 4) (fun _ _ => rfl)) (pe_ix (ix_listK (K := K) rfl) (pe_ix (ix_listK (K := K) rfl) (pe_fldK (K := K) rfl (pv 0) rfl) (pv 4) (fun _ _ => rfl)) (pv 5) (fun _ _ => rfl))) pa_nil))) (pg_sub (pv 2) (pv 5) set_list)))))))
      (pss_cons (ps_for PassesOwn.never rfl (pi_range1 rfl T.m_range (pa_cons (pe_callB (call_lenK (K := K) rfl) (by rfl) T.m_len (by decide +kernel) (pa_cons (pv 2) pa_nil)) pa_nil)) (pg_name (i := 5) sc_Manning_levelled.nd rfl (loc_by rfl)) (pss_one (ps_asg (C8.pe_mt c_place_down hr (by decide) (pv 0) (pa_cons (pv 5) (pa_cons (pe_ix (ix_listK (K := K) rfl) (pv 2) (pv 5) (fun _ _ => rfl)) (pa_cons (pv 3) pa_nil)))) (pg_tup rfl (pgs_cons (pg_sub (pv 2) (pv 5) set_list) (pgs_cons (pg_name (i := 3) sc_Manning_levelled.nd rfl (loc_by rfl)) pgs_nil))))))
      (pss_one (ps_ret (pe_tup (pa_cons (pv 1) (pa_cons (pv 2) (pa_cons (pv 3) pa_nil))))))))), ?_⟩
    refine ⟨_, rfl, a, _, rfl, .inl (.of tw.a), fun p1 hp1 => ?_⟩
    refine ⟨_, rfl, b, _, rfl, .inl (.of (tw.new hp1).b), fun p2 hp2 => ?_⟩
    refine ⟨_, _, rfl, ?_⟩
    have np12 : p1 ≠ p2 := ne_of_none upd_same hp2
    have t2 : TwoAt (upd (upd H p1 (.lst (hs.map V.int))) p2 (.lst (ps.map V.int))) p1 p2 hs ps := ⟨by rw [upd_ne np12, upd_same], upd_same⟩
    have k0 : K0 H (upd (upd H p1 (.lst (hs.map V.int))) p2 (.lst (ps.map V.int))) := (Kp.new hp1).then_new hp2
    have hp2' : H p2 = none := (Kp.new (S := fun _ => False) hp1).fr _ hp2
    generalize upd (upd H p1 (.lst (hs.map V.int))) p2 (.lst (ps.map V.int)) = H1 at t2 k0
    have m1 := m.keep0 k0
    have o1 := m.off hp1
    have o2 := m.off hp2'
    have hU : ∀ b, (b = p1 ∨ b = p2) → A.Off b := fun b hb => by
      rcases hb with rfl | rfl
      · exact o1
      · exact o2
    have kset1 : ∀ {H2 : Hp} {o : HO} {xs : List V}, H2 p1 = some (.lst xs) → Kp (fun b => b = p1 ∨ b = p2) H2 (upd H2 p1 (.lst (o |> fun _ => xs))) := fun h => .set (.inl rfl) h (fun _ z => by cases z) (fun _ z => by cases z)
    have Wn := W.nh
    have Wp := W.np
    refine ⟨fun σ' H' => ∃ hs' ps' g' x4 x5, σ' = [some (.ref A.o), some (.ref p1), some (.ref p2), some (.int g'), x4, x5] ∧ Kp (fun b => b = p1 ∨ b = p2) H1 H' ∧ TwoAt H' p1 p2 hs' ps' ∧ Lo S η π γ hs' ps' g' ∧ Dn hs ps g hs' ps' g', ?_, ?_⟩
    · refine ⟨_, rfl, _, _, rfl, .inl (.of t2.a), ?_⟩
      refine ⟨_, rfl, by rw [List.length_map, L.lh]; omega, by rw [List.length_map, L.lh]; omega, ?_⟩
      rw [List.length_map, Int.toNat_natCast]
      refine for_range (lo := 0) (n := hs.length) (fun i σ H' => ∃ hs' ps' g' x4 x5, σ = [some (.ref A.o), some (.ref p1), some (.ref p2), some (.int g'), x4, x5] ∧ Kp (fun b => b = p1 ∨ b = p2) H1 H' ∧ TwoAt H' p1 p2 hs' ps' ∧ Lo S η π γ hs' ps' g' ∧ Dn hs ps g hs' ps' g')
        ⟨hs, ps, g, none, none, rfl, .refl _, t2, L, .refl _ _ _⟩ ?_ (fun σ H' h => h)
      rintro i σ H' hi ⟨hs1, ps1, g1, x4, x5, rfl, k, t, L1, D1⟩
      rw [L.lh] at hi
      have m' := m1.keep k hU
      obtain ⟨L2', D2'⟩ := hand_step F W L1 hi
      have ez : (0 : Int) + (i : Int) = (i : Int) := Int.zero_add _
      rw [ez]
      refine ⟨_, rfl, A.o, A.dx, _, rfl, m'.o, rfl, _, rfl, _, rfl, _, rfl, _, rfl, A, S, i, p1, p2, hs1, ps1, g1, rfl, m', W.l, hi, t.a, t.b, L1.lh, L1.lp, fun tt htt => ?_⟩
      refine ⟨tt, _, rfl, .of upd_same, rfl, _, _, rfl, _, rfl, _, rfl, p1, _, _, i, rfl, rfl, (t.new htt).a, ixNn (by rw [List.length_map, L1.lh]; exact hi), _, _, rfl, rfl, ?_⟩
      have kk := (k.then_new htt (o := .tup [.int (handDown S hs1 g1 ps1 i).1, .int (handDown S hs1 g1 ps1 i).2])).then_set (p := p1) (o' := .lst ((hs1.map V.int).set i (.int (handDown S hs1 g1 ps1 i).1))) (.inl rfl) (t.new htt).a (fun _ z => by cases z) (fun _ z => by cases z)
      have tk := (t.new htt (o := .tup [.int (handDown S hs1 g1 ps1 i).1, .int (handDown S hs1 g1 ps1 i).2])).setA np12 i (handDown S hs1 g1 ps1 i).1
      generalize upd (upd H' tt (.tup [.int (handDown S hs1 g1 ps1 i).1, .int (handDown S hs1 g1 ps1 i).2])) p1 (.lst ((hs1.map V.int).set i (.int (handDown S hs1 g1 ps1 i).1))) = H2 at kk tk
      have D3 := D1.trans D2'
      generalize hs1.set i (handDown S hs1 g1 ps1 i).1 = hs2 at L2' D3 tk
      generalize (handDown S hs1 g1 ps1 i).2 = g2 at L2' D3
      have m2 := m1.keep kk hU
      refine ⟨_, rfl, A.o, A.dx, _, rfl, m2.o, rfl, _, rfl, A, S, i, rfl, m2, W.l, hi, fun H4 pf k4 hpf hpf4 => ?_⟩
      have pf1 : pf ≠ p1 := (ne_of_none tk.a hpf).symm
      have pf2 : pf ≠ p2 := (ne_of_none tk.b hpf).symm
      refine ⟨pf, rfl, ⟨_, .of hpf4⟩, ?_⟩
      refine for_list (xs := vN (fitPl S i)) (fun j σ H' => ∃ ps' x5, σ = [some (.ref A.o), some (.ref p1), some (.ref p2), some (.int g2), some (.int (i : Nat)), x5] ∧ Kp (fun b => b = p1 ∨ b = p2) H4 H' ∧ TwoAt H' p1 p2 hs2 ps' ∧ Lo S η π γ hs2 ps' g2 ∧ Dn hs ps g hs2 ps' g2)
        ⟨ps1, x5, rfl, .refl _, tk.k0 k4, L2', D3⟩ ?_ ?_ ?_
      · rintro j σ H' hj ⟨ps', x5, rfl, k6, _⟩
        refine .of (k6.get hpf4 ?_)
        rintro (z | z)
        · exact pf1 z
        · exact pf2 z
      · rintro j v σ H5 hv ⟨ps', x5, rfl, k6, t6, L6, D6⟩
        obtain ⟨hj', hv⟩ := vN_at hv
        subst hv
        obtain ⟨hp', c, hc, hcI⟩ := fit_mem (List.getElem_mem hj')
        generalize (fitPl S i)[j] = pl at hp' hc hcI ⊢
        have m5 := (m2.keep0 k4).keep k6 hU
        obtain ⟨L7, D7⟩ := fit_step F L6 hi hp' hc
        have σ0 : ∀ {ta tb tc : TE} {σ : L2.St}, Val ta σ H5 (.ref A.o) → Val tb σ H5 (.int (i : Nat)) → Val tc σ H5 (.int (pl : Nat)) → Val (tOp (rIxL K) (tOp (rIxL K) (tFld K ta "costs") tb) tc) σ H5 (.int c) := fun a b d => by
          have z := m5.cost W.l T a b d hi hp'
          rw [hc, vOI_some] at z
          exact z
        refine val_ixL (val_var rfl) (val_var rfl) t6.b (map_int_get (by rw [L6.lp]; exact hp')) _ ?_
        refine val_add (val_ixL (val_var rfl) (val_var rfl) t6.a (map_int_get (by rw [L6.lh]; exact hi))) (σ0 (val_var rfl) (val_var rfl) (val_var rfl)) _ ?_
        refine ⟨_, _, rfl, ?_⟩
        refine ⟨_, rfl, _, rfl, p2, _, _, pl, rfl, rfl, t6.b, ixNn (by rw [List.length_map, L6.lp]; exact hp'), ?_⟩
        exact ⟨_, _, rfl, k6.then_set (.inr rfl) t6.b (fun _ z => by cases z) (fun _ z => by cases z), t6.setB np12 pl _, L7, D6.trans D7⟩
      · rintro σ H' ⟨ps', x5, rfl, k6, t6, L6, D6⟩
        exact ⟨hs2, ps', g2, _, _, rfl, (kk.trans k4.up).trans k6, t6, L6, D6⟩
    · rintro σ H' ⟨hs1, ps1, g1, x4, x5, rfl, k, t, L1, D1⟩
      refine ⟨_, rfl, _, _, rfl, .inl (.of t.b), ?_⟩
      refine ⟨_, rfl, by rw [List.length_map, L1.lp]; omega, by rw [List.length_map, L1.lp]; omega, ?_⟩
      rw [List.length_map, Int.toNat_natCast]
      refine for_range (lo := 0) (n := ps1.length) (fun i σ H' => ∃ ps' g' x4 x5, σ = [some (.ref A.o), some (.ref p1), some (.ref p2), some (.int g'), x4, x5] ∧ Kp (fun b => b = p1 ∨ b = p2) H1 H' ∧ TwoAt H' p1 p2 hs1 ps' ∧ Lo S η π γ hs1 ps' g' ∧ Dn hs ps g hs1 ps' g')
        ⟨ps1, g1, x4, x5, rfl, k, t, L1, D1⟩ ?_ ?_
      · rintro i σ H' hi ⟨ps2, g2, x4, x5, rfl, k, t, L2', D2'⟩
        rw [L1.lp] at hi
        have m' := m1.keep k hU
        obtain ⟨L3, D3⟩ := place_step F L2' hi
        have ez : (0 : Int) + (i : Int) = (i : Int) := Int.zero_add _
        rw [ez]
        refine ⟨_, rfl, A.o, A.dx, _, rfl, m'.o, rfl, _, rfl, ?_⟩
        refine val_ixL (val_var rfl) (val_var rfl) t.b (map_int_get (by rw [L2'.lp]; exact hi)) _ ?_
        refine ⟨_, rfl, A, S, i, ps2.getD i 0, g2, rfl, m', W.l, hi, fun tt htt => ?_⟩
        refine ⟨tt, _, rfl, .of upd_same, rfl, _, _, rfl, _, rfl, _, rfl, p2, _, _, i, rfl, rfl, (t.new htt).b, ixNn (by rw [List.length_map, L2'.lp]; exact hi), _, _, rfl, rfl, ?_⟩
        exact ⟨_, _, _, _, rfl, (k.then_new htt).then_set (.inr rfl) (t.new htt).b (fun _ z => by cases z) (fun _ z => by cases z), (t.new htt).setB np12 i _, L3, D2'.trans D3⟩
      · rintro σ H' ⟨ps2, g2, x4, x5, rfl, k, t, L2', D2'⟩
        refine ⟨_, rfl, _, rfl, _, rfl, by show 3 ≤ sizeLine; decide, fun tt htt => ?_⟩
        refine q _ tt p1 p2 hs1 ps2 g2 ?_ upd_same (t.new htt) L2' D2'
        refine ((k0.up.trans k).drop fun b o e z => ?_).then_new htt
        rcases z with rfl | rfl
        · rw [hp1] at e; cases e
        · rw [hp2'] at e; cases e
end
end WS
set_option Elab.async false
set_option linter.all false
set_option maxRecDepth 100000
set_option maxHeartbeats 4000000
namespace WS
open PySem PySem.Spec PyProof.Rows L2
def dNow (hs ps : List Int) (g : Int) : PyData := .tuple [.list (hs.map .int), .list (ps.map .int), .int g]
theorem lay_ints : ∀ (ns : List Int), PyData.canLayAll0 (ns.map .int) = true
  | [] => rfl
  | n :: ns => by
    show (PyData.canLay0 (.int n) && PyData.canLayAll0 (ns.map .int)) = true
    rw [lay_ints ns]; rfl
theorem deep_ints : ∀ (ns : List Int), PyData.depthAll (ns.map .int) = 0
  | [] => rfl
  | n :: ns => by
    show max (PyData.depth (.int n)) (PyData.depthAll (ns.map .int)) = 0
    rw [deep_ints ns]; rfl
theorem shaped_now (hs ps : List Int) (g : Int) : SeqAt.shaped (dNow hs ps g) = true := by
  unfold SeqAt.shaped
  rw [Bool.and_eq_true]
  refine ⟨?_, decide_eq_true ?_⟩
  · show (PyData.canLayAll0 (hs.map .int) && (PyData.canLayAll0 (ps.map .int) && (true && true))) = true
    rw [lay_ints, lay_ints]; rfl
  · show max (PyData.depthAll (hs.map .int) + 1) (max (PyData.depthAll (ps.map .int) + 1) (max 0 0)) + 1 ≤ 64
    rw [deep_ints, deep_ints]; decide
structure NowAt (H : Hp) (t : Addr) (hs ps : List Int) (g : Int) : Prop where
  ex : ∃ a b, H t = some (.tup [.ref a, .ref b, .int g]) ∧ TwoAt H a b hs ps
theorem NowAt.k0 {H H' : Hp} {t : Addr} {hs ps : List Int} {g : Int} (x : NowAt H t hs ps g) (k : K0 H H') : NowAt H' t hs ps g := by
  obtain ⟨a, b, h, t⟩ := x.ex
  exact ⟨a, b, k.get0 h, t.k0 k⟩
theorem NowAt.dp {K : PySem.W.Frag} {H : Hp} {t : Addr} {hs ps : List Int} {g : Int} (x : NowAt H t hs ps g) : Dp K H (.ref t) (dNow hs ps g) := by
  obtain ⟨a, b, h, tw⟩ := x.ex
  exact .tup (.of h) (.cons (.lst (.of tw.a) (ImAll.of_ints hs).dp) (.cons (.lst (.of tw.b) (ImAll.of_ints ps).dp) (.cons (.int g) .nil)))
theorem rep_getD (n : Nat) (x : Int) (i : Nat) (h : i < n) : (List.replicate n x).getD i 0 = x := by simp [h]
section
variable {P : Program} {w : World} {K : PySem.W.Frag} {mg : Str → Option Value} {base : Heap} {CM CH CV LP : Addr}
def spPaper (CM : Addr) : Sp := fun vs H Q _ => ∃ (A : MA) (S : Man), vs = [.ref A.o] ∧ ManO CM H A S ∧ Wf S ∧ (∃ π, Pot S π 0) ∧ ∀ (H' : Hp) (p : Addr), K0 H H' → Q (.ref p) H'
abbrev n_Manning_paper : List Str := ["self", "now", "behind", "hands", "places", "ground", "prices", "height", "bounty"]
theorem sc_Manning_paper : FnScope n_Manning_paper ["self"] (C8.fnScope s_Manning_paper) := ⟨rfl, rfl, rfl, by decide +kernel, rfl, by decide +kernel, by decide +kernel⟩
theorem met_paper (T : Txt K mg CM CH CV LP) (h : HasMeth K CM "paper" "Manning.paper" s_Manning_paper ["self"]) (c_levelled : C8.Met P w K mg base 2 CM "levelled" (spLevelled CM) []) : C8.Met P w K mg base 3 CM "paper" (spPaper CM) [] := by
  refine mkMet h sc_Manning_paper (fun vs H Q E hh => ?_) (fun fa cdv Ar outer s H vs Q E hr hh => ?_)
  · obtain ⟨A, S, rfl, _⟩ := hh
    rfl
  · obtain ⟨A, S, rfl, m, W, ⟨π0, Po⟩, q⟩ := hh
    have hu64 := hu64_of hr
    refine ⟨_, (pss_cons (ps_set (i := 1) sc_Manning_paper.nd rfl (loc_by rfl) (pe_tup (pa_cons (pe_op op_rep (pe_lst (pa_cons pe_int pa_nil)) (pe_callB (call_lenK (K := K) rfl) (by rfl) T.m_len (by decide +kernel) (pa_cons (pe_fldK (K := K) rfl (pv 0) rfl) pa_nil))) (pa_cons (pe_op op_rep (pe_lst (pa_cons pe_int pa_nil)) (pe_callB (call_lenK (K := K) rfl) (by rfl) T.m_len (by decide +kernel) (pa_cons (pe_fldK (K := K) rfl (pv 0) rfl) pa_nil))) (pa_cons pe_int pa_nil)))))
      (pss_cons (ps_set (i := 2) sc_Manning_paper.nd rfl (loc_by rfl) (C8.pe_mt c_levelled hr (by decide) (pv 0) (pa_cons (pe_ix (ix_tupK (K := K) rfl) (pv 1) pe_int (fun _ _ => rfl)) (pa_cons (pe_ix (ix_tupK (K := K) rfl) (pv 1) pe_int (fun _ _ => rfl)) (pa_cons (pe_ix (ix_tupK (K := K) rfl) (pv 1) pe_int (fun _ _ => rfl)) pa_nil)))))
      (C8.pss_cut (ps_while PassesOwn.never (pt_cmpR (op_neD hu64) (pv 2) (pv 1) (nomark _)) (pss_cons (ps_set (i := 1) sc_Manning_paper.nd rfl (loc_by rfl) (pv 2))
      (pss_one (ps_set (i := 2) sc_Manning_paper.nd rfl (loc_by rfl) (C8.pe_mt c_levelled hr (by decide) (pv 0) (pa_cons (pe_ix (ix_tupK (K := K) rfl) (pv 1) pe_int (fun _ _ => rfl)) (pa_cons (pe_ix (ix_tupK (K := K) rfl) (pv 1) pe_int (fun _ _ => rfl)) (pa_cons (pe_ix (ix_tupK (K := K) rfl) (pv 1) pe_int (fun _ _ => rfl)) pa_nil))))))))
      (pss_cons (ps_asg (pv 1) (pg_tup rfl (pgs_cons (pg_name (i := 3) sc_Manning_paper.nd rfl (loc_by rfl)) (pgs_cons (pg_name (i := 4) sc_Manning_paper.nd rfl (loc_by rfl)) (pgs_cons (pg_name (i := 5) sc_Manning_paper.nd rfl (loc_by rfl)) pgs_nil)))))
      (pss_cons (ps_setLc (i := 6) (own := [("height", 7), ("bounty", 8)]) (g := (gTup K 2 (gCons (gName 7) (gCons (gName 8) gNil)))) (tt := tYes) rfl sc_Manning_paper.nd rfl rfl (sw_true rfl rfl rfl (by decide +kernel)) (RZ.pi_zipA rfl T.m_zip (pa_cons (pv 4) (pa_cons (pe_fldK (K := K) rfl (pv 0) rfl) pa_nil))) (blkOk_by (own := [("height", 7), ("bounty", 8)]) (N := n_Manning_paper) (sc := C8.fnScope s_Manning_paper) (by decide +kernel)) (fun _ _ _ _ _ => (pg_tup rfl (pgs_cons (pg_name (i := 7) sc_Manning_paper.nd rfl (loc_by rfl)) (pgs_cons (pg_name (i := 8) sc_Manning_paper.nd rfl (loc_by rfl)) pgs_nil)))) (fun _ _ _ _ _ => pts_nil) (fun _ _ _ _ _ => (pe_callB (call_min2 rfl) (by rfl) T.m_min (by decide +kernel) (pa_cons (pe_op op_sub (pv 7) (pv 5)) (pa_cons (pv 8) pa_nil)))))
      (pss_one (ps_ret (pe_tup (pa_cons (pe_callTy (call_tupK (K := K) rfl) (by rfl) T.m_tuple (by decide +kernel) (pa_cons (pv 6) pa_nil)) (pa_cons (pe_callTy (call_tupK (K := K) rfl) (by rfl) T.m_tuple (by decide +kernel) (pa_cons (pe_lc (own := [("height", 7)]) (g := (gName 7)) (tt := tYes) rfl sc_Manning_paper.nd (pi_list (pv 3)) (blkOk_by (own := [("height", 7)]) (N := n_Manning_paper) (sc := C8.fnScope s_Manning_paper) (by decide +kernel)) (fun _ _ _ _ _ => (pg_name (i := 7) sc_Manning_paper.nd rfl (loc_by rfl))) (fun _ _ _ _ _ => pts_nil) (fun _ _ _ _ _ => (pe_callB (call_max2 rfl) (by rfl) T.m_max (by decide +kernel) (pa_cons pe_int (pa_cons (pe_op op_sub (pv 7) (pv 5)) pa_nil))))) pa_nil)) pa_nil)))))))))), ?_⟩
    obtain ⟨η, π, γ, F, hη, hπ, hγ⟩ := fea_of_pot W Po
    have Wn : S.spots.length ≤ 1000 := W.nh
    have Wp : S.named.length ≤ 1000 := W.np
    -- now
    refine ⟨by show 1 ≤ sizeLine; decide, fun p hp => ?_⟩
    have m1 := m.keep0 (.new hp (o := .lst [V.int 0]))
    refine m1.vs T (val_var rfl) _ ?_
    refine ⟨_, _, rfl, .inl (.of m1.s), ?_⟩
    rw [List.length_map]
    refine ⟨_, _, _, rfl, rfl, upd_same, by omega, by omega, le_line (by simp; omega), fun a ha => ?_⟩
    rw [rep1, Int.toNat_natCast]
    have k1 : K0 H (upd (upd H p (.lst [V.int 0])) a (.lst (List.replicate S.spots.length (V.int 0)))) := (Kp.new hp).then_new ha
    have ha1 : upd (upd H p (.lst [V.int 0])) a (.lst (List.replicate S.spots.length (V.int 0))) a = some (.lst ((List.replicate S.nh (0 : Int)).map V.int)) := by rw [upd_same, List.map_replicate]; rfl
    generalize upd (upd H p (.lst [V.int 0])) a (.lst (List.replicate S.spots.length (V.int 0))) = H1 at k1 ha1
    refine ⟨by show 1 ≤ sizeLine; decide, fun p2 hp2 => ?_⟩
    have m2 := (m.keep0 k1).keep0 (.new hp2 (o := .lst [V.int 0]))
    refine m2.vn T (val_var rfl) _ ?_
    refine ⟨_, _, rfl, .inl (.of m2.n), ?_⟩
    rw [List.length_map]
    refine ⟨_, _, _, rfl, rfl, upd_same, by omega, by omega, le_line (by simp; omega), fun b hb => ?_⟩
    rw [rep1, Int.toNat_natCast]
    have k2' : K0 H1 (upd (upd H1 p2 (.lst [V.int 0])) b (.lst (List.replicate S.named.length (V.int 0)))) := (Kp.new hp2).then_new hb
    have hb2 : upd (upd H1 p2 (.lst [V.int 0])) b (.lst (List.replicate S.named.length (V.int 0))) b = some (.lst ((List.replicate S.np (0 : Int)).map V.int)) := by rw [upd_same, List.map_replicate]; rfl
    have ha2 := k2'.get0 ha1
    have k2 := k1.trans k2'
    generalize upd (upd H1 p2 (.lst [V.int 0])) b (.lst (List.replicate S.named.length (V.int 0))) = H2 at k2 hb2 ha2
    refine ⟨by show 3 ≤ sizeLine; decide, fun t ht => ?_⟩
    have k3 := k2.then_new ht (o := .tup [.ref a, .ref b, .int 0])
    have t3 : TwoAt (upd H2 t (.tup [.ref a, .ref b, .int 0])) a b (List.replicate S.nh 0) (List.replicate S.np 0) := (TwoAt.mk ha2 hb2).new ht
    have ht3 : upd H2 t (.tup [.ref a, .ref b, .int 0]) t = some (.tup [.ref a, .ref b, .int 0]) := upd_same
    generalize upd H2 t (.tup [.ref a, .ref b, .int 0]) = H3 at k3 t3 ht3
    have L0 : Lo S η π γ (List.replicate S.nh 0) (List.replicate S.np 0) 0 := ⟨by simp, by simp, fun i hi => by rw [rep_getD _ _ _ hi]; exact hη i hi, fun i hi => by rw [rep_getD _ _ _ hi]; exact hπ i hi, hγ⟩
    have m3 := m.keep0 k3
    -- levelled, first
    refine ⟨_, rfl, A.o, A.dx, _, rfl, m3.o, rfl, _, rfl, t, _, _, _, rfl, rfl, .of ht3, rfl, _, rfl, t, _, _, _, rfl, rfl, .of ht3, rfl, _, rfl, t, _, _, _, rfl, rfl, .of ht3, rfl,
      A, S, a, b, _, _, 0, η, π, γ, rfl, m3, W, F, L0, t3, fun H4 t2 a2 b2 hs2 ps2 g2 k4 ht4 tw4 L4 D4 => ?_⟩
    refine ⟨fun σ' H' => ∃ t1 t2 hs ps g, σ' = [some (.ref A.o), some (.ref t1), some (.ref t2), none, none, none, none, none, none] ∧ K0 H H' ∧ NowAt H' t1 hs ps g ∧ Lo S η π γ hs ps g, ?_, ?_⟩
    · refine ⟨fun mm σ' H' => ∃ t1 t2 hs1 ps1 g1 hs2 ps2 g2, σ' = [some (.ref A.o), some (.ref t1), some (.ref t2), none, none, none, none, none, none] ∧ K0 H H' ∧ NowAt H' t1 hs1 ps1 g1 ∧ NowAt H' t2 hs2 ps2 g2 ∧
          Lo S η π γ hs1 ps1 g1 ∧ Lo S η π γ hs2 ps2 g2 ∧ Dn hs1 ps1 g1 hs2 ps2 g2 ∧ mm = muL S η π γ hs1 ps1 g1, ⟨_, t, t2, _, _, _, hs2, ps2, g2, rfl, k3.trans k4, ⟨a, b, k4.get0 ht3, t3.k0 k4⟩, ⟨a2, b2, ht4, tw4⟩, L0, L4, D4, rfl⟩, ?_⟩
      rintro mm σ' H' ⟨t1, t2, hs1, ps1, g1, hs2, ps2, g2, rfl, k, n1, n2, L1, L2', D', rfl⟩
      refine ⟨_, rfl, _, rfl, _, _, n2.dp, n1.dp, shaped_now _ _ _, shaped_now _ _ _, _, rfl, ?_⟩
      cases hc : PyData.eqv (dNow hs2 ps2 g2) (dNow hs1 ps1 g1) with
      | true =>
        refine if_false_of rfl ?_
        exact ⟨t1, t2, hs1, ps1, g1, rfl, k, n1, L1⟩
      | false =>
        refine if_true_of rfl ?_
        have ne : ¬ (hs2 = hs1 ∧ ps2 = ps1 ∧ g2 = g1) := fun ⟨e1, e2, e3⟩ => by
          subst e1 e2 e3
          rw [SeqAt.eqv_refl _ (SeqAt.canLay_of_shaped (shaped_now _ _ _))] at hc
          cases hc
        have hlt := muL_lt L1 L2' D' ne
        refine ⟨fun σ' H2 => ∃ m', m' < muL S η π γ hs1 ps1 g1 ∧ _, fun _ _ h => h, ?_⟩
        obtain ⟨a2, b2, ht2, tw2⟩ := n2.ex
        have m' := m.keep0 k
        refine ⟨_, rfl, _, rfl, A.o, A.dx, _, rfl, m'.o, rfl, _, rfl, t2, _, _, _, rfl, rfl, .of ht2, rfl, _, rfl, t2, _, _, _, rfl, rfl, .of ht2, rfl, _, rfl, t2, _, _, _, rfl, rfl, .of ht2, rfl,
          A, S, a2, b2, _, _, g2, η, π, γ, rfl, m', W, F, L2', tw2, fun H5 t5 a5 b5 hs5 ps5 g5 k5 ht5 tw5 L5 D5 => ?_⟩
        exact ⟨_, hlt, t2, t5, hs2, ps2, g2, hs5, ps5, g5, rfl, k.trans k5, n2.k0 k5, ⟨a5, b5, ht5, tw5⟩, L2', L5, D5, rfl⟩
    · rintro σ' H5 ⟨t1, t2, hs, ps, g, rfl, k, n1, L1⟩
      obtain ⟨a, b, ht, tw⟩ := n1.ex
      refine ⟨_, rfl, t1, _, rfl, .of ht, rfl, _, _, rfl, _, _, rfl, _, _, rfl, rfl, ?_⟩
      have m5 := m.keep0 k
      refine ⟨_, rfl, ?_⟩
      refine m5.vb T (val_var rfl) _ ?_
      refine ⟨b, A.lb, _, _, rfl, .inl ⟨.of tw.b, .of m5.b, fun D hD => ?_⟩⟩
      refine lc_pure (n := min (ps.map V.int).length (S.bounty.map V.int).length) (walk_zip (K := K) rfl) (fun _ _ _ => True) (fun _ => true) hD (by rw [List.length_map, L1.lp]; have : S.np ≤ 1000 := W.np; omega) (fun _ _ _ _ _ _ => trivial) (fun H2 k2 => ⟨SqL.of (k2.get0 tw.b), SqL.of (k2.get0 m5.b)⟩) ?_ ?_
      · rintro j x H6 H7 hj k6 ⟨T0, x, y, rfl, hT, rfl, hx, hy⟩ Post Skip hP hS
        have hj1 : j < ps.length := by rw [List.length_map, List.length_map] at hj; omega
        have hj2 : j < S.bounty.length := by rw [List.length_map, List.length_map] at hj; omega
        have hx : (ps.map V.int)[j]? = some x := hx
        have hy : (S.bounty.map V.int)[j]? = some y := hy
        rw [map_int_get hj1] at hx
        rw [map_int_get hj2] at hy
        cases hx
        cases hy
        refine ⟨T0, _, rfl, .of upd_same, rfl, _, _, rfl, _, _, rfl, rfl, rfl, ?_⟩
        refine ⟨_, rfl, _, rfl, _, _, rfl, rfl, _, rfl, _, _, rfl, hP rfl _ _ (.new hT) trivial⟩
      · intro H6 acc k6 hacc hp
        refine ⟨_, rfl, D, acc, rfl, .inl ⟨.of hacc, fun p7 hp7 => ?_⟩⟩
        have k7 := (k.trans k6).then_new hp7 (o := .tup acc)
        refine ⟨_, rfl, a, rfl, ⟨_, .of (((k6.then_new hp7)).get0 tw.a)⟩, fun D2 hD2 => ?_⟩
        refine lc_pure (n := (hs.map V.int).length) (walk_list (K := K)) (fun _ _ _ => True) (fun _ => true) hD2 (by rw [List.length_map, L1.lh]; have : S.nh ≤ 1000 := W.nh; omega) (fun _ _ _ _ _ _ => trivial) (fun H2 k2 => SqL.of (k2.get0 ((k6.then_new hp7).get0 tw.a))) ?_ ?_
        · rintro j x H8 H9 hj k8 ⟨rfl, hx⟩ Post Skip hP hS
          rw [List.length_map] at hj
          rw [map_int_get hj] at hx
          cases hx
          refine ⟨rfl, ?_⟩
          refine ⟨_, rfl, _, rfl, _, _, rfl, rfl, _, _, rfl, hP rfl _ _ (.refl _) trivial⟩
        · intro H8 acc2 k8 hacc2 _
          refine ⟨D2, acc2, rfl, .inl ⟨.of hacc2, fun p9 hp9 => ?_⟩⟩
          refine ⟨by show 2 ≤ sizeLine; decide, fun p10 hp10 => q _ p10 (((k7.trans k8).then_new hp9).then_new hp10)⟩
end
end WS
set_option Elab.async false
set_option linter.all false
set_option maxRecDepth 100000
set_option maxHeartbeats 4000000
namespace WS
open PySem PySem.Spec PyProof.Rows L2
def startMan (hands : List Hand) (lot : List Place) (stood : List (Option Str)) : Man :=
  ⟨lot.map (·.many), lot.map (fun p => lackOf p.grade), (hands.zip stood).map fun z => costsOf z.1 lot z.2, List.replicate hands.length none, List.replicate lot.length 0⟩
def dHands (hands : List Hand) : PyData := .tuple (hands.map dHand)
theorem map_getQ {α β : Type} {l : List α} {f : α → β} {i : Nat} {b : β} (h : (l.map f)[i]? = some b) : ∃ a, l[i]? = some a ∧ b = f a := by
  rw [List.getElem?_map] at h
  obtain ⟨a, h1, h2⟩ := Option.map_eq_some_iff.mp h
  exact ⟨a, h1, h2.symm⟩
theorem zip_getQ {α β : Type} {l : List α} {m : List β} {i : Nat} {z : α × β} (h : (l.zip m)[i]? = some z) : l[i]? = some z.1 ∧ m[i]? = some z.2 := by
  rw [List.getElem?_zip_eq_some] at h
  exact h
theorem paired_of_get {α β : Type} {F : α → β → Prop} : ∀ {l₁ : List α} {l₂ : List β}, l₁.length = l₂.length → (∀ (i : Nat) (a : α) (b : β), l₁[i]? = some a → l₂[i]? = some b → F a b) → Paired F l₁ l₂
  | [], [], _, _ => .nil
  | [], _ :: _, h, _ => by simp at h
  | _ :: _, [], h, _ => by simp at h
  | a :: l, b :: m, h, f => .cons (f 0 a b rfl rfl) (paired_of_get (by simpa using h) fun i x y h1 h2 => f (i + 1) x y (by simpa using h1) (by simpa using h2))
def refOf : V → Addr
  | .ref a => a
  | _ => 0
theorem rows_of {α : Type} {F : Nat → Addr → Prop} {G : Addr → α → Prop} {n : Nat} {acc : List V} {xs : List α} {D : Addr} (hn : xs.length = n) (h : Paired (fun j v => ∃ a, v = .ref a ∧ a ≠ D ∧ F j a) (List.range n) acc) (hG : ∀ (j : Nat) (a : Addr) (x : α), xs[j]? = some x → F j a → G a x) :
    ∃ rows, acc = rows.map V.ref ∧ Paired G rows xs ∧ ∀ r ∈ rows, r ≠ D := by
  have hl : acc.length = n := by rw [← h.length]; simp
  refine ⟨acc.map refOf, ?_, paired_of_get (by simp [hl, hn]) fun i a x h1 h2 => ?_, fun r hr => ?_⟩
  · apply List.ext_getElem (by simp)
    intro i h1 h2
    obtain ⟨j, hj, a, e, _⟩ := WS.Paired.get_r h (List.getElem?_eq_getElem h1)
    simp only [List.map_map, List.getElem_map, Function.comp]
    rw [e]; rfl
  · obtain ⟨v, hv, rfl⟩ := map_getQ h1
    obtain ⟨j, hj, a, rfl, _, f⟩ := WS.Paired.get_r h hv
    have hi : i < n := by
      have := (List.getElem?_eq_some_iff.mp hv).1
      omega
    rw [range_getElem? hi] at hj
    cases hj
    exact hG _ _ _ h2 f
  · obtain ⟨v, hv, rfl⟩ := List.mem_map.mp hr
    obtain ⟨i, hi⟩ := List.getElem?_of_mem hv
    obtain ⟨j, hj, a, rfl, ne, _⟩ := WS.Paired.get_r h hi
    exact ne
section
variable {P : Program} {w : World} {K : PySem.W.Frag} {mg : Str → Option Value} {base : Heap} {CM CH CV LP : Addr}
def spManningInit (CM : Addr) : Sp := fun vs H Q _ => ∃ (x dx : Addr) (vh vl : V) (s : Addr) (hands : List Hand) (lot : List Place) (stood : List (Option Str)), vs = [.ref x, vh, vl, .ref s] ∧ H x = some (.ins CM dx []) ∧
  Im H vh (dHands hands) ∧ Im H vl (dLot lot) ∧ H s = some (.tup (stood.map vO)) ∧ hands.length = stood.length ∧ hands.length ≤ 1000 ∧ lot.length ≤ 1000 ∧ (∀ p ∈ lot, PlaceOk p) ∧
  ∀ (H' : Hp) (A : MA), A.o = x → Kp (fun b => b = x) H H' → ManO CM H' A (startMan hands lot stood) → H A.ls = none → H A.ln = none → Q .non H'
abbrev n_Manning_init : List Str := ["self", "hands", "lot", "stood", "place", "hand", "where"]
theorem sc_Manning_init : FnScope n_Manning_init ["self", "hands", "lot", "stood"] (C8.fnScope s_Manning_init) := ⟨rfl, rfl, rfl, by decide +kernel, rfl, by decide +kernel, by decide +kernel⟩
theorem mak_Manning (T : Txt K mg CM CH CV LP) (h : HasInit K mg "Manning" CM "Manning.__init__" s_Manning_init ["self", "hands", "lot", "stood"]) (c_lack_price : C8.Cal P w K mg base 1 "lack_price" spLackPrice []) (c_costs_of : C8.Cal P w K mg base 3 "costs_of" spCostsOf []) : C8.Mak P w K mg base 4 "Manning" CM (spManningInit CM) [] := by
  refine mkMak h sc_Manning_init (fun vs H Q E hh => ?_) (fun fa cdv Ar outer s H vs Q E hr hh => ?_)
  · obtain ⟨x, dx, vh, vl, s, hands, lot, stood, rfl, _⟩ := hh
    rfl
  · obtain ⟨x, dx, vh, vl, s, hands, lot, stood, rfl, hx, hh, hl, hs, he, l1, l2, po, q⟩ := hh
    refine ⟨_, (pss_cons (ps_fld (pv 0) (pe_lc (own := [("place", 4)]) (g := (gName 4)) (tt := tYes) rfl sc_Manning_init.nd (pi_tup (pv 2)) (blkOk_by (own := [("place", 4)]) (N := n_Manning_init) (sc := C8.fnScope s_Manning_init) (by decide +kernel)) (fun _ _ _ _ _ => (pg_name (i := 4) sc_Manning_init.nd rfl (loc_by rfl))) (fun _ _ _ _ _ => pts_nil) (fun _ _ _ _ _ => (pe_ix (ix_tupK (K := K) rfl) (pv 4) pe_int (fun _ _ => rfl)))) rfl)
      (pss_cons (ps_fld (pv 0) (pe_lc (own := [("place", 4)]) (g := (gName 4)) (tt := tYes) rfl sc_Manning_init.nd (pi_tup (pv 2)) (blkOk_by (own := [("place", 4)]) (N := n_Manning_init) (sc := C8.fnScope s_Manning_init) (by decide +kernel)) (fun _ _ _ _ _ => (pg_name (i := 4) sc_Manning_init.nd rfl (loc_by rfl))) (fun _ _ _ _ _ => pts_nil) (fun _ _ _ _ _ => (C8.pe_c c_lack_price hr (by decide) rfl (pa_cons (pe_ix (ix_tupK (K := K) rfl) (pv 4) pe_int (fun _ _ => rfl)) pa_nil)))) rfl)
      (pss_cons (ps_fld (pv 0) (pe_lc (own := [("hand", 5), ("where", 6)]) (g := (gTup K 2 (gCons (gName 5) (gCons (gName 6) gNil)))) (tt := tYes) rfl sc_Manning_init.nd (RZ.pi_zipA rfl T.m_zip (pa_cons (pv 1) (pa_cons (pv 3) pa_nil))) (blkOk_by (own := [("hand", 5), ("where", 6)]) (N := n_Manning_init) (sc := C8.fnScope s_Manning_init) (by decide +kernel)) (fun _ _ _ _ _ => (pg_tup rfl (pgs_cons (pg_name (i := 5) sc_Manning_init.nd rfl (loc_by rfl)) (pgs_cons (pg_name (i := 6) sc_Manning_init.nd rfl (loc_by rfl)) pgs_nil)))) (fun _ _ _ _ _ => pts_nil) (fun _ _ _ _ _ => (C8.pe_c c_costs_of hr (by decide) rfl (pa_cons (pv 5) (pa_cons (pv 2) (pa_cons (pv 6) pa_nil)))))) rfl)
      (pss_cons (ps_fld (pv 0) (pe_op op_rep (pe_lst (pa_cons pe_non pa_nil)) (pe_callB (call_lenK (K := K) rfl) (by rfl) T.m_len (by decide +kernel) (pa_cons (pv 1) pa_nil))) rfl)
      (pss_one (ps_fld (pv 0) (pe_op op_rep (pe_lst (pa_cons pe_int pa_nil)) (pe_callB (call_lenK (K := K) rfl) (by rfl) T.m_len (by decide +kernel) (pa_cons (pv 2) pa_nil))) rfl)))))), ?_⟩
    obtain ⟨ah, xh, rfl, hah, ihh⟩ := hh.tup_inv
    obtain ⟨al, xl, rfl, hal, ihl⟩ := hl.tup_inv
    have hxl : xl.length = lot.length := by rw [ihl.length, List.length_map]
    have hxh : xh.length = hands.length := by rw [ihh.length, List.length_map]
    -- wanted
    refine ⟨_, rfl, al, rfl, ⟨_, .of hal⟩, fun D hD => ?_⟩
    refine lc_pure (n := lot.length) (hxl ▸ walk_tup (K := K) (a := al) (xs := xl)) (fun j _ v => ∀ p, lot[j]? = some p → v = .int p.many) (fun _ => true) hD (by omega) (fun _ _ _ _ h _ => h) (fun H2 k2 => SqT.of (k2.tup hal)) ?_ ?_
    · rintro j z H2 H3 hj k2 ⟨rfl, hz⟩ Post Skip hP hS
      obtain ⟨D', hD', hi⟩ := ihl.get hz
      obtain ⟨p, hp, rfl⟩ := map_getQ hD'
      obtain ⟨b, rfl, hb⟩ := im_place.mp (hi.mono k2.tk)
      refine ⟨rfl, _, rfl, b, _, _, _, rfl, rfl, .of hb, rfl, hP rfl _ _ (.refl _) fun p' hp' => ?_⟩
      rw [hp] at hp'; cases hp'; rfl
    intro H1 acc k1 hacc hp
    rw [filter_true] at hp
    have hw1 : H1 D = some (.lst ((lot.map (·.many)).map V.int)) := by rw [hacc, paired_eq_map_range hp, List.map_map]; rfl
    refine ⟨_, rfl, x, CM, dx, _, rfl, k1.get0 hx, T.clM, T.nM _ (by simp), by show 0 < 1000; decide, ?_⟩
    have kx1 : Kp (fun b => b = x) H (upd H1 x (.ins CM dx (putF "wanted" (.ref D) []))) := k1.up.then_set rfl (k1.get0 hx) (fun _ z => by cases z) (fun _ z => by cases z)
    have hx1 : upd H1 x (.ins CM dx (putF "wanted" (.ref D) [])) x = some (.ins CM dx [("wanted", .ref D)]) := upd_same
    have hxD : D ≠ x := (ne_of_none hx hD).symm
    have hw : upd H1 x (.ins CM dx (putF "wanted" (.ref D) [])) D = some (.lst ((lot.map (·.many)).map V.int)) := by rw [upd_ne hxD]; exact hw1
    clear hacc hp k1 hw1
    generalize upd H1 x (.ins CM dx (putF "wanted" (.ref D) [])) = G1 at kx1 hx1 hw
    -- bounty
    have hal1 := kx1.tup hal
    refine ⟨_, rfl, al, rfl, ⟨_, .of hal1⟩, fun D2 hD2 => ?_⟩
    refine lc_pure (n := lot.length) (hxl ▸ walk_tup (K := K) (a := al) (xs := xl)) (fun j _ v => ∀ p, lot[j]? = some p → v = .int (lackOf p.grade)) (fun _ => true) hD2 (by omega) (fun _ _ _ _ h _ => h) (fun H2 k2 => SqT.of (k2.tup hal1)) ?_ ?_
    · rintro j z H2 H3 hj k2 ⟨rfl, hz⟩ Post Skip hP hS
      obtain ⟨D', hD', hi⟩ := ihl.get hz
      obtain ⟨p, hp, rfl⟩ := map_getQ hD'
      obtain ⟨b, rfl, hb⟩ := im_place.mp (hi.mono (kx1.tk.trans k2.tk))
      have pok := po p (List.mem_of_getElem? hp)
      refine ⟨rfl, _, rfl, b, _, _, _, rfl, rfl, .of hb, rfl, _, rfl, pok.g0, pok.g2, hP rfl _ _ (.refl _) fun p' hp' => ?_⟩
      rw [hp] at hp'; cases hp'; rfl
    intro H2 acc k2 hacc hp
    rw [filter_true] at hp
    have hb1 : H2 D2 = some (.lst ((lot.map (fun p => lackOf p.grade)).map V.int)) := by rw [hacc, paired_eq_map_range hp, List.map_map]; rfl
    refine ⟨_, rfl, x, CM, dx, _, rfl, k2.get0 hx1, T.clM, T.nM _ (by simp), by show 1 < 1000; decide, ?_⟩
    have kx2 : Kp (fun b => b = x) G1 (upd H2 x (.ins CM dx (putF "bounty" (.ref D2) [("wanted", .ref D)]))) := k2.up.then_set rfl (k2.get0 hx1) (fun _ z => by cases z) (fun _ z => by cases z)
    have hx2 : upd H2 x (.ins CM dx (putF "bounty" (.ref D2) [("wanted", .ref D)])) x = some (.ins CM dx [("wanted", .ref D), ("bounty", .ref D2)]) := upd_same
    have hxD2 : D2 ≠ x := (ne_of_none hx1 hD2).symm
    have hb : upd H2 x (.ins CM dx (putF "bounty" (.ref D2) [("wanted", .ref D)])) D2 = some (.lst ((lot.map (fun p => lackOf p.grade)).map V.int)) := by rw [upd_ne hxD2]; exact hb1
    clear hacc hp k2 hb1
    generalize upd H2 x (.ins CM dx (putF "bounty" (.ref D2) [("wanted", .ref D)])) = G2 at kx2 hx2 hb
    have hw2 := kx2.get hw hxD
    have kx12 := kx1.trans kx2
    -- costs
    refine ⟨_, rfl, _, rfl, ah, s, _, _, rfl, .inr ⟨.of (kx12.tup hah), .of (kx12.tup hs), fun D3 hD3 => ?_⟩⟩
    have hmin : min xh.length (stood.map vO).length = hands.length := by rw [hxh, List.length_map, ← he]; simp
    refine lc_gen (n := hands.length) (walk_zipT (K := K) (a := ah) (b := s) (xs := xh) (ys := stood.map vO) hmin.symm) (fun _ => False) (fun _ H => ∃ acc, H D3 = some (.lst acc)) (fun j H v => ∃ a, v = .ref a ∧ a ≠ D3 ∧ ∀ h st, hands[j]? = some h → stood[j]? = some st → H a = some (.lst ((costsOf h lot st).map vOI))) (fun _ => true)
      hD3 (fun z => z) (by omega) ⟨_, upd_same⟩ (fun _ _ _ _ _ _ => ⟨_, upd_same⟩) ?_ (fun i H _ k _ => ⟨.of (k.tup (kx12.tup hah)), .of (k.tup (kx12.tup hs))⟩) ?_ ?_
    · rintro j H3 H4 v ⟨a, rfl, ne, r⟩ k
      refine ⟨a, rfl, ne, fun h st h1 h2 => k.get (r h st h1 h2) ?_⟩
      rintro (z | z)
      · exact z
      · exact ne z
    · rintro j v H3 H4 hj k3 ⟨acc0, hacc0⟩ ⟨T0, y1, y2, rfl, hT, rfl, hy1, hy2⟩ Post Skip hP hS
      have hy1 : xh[j]? = some y1 := hy1
      have hy2 : (stood.map vO)[j]? = some y2 := hy2
      obtain ⟨D', hD', hi⟩ := ihh.get hy1
      obtain ⟨h, hh', rfl⟩ := map_getQ hD'
      obtain ⟨st, hst, rfl⟩ := map_getQ hy2
      have kk := kx12.trans ((k3.then_new hT (o := .tup [y1, vO st])).up)
      refine ⟨T0, _, rfl, .of upd_same, rfl, _, _, rfl, _, _, rfl, rfl, rfl, ?_⟩
      refine ⟨_, rfl, _, rfl, _, rfl, y1, .ref al, h, lot, st, rfl, hi.mono kk.tk, Im.tup (kk.tup hal) (ihl.mono kk.tk), l2, fun H5 p k5 hp hp5 => ?_⟩
      have hD5 := (Kp.new hT (S := fun _ => False) (o := .tup [y1, vO st])).get0 hacc0
      refine hP rfl _ _ ((Kp.new hT).trans k5) ⟨acc0, k5.get0 hD5⟩ ⟨p, rfl, (ne_of_none hD5 hp).symm, fun h' st' e1 e2 => ?_⟩
      · rw [hh'] at e1; cases e1
        rw [hst] at e2; cases e2
        exact hp5
    intro H3 acc k3 _ hacc hp
    rw [filter_true] at hp
    obtain ⟨rows, hrows, hr1, hr2⟩ := rows_of (G := fun a (row : List (Option Int)) => H3 a = some (.lst (row.map vOI))) (xs := (hands.zip stood).map fun z => costsOf z.1 lot z.2) (by simp [he]) hp (fun j a row hj h => by
      obtain ⟨z, hz, rfl⟩ := map_getQ hj
      obtain ⟨h1, h2⟩ := zip_getQ hz
      exact h _ _ h1 h2)
    subst hrows
    have n3 : ∀ r ∈ rows, r ≠ x := fun r hr e => by
      obtain ⟨row, _, e2⟩ := paired_mem_l hr1 r hr
      rw [e, k3.get hx2 (fun z => z)] at e2
      cases e2
    refine ⟨_, rfl, x, CM, dx, _, rfl, k3.get hx2 (fun z => z), T.clM, T.nM _ (by simp), by show 2 < 1000; decide, ?_⟩
    have kx3 : Kp (fun b => b = x) G2 (upd H3 x (.ins CM dx (putF "costs" (.ref D3) [("wanted", .ref D), ("bounty", .ref D2)]))) := k3.up.then_set rfl (k3.get hx2 (fun z => z)) (fun _ z => by cases z) (fun _ z => by cases z)
    have hx3 : upd H3 x (.ins CM dx (putF "costs" (.ref D3) [("wanted", .ref D), ("bounty", .ref D2)])) x = some (.ins CM dx [("wanted", .ref D), ("bounty", .ref D2), ("costs", .ref D3)]) := upd_same
    have hxD3 : D3 ≠ x := (ne_of_none hx2 hD3).symm
    have hc : upd H3 x (.ins CM dx (putF "costs" (.ref D3) [("wanted", .ref D), ("bounty", .ref D2)])) D3 = some (.lst (rows.map V.ref)) := by rw [upd_ne hxD3]; exact hacc
    have hr1 := paired_mono_mem hr1 (G := fun a (row : List (Option Int)) => upd H3 x (.ins CM dx (putF "costs" (.ref D3) [("wanted", .ref D), ("bounty", .ref D2)])) a = some (.lst (row.map vOI))) fun a ha b e => by rw [upd_ne (n3 a ha)]; exact e
    clear hacc hp k3
    generalize upd H3 x (.ins CM dx (putF "costs" (.ref D3) [("wanted", .ref D), ("bounty", .ref D2)])) = G3 at kx3 hx3 hc hr1
    have hw3 := kx3.get hw2 hxD
    have hb3 := kx3.get hb hxD2
    have kx13 := kx12.trans kx3
    -- spots
    refine ⟨by show 1 ≤ sizeLine; decide, fun p hp => ?_⟩
    refine ⟨_, rfl, ah, _, rfl, .inr (.of (((kx13.then_new hp)).tup hah)), ?_⟩
    refine ⟨_, _, _, rfl, rfl, upd_same, by omega, by omega, le_line (by simp; omega), fun ls hls => ?_⟩
    rw [rep1, Int.toNat_natCast, hxh]
    have k4 : K0 G3 (upd (upd G3 p (.lst [V.non])) ls (.lst (List.replicate hands.length V.non))) := (Kp.new hp).then_new hls
    have hls4 : upd (upd G3 p (.lst [V.non])) ls (.lst (List.replicate hands.length V.non)) ls = some (.lst ((List.replicate hands.length (none : Option Nat)).map vON)) := by rw [upd_same, List.map_replicate]; rfl
    have hls0 : G3 ls = none := (Kp.new (S := fun _ => False) hp).fr _ hls
    generalize upd (upd G3 p (.lst [V.non])) ls (.lst (List.replicate hands.length V.non)) = H4 at k4 hls4
    refine ⟨_, rfl, x, CM, dx, _, rfl, k4.get0 hx3, T.clM, T.nM _ (by simp), by show 3 < 1000; decide, ?_⟩
    have hxls : ls ≠ x := (ne_of_none hx3 hls0).symm
    have kx4 : Kp (fun b => b = x) G3 (upd H4 x (.ins CM dx (putF "spots" (.ref ls) [("wanted", .ref D), ("bounty", .ref D2), ("costs", .ref D3)]))) := k4.up.then_set rfl (k4.get0 hx3) (fun _ z => by cases z) (fun _ z => by cases z)
    have hx4 : upd H4 x (.ins CM dx (putF "spots" (.ref ls) [("wanted", .ref D), ("bounty", .ref D2), ("costs", .ref D3)])) x = some (.ins CM dx [("wanted", .ref D), ("bounty", .ref D2), ("costs", .ref D3), ("spots", .ref ls)]) := upd_same
    have hs4 : upd H4 x (.ins CM dx (putF "spots" (.ref ls) [("wanted", .ref D), ("bounty", .ref D2), ("costs", .ref D3)])) ls = some (.lst ((List.replicate hands.length (none : Option Nat)).map vON)) := by rw [upd_ne hxls]; exact hls4
    clear k4 hls4
    generalize upd H4 x (.ins CM dx (putF "spots" (.ref ls) [("wanted", .ref D), ("bounty", .ref D2), ("costs", .ref D3)])) = G4 at kx4 hx4 hs4
    have kx14 := kx13.trans kx4
    -- named
    refine ⟨by show 1 ≤ sizeLine; decide, fun p hp => ?_⟩
    refine ⟨_, rfl, al, _, rfl, .inr (.of (((kx14.then_new hp)).tup hal)), ?_⟩
    refine ⟨_, _, _, rfl, rfl, upd_same, by omega, by omega, le_line (by simp; omega), fun ln hln => ?_⟩
    rw [rep1, Int.toNat_natCast, hxl]
    have k5 : K0 G4 (upd (upd G4 p (.lst [V.int 0])) ln (.lst (List.replicate lot.length (V.int 0)))) := (Kp.new hp).then_new hln
    have hln5 : upd (upd G4 p (.lst [V.int 0])) ln (.lst (List.replicate lot.length (V.int 0))) ln = some (.lst ((List.replicate lot.length (0 : Int)).map V.int)) := by rw [upd_same, List.map_replicate]
    have hln0 : G4 ln = none := (Kp.new (S := fun _ => False) hp).fr _ hln
    generalize upd (upd G4 p (.lst [V.int 0])) ln (.lst (List.replicate lot.length (V.int 0))) = H5 at k5 hln5
    refine ⟨_, rfl, x, CM, dx, _, rfl, k5.get0 hx4, T.clM, T.nM _ (by simp), by show 4 < 1000; decide, ?_⟩
    have hxln : ln ≠ x := (ne_of_none hx4 hln0).symm
    have kx5 : Kp (fun b => b = x) G4 (upd H5 x (.ins CM dx (putF "named" (.ref ln) [("wanted", .ref D), ("bounty", .ref D2), ("costs", .ref D3), ("spots", .ref ls)]))) := k5.up.then_set rfl (k5.get0 hx4) (fun _ z => by cases z) (fun _ z => by cases z)
    have hn5 : upd H5 x (.ins CM dx (putF "named" (.ref ln) [("wanted", .ref D), ("bounty", .ref D2), ("costs", .ref D3), ("spots", .ref ls)])) ln = some (.lst ((List.replicate lot.length (0 : Int)).map V.int)) := by rw [upd_ne hxln]; exact hln5
    refine q _ ⟨x, dx, D, D2, D3, ls, ln, rows⟩ rfl (kx14.trans kx5) ⟨upd_same, kx5.get (kx4.get hw3 hxD) hxD, kx5.get (kx4.get hb3 hxD2) hxD2, kx5.get (kx4.get hc hxD3) hxD3,
      paired_mono_mem hr1 fun a ha b e => kx5.get (kx4.get e (n3 a ha)) (n3 a ha), kx5.get hs4 hxls, hn5, ?_, ?_, ?_, ?_, ?_, ?_, ?_, ?_, ?_⟩ (kx13.fr _ hls0) (kx14.fr _ hln0)
    · exact ne_of_none hw3 hls0
    · exact ne_of_none hb3 hls0
    · exact ne_of_none hc hls0
    · intro r hr
      obtain ⟨row, _, e2⟩ := paired_mem_l hr1 r hr
      exact ne_of_none e2 hls0
    · exact ne_of_none (kx4.get hw3 hxD) hln0
    · exact ne_of_none (kx4.get hb3 hxD2) hln0
    · exact ne_of_none (kx4.get hc hxD3) hln0
    · intro r hr
      obtain ⟨row, _, e2⟩ := paired_mem_l hr1 r hr
      exact ne_of_none (kx4.get e2 (n3 r hr)) hln0
    · exact ne_of_none hs4 hln0
end
end WS
set_option Elab.async false
set_option linter.all false
set_option maxRecDepth 100000
set_option maxHeartbeats 4000000
namespace WS
open PySem PySem.Spec PyProof.Rows L2
theorem lackOf_b (g : Int) : 1000 ≤ lackOf g ∧ lackOf g ≤ 100000000 := by
  unfold lackOf
  split
  · omega
  · split <;> omega
theorem mapD {α β : Type} {l : List α} {f : α → β} {i : Nat} {d : β} : (l.map f).getD i d = (match l[i]? with | some a => f a | none => d) := by
  rw [List.getD_eq_getElem?_getD, List.getElem?_map]
  cases l[i]? <;> rfl
theorem cst_start {hands : List Hand} {lot : List Place} {stood : List (Option Str)} {h p : Nat} {c : Int} (hh : ∀ h ∈ hands, HandOk h) (hp : ∀ p ∈ lot, PlaceOk p) (e : cst (startMan hands lot stood) h p = some c) : 0 ≤ c ∧ c ≤ 1000 := by
  unfold cst startMan at e
  simp only [] at e
  rw [mapD] at e
  cases hz : (hands.zip stood)[h]? with
  | none => rw [hz] at e; simp at e
  | some z =>
    rw [hz] at e
    simp only [costsOf] at e
    rw [mapD] at e
    cases hq : lot[p]? with
    | none => rw [hq] at e; simp at e
    | some q =>
      rw [hq] at e
      simp only [] at e
      split at e
      · cases e
        have hho := hh z.1 (List.mem_of_getElem? (zip_getQ hz).1)
        have hpo := hp q (List.mem_of_getElem? hq)
        have h1 := hho.r0
        have h2 := hho.r7
        have h3 := hpo.r0
        have h4 := hpo.r7
        unfold costOf shortOf
        split <;> split <;> omega
      · cases e
theorem good_startMan {hands : List Hand} {lot : List Place} {stood : List (Option Str)} (he : hands.length = stood.length) (l1 : hands.length ≤ 1000) (l2 : lot.length ≤ 1000) (hh : ∀ h ∈ hands, HandOk h) (hp : ∀ p ∈ lot, PlaceOk p) : Good (startMan hands lot stood) := by
  have enp : (startMan hands lot stood).np = lot.length := by simp [Man.np, startMan]
  have enh : (startMan hands lot stood).nh = hands.length := by simp [Man.nh, startMan]
  refine good_start (by rw [enp]; simp [startMan]) (by rw [enp]; simp [startMan]) (by rw [enh]; simp [startMan, he]) (fun r hr => ?_) (by rw [enp]; exact l2) (by rw [enh]; exact l1) (fun h p c e => cst_start hh hp e) (fun p hpp => ?_) (fun h => ?_) (fun p => ?_)
  · rw [enp]
    simp only [startMan] at hr
    obtain ⟨z, _, rfl⟩ := List.mem_map.mp hr
    simp [costsOf]
  · simp only [startMan]
    rw [mapD]
    rw [enp] at hpp
    rw [List.getElem?_eq_getElem hpp]
    exact lackOf_b _
  · simp only [startMan, List.getD_eq_getElem?_getD, List.getElem?_replicate]
    split <;> rfl
  · simp only [startMan, List.getD_eq_getElem?_getD, List.getElem?_replicate]
    split <;> rfl
theorem fill_np : ∀ {n : Nat} {S T : Man}, FillN n S T → T.np = S.np
  | _, _, _, .stop _ => rfl
  | _, _, _, .go _ f => by
    rw [fill_np f]
    simp [putAlong, Man.np]
def nameAt (lot : List Place) (i : Nat) : Str := match lot[i]? with
  | some p => p.name
  | none => Str.empty
noncomputable def manPosts (hands : List Hand) (lot : List Place) (stood : List (Option Str)) : List (Option Str) :=
  (fillEnd (startMan hands lot stood)).spots.map fun o => o.map (nameAt lot)
section
variable {P : Program} {w : World} {K : PySem.W.Frag} {mg : Str → Option Value} {base : Heap} {CM CH CV LP : Addr}
def spMan : Sp := fun vs H Q _ => ∃ (vh vl : V) (s : Addr) (hands : List Hand) (lot : List Place) (stood : List (Option Str)), vs = [vh, vl, .ref s] ∧
  Im H vh (dHands hands) ∧ Im H vl (dLot lot) ∧ H s = some (.tup (stood.map vO)) ∧ hands.length = stood.length ∧ hands.length ≤ 1000 ∧ lot.length ≤ 1000 ∧ (∀ h ∈ hands, HandOk h) ∧ (∀ p ∈ lot, PlaceOk p) ∧
  ∀ (H' : Hp) (t p1 p2 : Addr), K0 H H' → H' t = some (.tup [.ref p1, .ref p2]) → H' p1 = some (.tup ((manPosts hands lot stood).map vO)) → Q (.ref t) H'
abbrev n_man : List Str := ["hands", "lot", "stood", "made", "posts", "where"]
theorem sc_man : FnScope n_man ["hands", "lot", "stood"] (C8.fnScope s_man) := ⟨rfl, rfl, rfl, by decide +kernel, rfl, by decide +kernel, by decide +kernel⟩
theorem cal_man (T : Txt K mg CM CH CV LP) (h : HasDef K mg "man" s_man ["hands", "lot", "stood"]) (c_Manning : C8.Mak P w K mg base 4 "Manning" CM (spManningInit CM) []) (c_fill : C8.Met P w K mg base 4 CM "fill" (spFill CM) []) (c_paper : C8.Met P w K mg base 3 CM "paper" (spPaper CM) []) : C8.Cal P w K mg base 6 "man" spMan [] := by
  refine mkCal h sc_man (fun vs H Q E hh => ?_) (fun fa cdv Ar outer s H vs Q E hr hh => ?_)
  · obtain ⟨vh, vl, s, hands, lot, stood, rfl, _⟩ := hh
    rfl
  · obtain ⟨vh, vl, s, hands, lot, stood, rfl, ih, il, hs, he, l1, l2, oh, ol, q⟩ := hh
    refine ⟨_, (pss_cons (ps_set (i := 3) sc_man.nd rfl (loc_by rfl) (C8.pe_mk c_Manning hr (by decide) rfl (pa_cons (pv 0) (pa_cons (pv 1) (pa_cons (pv 2) pa_nil)))))
      (pss_cons (ps_expr (C8.pe_mt0 c_fill hr (by decide) (pv 3)))
      (pss_cons (ps_set (i := 4) sc_man.nd rfl (loc_by rfl) (pe_callTy (call_tupK (K := K) rfl) (by rfl) T.m_tuple (by decide +kernel) (pa_cons (pe_lc (own := [("where", 5)]) (g := (gName 5)) (tt := tYes) rfl sc_man.nd (pi_list (pe_fldK (K := K) rfl (pv 3) rfl)) (blkOk_by (own := [("where", 5)]) (N := n_man) (sc := C8.fnScope s_man) (by decide +kernel)) (fun _ _ _ _ _ => (pg_name (i := 5) sc_man.nd rfl (loc_by rfl))) (fun _ _ _ _ _ => pts_nil) (fun _ _ _ _ _ => (pe_ifExp (pt_cmpR op_isN (pv 5) pe_non (nomark _)) pe_non (pe_ix (ix_tupK (K := K) rfl) (pe_ix (ix_tupK (K := K) rfl) (pv 1) (pv 5) (fun _ _ => rfl)) pe_int (fun _ _ => rfl))))) pa_nil)))
      (pss_one (ps_ret (pe_tup (pa_cons (pv 4) (pa_cons (C8.pe_mt0 c_paper hr (by decide) (pv 3)) pa_nil)))))))), ?_⟩
    have G := good_startMan he l1 l2 oh ol
    obtain ⟨nf, hfill, G2, hnone⟩ := fill_end G
    have hnp := fill_np hfill
    have enp : (startMan hands lot stood).np = lot.length := by simp [Man.np, startMan]
    rw [enp] at hnp
    refine ⟨_, rfl, _, rfl, _, rfl, fun x dx hx hdx ne => ?_⟩
    have k0 : K0 H (upd (upd H dx (.own x)) x (.ins CM dx [])) := (Kp.new hdx).then_new (by rw [upd_ne ne.symm]; exact hx)
    have hx0 : upd (upd H dx (.own x)) x (.ins CM dx []) x = some (.ins CM dx []) := upd_same
    generalize upd (upd H dx (.own x)) x (.ins CM dx []) = H1 at k0 hx0
    refine ⟨x, dx, _, _, s, hands, lot, stood, rfl, hx0, ih.mono k0.tk, il.mono k0.tk, k0.tup hs, he, l1, l2, ol, fun H2 A eA k2 m2 f1 f2 => ⟨rfl, ?_⟩⟩
    subst eA
    refine ⟨_, rfl, A.o, A.dx, _, rfl, m2.o, rfl, A, _, rfl, m2, G, fun H3 k3 m3 => ?_⟩
    have k01 : K0 H H2 := (k0.up.trans k2).drop fun b o e z => by
      subst z
      rw [hx] at e; cases e
    have hls : H A.ls = none := k0.fr _ f1
    have hln : H A.ln = none := k0.fr _ f2
    have k03 : K0 H H3 := (k01.up.trans k3).drop fun b o e z => by
      rcases z with rfl | rfl
      · rw [hls] at e; cases e
      · rw [hln] at e; cases e
    have hval : manPosts hands lot stood = (fillEnd (startMan hands lot stood)).spots.map fun o => o.map (nameAt lot) := rfl
    generalize fillEnd (startMan hands lot stood) = S at m3 G2 hnone hnp hval
    obtain ⟨W, _⟩ := id G2
    obtain ⟨al, xl, rfl, hal, ihl⟩ := il.tup_inv
    have hal3 := k03.tup hal
    refine ⟨_, rfl, A.o, CM, A.dx, _, .ref A.ls, rfl, m3.o, T.clM, T.nM _ (by simp), rfl, ?_⟩
    refine ⟨A.ls, rfl, ⟨_, .of m3.s⟩, fun D hD => ?_⟩
    have hlen : (S.spots.map vON).length ≤ 1000000 := by rw [List.length_map]; have : S.spots.length ≤ 1000 := W.nh; omega
    refine lc_pure (n := (S.spots.map vON).length) (walk_list (K := K)) (fun j _ v => ∀ o, S.spots[j]? = some o → v = vO (o.map (nameAt lot))) (fun _ => true) hD hlen (fun _ _ _ _ h _ => h) (fun H2 k2 => SqL.of (k2.get0 m3.s)) ?_ ?_
    · rintro j z H4 H5 hj k4 ⟨rfl, hz⟩ Post Skip hP hS
      obtain ⟨o, ho, rfl⟩ := map_getQ hz
      refine ⟨rfl, ?_⟩
      cases o with
      | none =>
        refine ans_is (x := V.non) (val_var rfl) _ ?_
        refine if_true_of rfl ?_
        refine hP rfl _ _ (.refl _) fun o' ho' => ?_
        rw [ho] at ho'; cases ho'; rfl
      | some i =>
        refine ans_is (x := vON (some i)) (val_var rfl) _ ?_
        refine if_false_of rfl ?_
        have hi : i < lot.length := by
          have := W.sp j i (by rw [List.getD_eq_getElem?_getD, ho]; rfl)
          rw [← hnp]; exact this.1
        obtain ⟨v, hv, hiv⟩ := ihl.getD (i := i) (d := dPlace lot[i]) (by rw [List.getElem?_map, List.getElem?_eq_getElem hi]; rfl)
        obtain ⟨b, rfl, hb⟩ := im_place.mp (hiv.mono (k03.tk.trans k4.tk))
        refine ⟨_, rfl, _, rfl, al, _, _, _, rfl, rfl, .of (k4.tup hal3), atI_nat hv, b, _, _, _, rfl, rfl, .of hb, rfl, ?_⟩
        refine hP rfl _ _ (.refl _) fun o' ho' => ?_
        rw [ho] at ho'; cases ho'
        show _ = V.str (nameAt lot i)
        unfold nameAt
        rw [List.getElem?_eq_getElem hi]
    · intro H4 acc k4 hacc hp
      rw [filter_true, List.length_map] at hp
      refine ⟨D, acc, rfl, .inl ⟨.of hacc, fun p1 hp1 => ?_⟩⟩
      have k5 := k4.then_new hp1 (o := .tup acc)
      have hp5 : upd H4 p1 (.tup acc) p1 = some (.tup acc) := upd_same
      generalize upd H4 p1 (.tup acc) = H5 at k5 hp5
      have m5 := m3.keep0 k5
      refine ⟨_, rfl, _, rfl, A.o, A.dx, _, rfl, m5.o, rfl, A, S, rfl, m5, W, full_pot G2 hnone, fun H6 p2 k6 => ?_⟩
      refine ⟨by show 2 ≤ sizeLine; decide, fun t ht => ?_⟩
      refine q _ t p1 p2 (((k03.trans k5).trans k6).then_new ht) upd_same ?_
      rw [upd_ne (ne_of_none (k6.get0 hp5) ht), k6.get0 hp5, paired_eq_map_range hp, hval, List.map_map]
      rfl
end
end WS
set_option Elab.async false
set_option linter.all false
set_option maxRecDepth 100000
set_option maxHeartbeats 2000000
namespace WS
open PySem PySem.Spec PyProof.Rows L2
/-! ### sorted texts are one list -/
def leS (a b : Str) : Prop := a.cps.toList ≤ b.cps.toList
theorem leS_antisymm {a b : Str} (h1 : leS a b) (h2 : leS b a) : a = b := PySem.W.str_of_cps (List.le_antisymm h1 h2)
theorem leS_trans {a b c : Str} (h1 : leS a b) (h2 : leS b c) : leS a c := List.le_trans h1 h2
theorem leS_of {a b : Str} (h : ltCps b.cps.toList a.cps.toList = false) : leS a b := by
  rw [ltCps_eq, decide_eq_false_iff_not] at h
  exact List.not_lt.mp h
theorem rising_pair : ∀ (p : Str) (l : List Str), risingS p l = true → (p :: l).Pairwise leS
  | p, [], _ => by simp
  | p, x :: r, h => by
    rw [risingS, Bool.and_eq_true, Bool.not_eq_true'] at h
    have ih := rising_pair x r h.2
    refine List.pairwise_cons.mpr ⟨fun y hy => ?_, ih⟩
    have hx := leS_of h.1
    rcases List.mem_cons.mp hy with rfl | hy
    · exact hx
    · exact leS_trans hx ((List.pairwise_cons.mp ih).1 y hy)
theorem sorted_pair {l : List Str} (h : sortedS l = true) : l.Pairwise leS := by
  cases l with
  | nil => exact .nil
  | cons p l => exact rising_pair p l h
theorem sorted_unique {l m : List Str} (h1 : sortedS l = true) (h2 : sortedS m = true) (p : l.Perm m) : l = m :=
  List.Perm.eq_of_pairwise (fun _ _ _ _ => leS_antisymm) (sorted_pair h1) (sorted_pair h2) p
theorem le_of_dataLe {a b : Str × Str} (h : PySem.W.dataLe false encPS a b = true) : leS a.1 b.1 := by
  refine List.not_lt.mp fun hlt => ?_
  have h : (!PyProof.Rows.lexLt PyProof.Rows.itemOrd (.inl 1 :: .inr b.1.cps.toList :: PySem.W.keyToksAll [.str b.2]) (.inl 1 :: .inr a.1.cps.toList :: PySem.W.keyToksAll [.str a.2])) = true := h
  have e : PyProof.Rows.lexLt PyProof.Rows.itemOrd (.inl 1 :: .inr b.1.cps.toList :: PySem.W.keyToksAll [.str b.2]) (.inl 1 :: .inr a.1.cps.toList :: PySem.W.keyToksAll [.str a.2]) = true := by
    rw [lex_self]
    exact lex_true.mpr (.inl (show decide (b.1.cps.toList < a.1.cps.toList) = true from decide_eq_true hlt))
  rw [e] at h
  cases h
theorem sortPS_perm (ps : List (Str × Str)) : (sortPS ps).Perm ps := List.mergeSort_perm _ _
theorem sortPS_pair (ps : List (Str × Str)) : ((sortPS ps).map (·.1)).Pairwise leS := by
  have T := PySem.W.sortLe_total (PyProof.Rows.listOrd PyProof.Rows.itemOrd) false fun b => PySem.W.keyToks (encPS b)
  have h := List.pairwise_mergeSort (le := PySem.W.dataLe false encPS) T.trans (fun a b => by
    rw [Bool.or_eq_true]
    exact T.total a b) ps
  rw [List.pairwise_map]
  exact h.imp fun h => le_of_dataLe h
/-- the value of a key -/
def lookS (ps : List (Str × Str)) (k : Str) : Option Str := (ps.find? fun q => decide (q.1 = k)).map (·.2)
theorem lookS_mem : ∀ {ps : List (Str × Str)} {k v : Str}, (ps.map (·.1)).Nodup → (k, v) ∈ ps → lookS ps k = some v
  | p :: ps, k, v, hn, h => by
    rw [List.map_cons, List.nodup_cons] at hn
    unfold lookS
    rw [List.find?_cons]
    by_cases e : p.1 = k
    · rw [decide_eq_true e]
      rcases List.mem_cons.mp h with rfl | h
      · rfl
      · exact absurd (List.mem_map.mpr ⟨_, h, rfl⟩) (by rw [← e] at *; exact hn.1)
    · rw [decide_eq_false e]
      rcases List.mem_cons.mp h with rfl | h
      · exact absurd rfl e
      · exact lookS_mem hn.2 h
/-- the sorted pairs, from the sorted keys -/
theorem sortPS_keys {ps : List (Str × Str)} {ys : List Str} (hn : (ps.map (·.1)).Nodup) (hp : ys.Perm (ps.map (·.1))) (hs : sortedS ys = true) : sortPS ps = ys.map fun k => (k, (lookS ps k).getD Str.empty) := by
  have e : (sortPS ps).map (·.1) = ys := List.Perm.eq_of_pairwise (fun _ _ _ _ => leS_antisymm) (sortPS_pair ps) (sorted_pair hs) (((sortPS_perm ps).map _).trans hp.symm)
  rw [← e, List.map_map]
  have : sortPS ps = (sortPS ps).map id := by simp
  conv => lhs; rw [this]
  apply List.map_congr_left
  intro q hq
  have hm := (sortPS_perm ps).mem_iff.mp hq
  show q = (q.1, (lookS ps q.1).getD Str.empty)
  rw [lookS_mem hn (k := q.1) (v := q.2) hm]
  rfl
/-- the same keys and values give the same sorted pairs -/
theorem sortPS_perm_eq {ps qs : List (Str × Str)} (hn : (ps.map (·.1)).Nodup) (hp : ps.Perm qs) : sortPS ps = sortPS qs := by
  have hn2 : (qs.map (·.1)).Nodup := (hp.map _).nodup_iff.mp hn
  have e : (sortPS ps).map (·.1) = (sortPS qs).map (·.1) := List.Perm.eq_of_pairwise (fun _ _ _ _ => leS_antisymm) (sortPS_pair ps) (sortPS_pair qs) ((((sortPS_perm ps).trans hp).trans (sortPS_perm qs).symm).map _)
  apply List.ext_getElem
  · have := congrArg List.length e; simpa using this
  · intro i h1 h2
    have e1 : (sortPS ps)[i].1 = (sortPS qs)[i].1 := by
      have := List.getElem_of_eq e (i := i) (by simpa using h1)
      simpa using this
    have m1 : (sortPS ps)[i] ∈ ps := (sortPS_perm ps).mem_iff.mp (List.getElem_mem h1)
    have m2 : (sortPS qs)[i] ∈ qs := (sortPS_perm qs).mem_iff.mp (List.getElem_mem h2)
    have m2 : (sortPS qs)[i] ∈ ps := hp.mem_iff.mpr m2
    have l1 := lookS_mem hn (k := (sortPS ps)[i].1) (v := (sortPS ps)[i].2) m1
    have l2 := lookS_mem hn (k := (sortPS qs)[i].1) (v := (sortPS qs)[i].2) m2
    rw [e1, l2] at l1
    exact Prod.ext e1 (Option.some.inj l1).symm
end WS
set_option Elab.async false
set_option linter.all false
set_option maxRecDepth 100000
set_option maxHeartbeats 4000000
namespace WS
open PySem PySem.Spec PyProof.Rows L2 LamX
/-! ### ships -/
structure Ship where
  day : List Int
  turn : List Nat
  roll : List Hand
  bills : List (List Place)
  books : List (Str × Int × List Place)
def dBook (b : Str × Int × List Place) : PyData := .tuple [.str b.1, .int b.2.1, dLot b.2.2]
def dBills (l : List (List Place)) : PyData := .tuple (l.map dLot)
def dShip (S : Ship) : PyData := .tuple [.tuple (S.day.map .int), dN S.turn, dHands S.roll, dBills S.bills, .tuple (S.books.map dBook)]
structure ShipOk (S : Ship) : Prop where
  d1 : ∀ d ∈ S.day, 1 ≤ d
  d0 : 0 < S.day.sum
  d60 : S.day.sum ≤ 60
  tok : TurnOk S.turn
  r12 : S.roll.length ≤ 12
  rok : ∀ h ∈ S.roll, HandOk h
  rn : (S.roll.map (·.name)).Nodup
  rs : sortedS (S.roll.map (·.name)) = true
  bl : S.bills.length = S.day.length
  b8 : S.bills.length ≤ 60
  b4 : ∀ l ∈ S.bills, l.length ≤ 10
  bok : ∀ l ∈ S.bills, ∀ p ∈ l, PlaceOk p
  k9 : S.books.length ≤ 10
/-- the parts of a ship on the heap -/
structure ShipAt (H : Hp) (sh a0 a1 a2 a3 a4 : Addr) (S : Ship) : Prop where
  s : H sh = some (.tup [.ref a0, .ref a1, .ref a2, .ref a3, .ref a4])
  d : H a0 = some (.tup (S.day.map V.int))
  t : H a1 = some (.tup (vN S.turn))
  r : Im H (.ref a2) (dHands S.roll)
  b : Im H (.ref a3) (dBills S.bills)
  k : Im H (.ref a4) (.tuple (S.books.map dBook))
theorem ShipAt.mono {H H' : Hp} {sh a0 a1 a2 a3 a4 : Addr} {S : Ship} (x : ShipAt H sh a0 a1 a2 a3 a4 S) (t : TK H H') : ShipAt H' sh a0 a1 a2 a3 a4 S :=
  ⟨t _ _ x.s, t _ _ x.d, t _ _ x.t, x.r.mono t, x.b.mono t, x.k.mono t⟩
theorem ship_at {H : Hp} {v : V} {S : Ship} (h : Im H v (dShip S)) : ∃ sh a0 a1 a2 a3 a4, v = .ref sh ∧ ShipAt H sh a0 a1 a2 a3 a4 S := by
  obtain ⟨sh, xs, rfl, hs, ih⟩ := h.tup_inv
  obtain ⟨v0, r, rfl, h0, ih⟩ := ih.cons_inv
  obtain ⟨v1, r, rfl, h1, ih⟩ := ih.cons_inv
  obtain ⟨v2, r, rfl, h2, ih⟩ := ih.cons_inv
  obtain ⟨v3, r, rfl, h3, ih⟩ := ih.cons_inv
  obtain ⟨v4, r, rfl, h4, ih⟩ := ih.cons_inv
  obtain rfl := ih.nil_inv
  obtain ⟨a0, x0, rfl, e0, i0⟩ := h0.tup_inv
  obtain ⟨a1, rfl, e1⟩ := im_dN.mp h1
  obtain ⟨a2, x2, rfl, e2, i2⟩ := h2.tup_inv
  obtain ⟨a3, x3, rfl, e3, i3⟩ := h3.tup_inv
  obtain ⟨a4, x4, rfl, e4, i4⟩ := h4.tup_inv
  exact ⟨sh, a0, a1, a2, a3, a4, rfl, hs, by rw [e0, i0.ints], e1, .tup e2 i2, .tup e3 i3, .tup e4 i4⟩
section
variable {P : Program} {w : World} {K : PySem.W.Frag} {mg : Str → Option Value} {base : Heap} {CM CH CV LP : Addr}
/-! ### names_in -/
def spNamesIn : Sp := fun vs H Q _ => ∃ (v : V) (bills : List (List Place)), vs = [v] ∧ Im H v (dBills bills) ∧ bills.length ≤ 60 ∧ (∀ l ∈ bills, l.length ≤ 10) ∧ ∀ (H' : Hp) (p : Addr), K0 H H' → H p = none → Q (.ref p) H'
abbrev n_names_in : List Str := ["lots", "found", "lot", "place"]
theorem sc_names_in : FnScope n_names_in ["lots"] (C8.fnScope s_names_in) := ⟨rfl, rfl, rfl, by decide +kernel, rfl, by decide +kernel, by decide +kernel⟩
theorem cal_names_in (h : HasDef K mg "names_in" s_names_in ["lots"]) : C8.Cal P w K mg base 1 "names_in" spNamesIn [] := by
  refine mkCal h sc_names_in (fun vs H Q E hh => ?_) (fun fa cdv Ar outer s H vs Q E hr hh => ?_)
  · obtain ⟨v, b, rfl, _⟩ := hh
    rfl
  · obtain ⟨v, bills, rfl, ib, l60, l10, q⟩ := hh
    refine ⟨_, (pss_cons (ps_set (i := 1) sc_names_in.nd rfl (loc_by rfl) (pe_lst pa_nil))
      (pss_cons (ps_for PassesOwn.never rfl (pi_tup (pv 0)) (pg_name (i := 2) sc_names_in.nd rfl (loc_by rfl)) (pss_one (ps_expr (pe_bm PySem.F.plainAttrs_list PySem.F.slot_list_extend PySem.F.type_list_extend mt_extend (pv 1) (pa_cons (pe_lc (own := [("place", 3)]) (g := (gName 3)) (tt := tYes) rfl sc_names_in.nd (pi_tup (pv 2)) (blkOk_by (own := [("place", 3)]) (N := n_names_in) (sc := C8.fnScope s_names_in) (by decide +kernel)) (fun _ _ _ _ _ => (pg_name (i := 3) sc_names_in.nd rfl (loc_by rfl))) (fun _ _ _ _ _ => pts_nil) (fun _ _ _ _ _ => (pe_ix (ix_tupK (K := K) rfl) (pv 3) pe_int (fun _ _ => rfl)))) pa_nil)))))
      (pss_one (ps_ret (pv 1))))), ?_⟩
    obtain ⟨b, xs, rfl, hb, ihb⟩ := ib.tup_inv
    have hxl : xs.length = bills.length := by rw [ihb.length, List.length_map]
    refine ⟨Nat.zero_le _, fun p hp => ?_⟩
    refine ⟨_, rfl, b, rfl, ⟨_, .of ((tk_new hp) _ _ hb)⟩, ?_⟩
    refine for_tup (K := K) (a := b) (xs := xs) (fun i σ H' => ∃ x2 x3 acc, σ = [some (.ref b), some (.ref p), x2, x3] ∧ K0 H H' ∧ H' p = some (.lst acc) ∧ acc.length ≤ 10 * i) ⟨none, none, [], rfl, .new hp, upd_same, Nat.zero_le _⟩ ?_ ?_ ?_
    · rintro i σ H' hi ⟨x2, x3, acc, rfl, k, _⟩
      exact .of (k.tup hb)
    · rintro i x σ H' hx ⟨x2, x3, acc, rfl, k, hacc, hlen⟩
      have hil : i < xs.length := (List.getElem?_eq_some_iff.mp hx).1
      obtain ⟨D, hD, hi⟩ := ihb.get hx
      obtain ⟨lot, hlot, rfl⟩ := map_getQ hD
      obtain ⟨c, ys, rfl, hc, ihc⟩ := (hi.mono k.tk).tup_inv
      have hyl : ys.length = lot.length := by rw [ihc.length, List.length_map]
      have hl10 := l10 lot (List.mem_of_getElem? hlot)
      refine ⟨_, rfl, .inl ⟨rfl, _, .of hacc⟩, _, rfl, c, rfl, ⟨_, .of hc⟩, fun D hD => ?_⟩
      refine lc_pure (n := ys.length) (walk_tup (K := K) (a := c) (xs := ys)) (fun _ _ _ => True) (fun _ => true) hD (by omega) (fun _ _ _ _ h _ => h) (fun H2 k2 => SqT.of (k2.tup hc)) ?_ ?_
      · rintro j z H2 H3 hj k2 ⟨rfl, hz⟩ Post Skip hP hS
        obtain ⟨D', hD', hi⟩ := ihc.get hz
        obtain ⟨pl, hpl, rfl⟩ := map_getQ hD'
        obtain ⟨e, rfl, he⟩ := im_place.mp (hi.mono k2.tk)
        exact ⟨rfl, _, rfl, e, _, _, _, rfl, rfl, .of he, rfl, hP rfl _ _ (.refl _) trivial⟩
      · intro H2 acc2 k2 hacc2 hp2
        have hal : acc2.length = ys.length := by rw [filter_true] at hp2; rw [← hp2.length]; simp
        refine ⟨p, D, acc, acc2, rfl, rfl, k2.get0 hacc, hacc2, le_line (by omega), ?_⟩
        exact ⟨_, _, _, rfl, (k.trans k2).mut hp, upd_same, by rw [List.length_append]; omega⟩
    · rintro σ H' ⟨x2, x3, acc, rfl, k, _⟩
      exact ⟨_, rfl, q _ p k hp⟩
/-! ### in_order: the code object is known -/
def HasDefC (K : PySem.W.Frag) (mg : Str → Option Value) (x : Str) (st : Stmt) (ps : List Str) (c : Addr) : Prop := ∃ (f : Addr) (fd : FuncData), C8.Def K mg x st f fd ∧ L2.Binds K fd ps [] ∧ fd.code = .ref c
theorem mkCalC {x : Str} {st : Stmt} {N ps : List Str} {k : Nat} {sp : Sp} {c : Addr} (h : HasDefC K mg x st ps c) (S : FnScope N ps (C8.fnScope st)) (len : ∀ vs H Q E, sp vs H Q E → vs.length = ps.length)
    (hbody : ∀ (f : Addr) (A : Around) (outer : List Env) (s : Shared) (H : Hp) (vs : List V) (Q : VK) (E : XK), Room k (A.deeper (envOfC x (C8.fnScope st) s.heap.objs.size f (.ref c))) → sp vs H Q E →
      ∃ t, PSs (cxOf C8.CX0 P w K mg base N x (C8.fnScope st) f (.ref c) A outer s H E).nox (C8.fnBody st) t ∧ t { nx := fun _ H' => Q .non H', rt := Q } (start N vs) H) : C8.Cal P w K mg base (k + 1) x sp [] := by
  obtain ⟨f, fd, F, b, hc⟩ := h
  obtain ⟨oc, od, dV, kV, doc, pm, an, cdv, ct, osl, rfl, lk, hcd⟩ := F.fn.ex
  have hc : cdv = .ref c := hc
  subst hc
  refine ⟨f, _, ps, [], ?_, F.mgf, F.kp, b, .nil⟩
  refine fn_of lk hcd S len fun A outer s H vs Q E hr hsp => ?_
  obtain ⟨t, h, q⟩ := hbody f A outer s H vs Q E hr hsp
  exact ⟨t, h.nox, q⟩
def QT : Str := "in_order.<locals>.<lambda>"
def spInOrder (PT : Addr) : Sp := fun vs H Q _ => ∃ (a : Addr), vs = [.ref a] ∧ H a = some (.tup []) ∧ TabS H PT QT ∧ ∀ (H' : Hp) (p : Addr), KpN (fun _ => False) H H' → TabS H' PT QT → H' p = some (.tup []) → Q (.ref p) H'
abbrev n_in_order : List Str := ["pages"]
theorem sc_in_order : FnScope n_in_order ["pages"] (C8.fnScope s_in_order) := ⟨rfl, rfl, rfl, by decide +kernel, rfl, by decide +kernel, by decide +kernel⟩
theorem cal_in_order (T : Txt K mg CM CH CV LP) {cO PT : Addr} (h : HasDefC K mg "in_order" s_in_order ["pages"] cO) (TB : TabB base mg cO PT) : C8.Cal P w K mg base 1 "in_order" (spInOrder PT) [] := by
  refine mkCalC h sc_in_order (fun vs H Q E hh => ?_) (fun fa Ar outer s H vs Q E hr hh => ?_)
  · obtain ⟨a, rfl, _⟩ := hh
    rfl
  · obtain ⟨a, rfl, ha, hT, q⟩ := hh
    have hu64 := hu64_of hr
    refine ⟨_, (pss_one (ps_ret (pe_callTy (call_tupK (K := K) rfl) (by rfl) T.m_tuple (by decide +kernel) (pa_cons (pe_callBK (cr_sortE hu64) (by rfl) T.m_sorted (by decide +kernel) (pa_cons (pv 0) pa_nil) (pk_cons (pe_lambda TB rfl (by decide +kernel)) pk_nil)) pa_nil)))), ?_⟩
    refine ⟨_, rfl, hT, fun f H1 e1 hT1 => ?_⟩
    have k1 : KpN (fun _ => False) H H1 := .of_ext e1
    refine ⟨a, f, rfl, rfl, .of (k1.tk _ _ ha), fun p hp => ?_⟩
    refine ⟨p, [], rfl, .inl ⟨.of upd_same, fun l hl => ?_⟩⟩
    refine q _ l ((k1.then_new hp).then_new hl) ?_ upd_same
    have hT1 : TabS H1 PT QT := hT1
    exact WS.TabS.kp (WS.TabS.kp hT1 (Kp.new hp (S := fun _ => False)) (fun _ _ _ z => z.elim)) (Kp.new hl (S := fun _ => False)) (fun _ _ _ z => z.elim)
end
end WS
set_option Elab.async false
set_option linter.all false
set_option maxRecDepth 100000
set_option maxHeartbeats 4000000
namespace WS
open PySem PySem.Spec PyProof.Rows L2 LamX
/-! ### dicts of texts -/
theorem any_key {κ : Type} [DecidableEq κ] (l : List (κ × V)) (k : κ) : (l.any fun kv => decide (kv.1 = k)) = true ↔ k ∈ l.map (·.1) := by
  rw [List.any_eq_true]
  constructor
  · rintro ⟨x, hx, e⟩
    exact List.mem_map.mpr ⟨x, hx, of_decide_eq_true e⟩
  · intro h
    obtain ⟨x, hx, e⟩ := List.mem_map.mp h
    exact ⟨x, hx, decide_eq_true e⟩
theorem putK_new {kvs : List (L2.Key × V)} {k : L2.Key} {v : V} (h : k ∉ kvs.map (·.1)) : putK kvs k v = kvs ++ [(k, v)] := by
  unfold putK
  rw [if_neg (fun z => h ((any_key _ _).mp z))]
theorem mergeK_app : ∀ (more kvs : List (L2.Key × V)), ((kvs ++ more).map (·.1)).Nodup → mergeK kvs more = kvs ++ more
  | [], kvs, _ => by simp [mergeK]
  | p :: more, kvs, h => by
    have hn : p.1 ∉ kvs.map (·.1) := fun z => by
      rw [List.map_append, List.map_cons] at h
      exact (List.nodup_append.mp h).2.2 _ z _ (List.mem_cons_self ..) rfl
    have e : mergeK kvs (p :: more) = mergeK (kvs ++ [p]) more := by
      show more.foldl _ (putK kvs p.1 p.2) = _
      rw [putK_new hn]; rfl
    rw [e, mergeK_app more (kvs ++ [p]) (by rw [List.append_assoc]; exact h), List.append_assoc]; rfl
theorem mergeK_nil {kvs : List (L2.Key × V)} (h : (kvs.map (·.1)).Nodup) : mergeK [] kvs = kvs := by
  rw [mergeK_app kvs [] (by simpa using h)]; rfl
/-- names and values side by side -/
def zipK (ns : List Str) (vs : List V) : List (L2.Key × V) := List.zipWith (fun n v => (.inr n, v)) ns vs
theorem zipK_keys {ns : List Str} {vs : List V} (h : ns.length = vs.length) : (zipK ns vs).map (·.1) = ns.map Sum.inr := by
  unfold zipK
  rw [List.map_zipWith]
  apply List.ext_getElem
  · simp [h]
  · intro i h1 h2; simp
theorem nodup_inr {ns : List Str} (h : ns.Nodup) : (ns.map (Sum.inr : Str → L2.Key)).Nodup := by
  rw [List.nodup_iff_pairwise_ne] at *
  rw [List.pairwise_map]
  exact h.imp fun h e => h (Sum.inr.inj e)
theorem valV_zipK : ∀ {ns : List Str} {vs : List V} {i : Nat} {n : Str} {v : V}, ns.Nodup → ns[i]? = some n → vs[i]? = some v → valV (zipK ns vs) (.inr n) = some v
  | [], _, _, _, _, _, h, _ => by simp at h
  | _ :: _, [], _, _, _, _, _, h => by simp at h
  | a :: ns, b :: vs, 0, n, v, _, h1, h2 => by
    simp at h1 h2
    subst h1 h2
    exact valV_pos (p := ((.inr a : L2.Key), b)) rfl
  | a :: ns, b :: vs, i + 1, n, v, hn, h1, h2 => by
    rw [List.nodup_cons] at hn
    have h1 : ns[i]? = some n := by simpa using h1
    have h2 : vs[i]? = some v := by simpa using h2
    show valV ((.inr a, b) :: zipK ns vs) (.inr n) = some v
    rw [valV_neg (p := ((.inr a : L2.Key), b)) (fun e => hn.1 (by rw [Sum.inr.inj e]; exact List.mem_of_getElem? h1))]
    exact valV_zipK hn.2 h1 h2
theorem getQ_append_lt {α : Type} {l : List α} {i : Nat} (h : i < l.length) : ∃ a, l[i]? = some a := ⟨l[i], List.getElem?_eq_getElem h⟩
/-- the roll in a dict by name -/
def HandsD (H : Hp) (d : Addr) (roll : List Hand) : Prop := ∃ vs, ImAll H vs (roll.map dHand) ∧ H d = some (.dK (zipK (roll.map (·.name)) vs))
structure HoldO (CH : Addr) (H : Hp) (x : Addr) (roll : List Hand) : Prop where
  ex : ∃ (dx d1 lb lw d2 d3 l3 : Addr) (n : Int), H x = some (.ins CH dx [("sections", .int n), ("hands_by", .ref d1), ("billed", .ref lb), ("words_kept", .ref lw), ("ill", .ref d2), ("wanted", .ref d3), ("words_up", .ref l3)]) ∧
    HandsD H d1 roll ∧ H d2 = some (.dK []) ∧ H d3 = some (.dK []) ∧ H l3 = some (.lst [])
structure Told (H : Hp) (t : Addr) (roll : List Hand) : Prop where
  ex : ∃ r s w c, H t = some (.tup [.ref r, .ref s, .ref w, .ref c]) ∧ Im H (.ref r) (dHands roll) ∧ H s = some (.tup []) ∧ H w = some (ETup w) ∧ H c = some (.tup [])
theorem HandsD.keep {H H' : Hp} {d : Addr} {roll : List Hand} (x : HandsD H d roll) (t : TK H H') (e : ∀ o, H d = some o → H' d = some o) : HandsD H' d roll := by
  obtain ⟨vs, h1, h2⟩ := x
  exact ⟨vs, h1.mono t, e _ h2⟩
section
variable {P : Program} {w : World} {K : PySem.W.Frag} {mg : Str → Option Value} {base : Heap} {CM CH CV LP : Addr}
/-! ### mustered -/
def spMustered (CH : Addr) : Sp := fun vs H Q _ => ∃ (x : Addr) (roll : List Hand), vs = [.ref x] ∧ HoldO CH H x roll ∧ roll.length ≤ 12 ∧ (roll.map (·.name)).Nodup ∧ sortedS (roll.map (·.name)) = true ∧ ∀ (H' : Hp) (t : Addr), K0 H H' → Told H' t roll → Q (.ref t) H'
abbrev n_Holding_mustered : List Str := ["self", "roll", "name", "wants"]
theorem sc_Holding_mustered : FnScope n_Holding_mustered ["self"] (C8.fnScope s_Holding_mustered) := ⟨rfl, rfl, rfl, by decide +kernel, rfl, by decide +kernel, by decide +kernel⟩
theorem met_mustered (T : Txt K mg CM CH CV LP) (h : HasMeth K CH "mustered" "Holding.mustered" s_Holding_mustered ["self"]) : C8.Met P w K mg base 1 CH "mustered" (spMustered CH) [] := by
  refine mkMet h sc_Holding_mustered (fun vs H Q E hh => ?_) (fun fa cdv Ar outer s H vs Q E hr hh => ?_)
  · obtain ⟨x, roll, rfl, _⟩ := hh
    rfl
  · obtain ⟨x, roll, rfl, ⟨dx, d1, lb, lw, d2, d3, l3, n, hx, ⟨vs, iv, hd1⟩, hd2, hd3, hl3⟩, l12, hn, hs, q⟩ := hh
    refine ⟨_, (pss_cons (ps_set (i := 1) sc_Holding_mustered.nd rfl (loc_by rfl) (pe_callTy (call_tupK (K := K) rfl) (by rfl) T.m_tuple (by decide +kernel) (pa_cons (pe_lc (own := [("name", 2)]) (g := (gName 2)) (tt := tYes) rfl sc_Holding_mustered.nd (pi_list (pe_callB (call_sortedD rfl) (by rfl) T.m_sorted (by decide +kernel) (pa_cons (pe_fldK (K := K) rfl (pv 0) rfl) pa_nil))) (blkOk_by (own := [("name", 2)]) (N := n_Holding_mustered) (sc := C8.fnScope s_Holding_mustered) (by decide +kernel)) (fun _ _ _ _ _ => (pg_name (i := 2) sc_Holding_mustered.nd rfl (loc_by rfl))) (fun _ _ _ _ _ => pts_nil) (fun _ _ _ _ _ => (pe_dget (hu_of hr) (pe_fldK (K := K) rfl (pv 0) rfl) (pv 2) (fun _ _ => rfl)))) pa_nil)))
      (pss_cons (ps_set (i := 3) sc_Holding_mustered.nd rfl (loc_by rfl) (pe_callTy call_tupleE (by rfl) T.m_tuple (by decide +kernel) (pa_cons (pe_lc (own := [("name", 2)]) (g := (gName 2)) (tt := tYes) rfl sc_Holding_mustered.nd (pi_list (pe_callB (call_sortedD rfl) (by rfl) T.m_sorted (by decide +kernel) (pa_cons (pe_fldK (K := K) rfl (pv 0) rfl) pa_nil))) (blkOk_by (own := [("name", 2)]) (N := n_Holding_mustered) (sc := C8.fnScope s_Holding_mustered) (by decide +kernel)) (fun _ _ _ _ _ => (pg_name (i := 2) sc_Holding_mustered.nd rfl (loc_by rfl))) (fun _ _ _ _ _ => pts_nil) (fun _ _ _ _ _ => (pe_tup (pa_cons (pv 2) (pa_cons (pe_dget (hu_of hr) (pe_fldK (K := K) rfl (pv 0) rfl) (pv 2) (fun _ _ => rfl)) pa_nil))))) pa_nil)))
      (pss_one (ps_ret (pe_tup (pa_cons (pv 1) (pa_cons (pe_callTy (call_tupK (K := K) rfl) (by rfl) T.m_tuple (by decide +kernel) (pa_cons (pe_callB (call_sortedD rfl) (by rfl) T.m_sorted (by decide +kernel) (pa_cons (pe_fldK (K := K) rfl (pv 0) rfl) pa_nil)) pa_nil)) (pa_cons (pv 3) (pa_cons (pe_callTy (call_tupK (K := K) rfl) (by rfl) T.m_tuple (by decide +kernel) (pa_cons (pe_fldK (K := K) rfl (pv 0) rfl) pa_nil)) pa_nil))))))))), ?_⟩
    have hvl : vs.length = roll.length := by rw [iv.length, List.length_map]
    have hkl : (roll.map (·.name)).length = vs.length := by rw [List.length_map, hvl]
    -- roll
    refine ⟨_, rfl, x, CH, dx, _, .ref d1, rfl, hx, T.clH, T.nH _ (by simp), rfl, d1, _, roll.map (·.name), rfl, .of hd1, zipK_keys hkl, by rw [List.length_map]; omega, fun ys p hy1 hy2 hp => ?_⟩
    obtain rfl := sorted_unique hy2 hs hy1
    have k1 : K0 H (upd H p (.lst ((roll.map (·.name)).map V.str))) := .new hp
    have hp1 : upd H p (.lst ((roll.map (·.name)).map V.str)) p = some (.lst ((roll.map (·.name)).map V.str)) := upd_same
    generalize upd H p (.lst ((roll.map (·.name)).map V.str)) = H1 at k1 hp1
    refine ⟨p, rfl, ⟨_, .of hp1⟩, fun D hD => ?_⟩
    refine lc_pure (n := ((roll.map (·.name)).map V.str).length) (walk_list (K := K)) (fun j _ v => vs[j]? = some v) (fun _ => true) hD (by simp; omega) (fun _ _ _ _ h _ => h) (fun H2 k2 => SqL.of (k2.get0 hp1)) ?_ ?_
    · rintro j z H2 H3 hj k2 ⟨rfl, hz⟩ Post Skip hP hS
      obtain ⟨nm, hnm, rfl⟩ := map_getQ hz
      have hjl : j < vs.length := by rw [← hkl]; exact (List.getElem?_eq_some_iff.mp hnm).1
      refine ⟨rfl, _, rfl, x, CH, dx, _, .ref d1, rfl, (k1.trans k2).get0 hx, T.clH, T.nH _ (by simp), rfl, _, rfl, d1, vs[j], rfl, ?_, hP rfl _ _ (.refl _) (List.getElem?_eq_getElem hjl)⟩
      have e := valV_zipK hn hnm (List.getElem?_eq_getElem hjl)
      have := DGet.k (k := Sum.inr nm) ((k1.trans k2).get0 hd1)
      rw [e] at this
      exact this
    intro H2 acc k2 hacc hpd
    rw [filter_true] at hpd
    have eacc : acc = vs := by
      apply List.ext_getElem?
      intro i
      by_cases hi : i < vs.length
      · obtain ⟨v, hv, e⟩ := WS.Paired.get_l hpd (i := i) (range_getElem? (by simp; omega))
        rw [hv, e]
      · have : acc.length = vs.length := by rw [← hpd.length]; simp; omega
        rw [List.getElem?_eq_none (by omega), List.getElem?_eq_none (by omega)]
    subst eacc
    refine ⟨D, acc, rfl, .inl ⟨.of hacc, fun r hr0 => ?_⟩⟩
    have k3 := (k1.trans k2).then_new hr0 (o := .tup acc)
    have hr3 : upd H2 r (.tup acc) r = some (.tup acc) := upd_same
    generalize upd H2 r (.tup acc) = H3 at k3 hr3
    -- wants
    refine ⟨_, rfl, x, CH, dx, _, .ref d3, rfl, k3.get0 hx, T.clH, T.nH _ (by simp), rfl, d3, _, [], rfl, .of (k3.get0 hd3), rfl, by decide, fun ys p4 hy1 hy2 hp4 => ?_⟩
    obtain rfl := List.perm_nil.mp hy1
    have k4 := k3.then_new hp4 (o := .lst [])
    have hp4' : upd H3 p4 (.lst []) p4 = some (.lst []) := upd_same
    have k34 : K0 H3 (upd H3 p4 (.lst [])) := .new hp4
    show ∃ a : Addr, _
    refine ⟨p4, rfl, ⟨_, .of upd_same⟩, fun D5 hD5 => ?_⟩
    refine lc_pure (n := ([] : List V).length) (walk_list (K := K)) (fun _ _ _ => True) (fun _ => true) hD5 (by decide) (fun _ _ _ _ h _ => h) (fun H2 k2 => SqL.of (k2.get0 hp4')) ?_ ?_
    · rintro j z H2 H3 hj; exact absurd hj (Nat.not_lt_zero j)
    intro H5 acc5 k5 hacc5 hpd5
    rw [filter_true] at hpd5
    have e5 : acc5 = [] := List.length_eq_zero_iff.mp (by rw [← hpd5.length]; rfl)
    subst e5
    refine ⟨D5, rfl, .of hacc5, fun wt hwt => ?_⟩
    have k6 := (k4.trans k5).then_new hwt (o := ETup wt)
    have hwt6 : upd H5 wt (ETup wt) wt = some (ETup wt) := upd_same
    have hr6 := ((k34.trans k5).then_new hwt (o := ETup wt)).get0 hr3
    generalize upd H5 wt (ETup wt) = H6 at k6 hwt6 hr6
    -- the tuple
    refine ⟨_, rfl, _, rfl, x, CH, dx, _, .ref d2, rfl, k6.get0 hx, T.clH, T.nH _ (by simp), rfl, d2, _, [], rfl, .of (k6.get0 hd2), rfl, by decide, fun ys p7 hy1 hy2 hp7 => ?_⟩
    obtain rfl := List.perm_nil.mp hy1
    refine ⟨p7, [], rfl, .inl ⟨.of upd_same, fun s8 hs8 => ?_⟩⟩
    have k8' : K0 H6 (upd (upd H6 p7 (.lst (([] : List Str).map V.str))) s8 (.tup [])) := (Kp.new hp7).then_new hs8
    have hs8' : upd (upd H6 p7 (.lst (([] : List Str).map V.str))) s8 (.tup []) s8 = some (.tup []) := upd_same
    generalize upd (upd H6 p7 (.lst (([] : List Str).map V.str))) s8 (.tup []) = H8 at k8' hs8' ⊢
    have k8 := k6.trans k8'
    refine ⟨_, rfl, _, rfl, x, CH, dx, _, .ref l3, rfl, k8.get0 hx, T.clH, T.nH _ (by simp), rfl, l3, [], rfl, .inl ⟨.of (k8.get0 hl3), fun c9 hc9 => ?_⟩⟩
    refine ⟨by show 4 ≤ sizeLine; decide, fun t ht => ?_⟩
    have k9 : K0 H8 (upd H8 c9 (.tup [])) := .new hc9
    have k10 : K0 (upd H8 c9 (.tup [])) (upd (upd H8 c9 (.tup [])) t (.tup [.ref r, .ref s8, .ref wt, .ref c9])) := .new ht
    refine q _ t ((k8.trans k9).trans k10) ⟨r, s8, wt, c9, upd_same, .tup ((k8'.trans (k9.trans k10)).get0 hr6) (iv.mono ((k8.trans k9).trans k10).tk), (k9.trans k10).get0 hs8', (k8'.trans (k9.trans k10)).get0 hwt6, k10.get0 upd_same⟩
end
end WS
set_option Elab.async false
set_option linter.all false
set_option maxRecDepth 100000
set_option maxHeartbeats 4000000
namespace WS
open PySem PySem.Spec PyProof.Rows L2 LamX
theorem paired_app_inv {α β : Type} {F : α → β → Prop} : ∀ {a b : List α} {c : List β}, Paired F (a ++ b) c → ∃ c1 c2, c = c1 ++ c2 ∧ Paired F a c1 ∧ Paired F b c2
  | [], b, c, h => ⟨[], c, rfl, .nil, h⟩
  | x :: a, b, _, .cons h t => by
    obtain ⟨c1, c2, rfl, h1, h2⟩ := paired_app_inv (a := a) t
    exact ⟨_ :: c1, c2, rfl, .cons h h1, h2⟩
theorem paired_app {α β : Type} {F : α → β → Prop} : ∀ {a b : List α} {c d : List β}, Paired F a c → Paired F b d → Paired F (a ++ b) (c ++ d)
  | _, _, _, _, .nil, h => h
  | _, _, _, _, .cons h t, k => .cons h (paired_app t k)
theorem paired_filter {α β : Type} {F : Nat → V → Prop} {G : β → V → Prop} (l : List α) (f : α → Option β) (keep : Nat → Bool) (hk : ∀ (i : Nat) (a : α), l[i]? = some a → keep i = (f a).isSome) (hF : ∀ (i : Nat) (a : α) (b : β) (v : V), l[i]? = some a → f a = some b → F i v → G b v)
    {acc : List V} (h : Paired F ((List.range l.length).filter keep) acc) : Paired G (l.filterMap f) acc := by
  have main : ∀ n, n ≤ l.length → ∀ acc, Paired F ((List.range n).filter keep) acc → Paired G ((l.take n).filterMap f) acc := by
    intro n
    induction n with
    | zero =>
      intro _ acc h
      simp at h ⊢
      cases h
      exact .nil
    | succ n ih =>
      intro hn acc h
      rw [filter_range_succ] at h
      obtain ⟨c1, c2, rfl, h1, h2⟩ := paired_app_inv h
      rw [List.take_succ, List.getElem?_eq_getElem (by omega), List.filterMap_append]
      refine paired_app (ih (by omega) _ h1) ?_
      have e := hk n _ (List.getElem?_eq_getElem (by omega))
      cases hf : f l[n] with
      | none =>
        rw [hf] at e
        rw [if_neg (by rw [e]; simp)] at h2
        cases h2
        simp [hf]; exact .nil
      | some b =>
        rw [hf] at e
        rw [if_pos (by rw [e]; rfl)] at h2
        cases h2 with
        | cons g t =>
          cases t
          simp [hf]
          exact .cons (hF n _ _ _ (List.getElem?_eq_getElem (by omega)) hf g) .nil
  have := main l.length (Nat.le_refl _) acc h
  rwa [List.take_length] at this
/-! ### where hands are put -/
def placesOf (hands : List Hand) (posts : List (Option Str)) : List (Str × Str) := (hands.zip posts).filterMap fun z => z.2.map fun p => (z.1.name, p)
def dWhere : Option Str → PyData
  | some v => .tuple [.str "at", .str v]
  | none => .tuple [.str "below"]
theorem valV_dkPS : ∀ (ps : List (Str × Str)) (n : Str), valV (dkPS ps) (.inr n) = (lookS ps n).map V.str
  | [], n => rfl
  | p :: ps, n => by
    show valV ((.inr p.1, V.str p.2) :: dkPS ps) (.inr n) = _
    by_cases e : p.1 = n
    · rw [valV_pos (p := ((.inr p.1 : L2.Key), V.str p.2)) (by rw [e]), lookS, List.find?_cons, decide_eq_true e]; rfl
    · rw [valV_neg (p := ((.inr p.1 : L2.Key), V.str p.2)) (fun z => e (Sum.inr.inj z)), valV_dkPS ps n, lookS, lookS, List.find?_cons, decide_eq_false e]
theorem dkPS_keys (ps : List (Str × Str)) : (dkPS ps).map (·.1) = (ps.map (·.1)).map Sum.inr := by unfold dkPS; rw [List.map_map, List.map_map]; rfl
theorem placesOf_sub : ∀ (hands : List Hand) (posts : List (Option Str)), ((placesOf hands posts).map (·.1)).Sublist (hands.map (·.name))
  | [], _ => by simp [placesOf]
  | _ :: _, [] => by simp [placesOf]
  | h :: hs, none :: ps => (placesOf_sub hs ps).cons _
  | h :: hs, some p :: ps => (placesOf_sub hs ps).cons_cons _
section
variable {P : Program} {w : World} {K : PySem.W.Frag} {mg : Str → Option Value} {base : Heap} {CM CH CV LP : Addr}
def spPlacesOf : Sp := fun vs H Q _ => ∃ (x : V) (b : Addr) (hands : List Hand) (posts : List (Option Str)), vs = [x, .ref b] ∧ Im H x (dHands hands) ∧ H b = some (.tup (posts.map vO)) ∧ hands.length ≤ 12 ∧ (hands.map (·.name)).Nodup ∧
  ∀ (H' : Hp) (p : Addr), K0 H H' → H p = none → H' p = some (.dK (dkPS (placesOf hands posts))) → Q (.ref p) H'
abbrev n_places_of : List Str := ["hands", "posts", "hand", "name"]
theorem sc_places_of : FnScope n_places_of ["hands", "posts"] (C8.fnScope s_places_of) := ⟨rfl, rfl, rfl, by decide +kernel, rfl, by decide +kernel, by decide +kernel⟩
theorem cal_places_of (T : Txt K mg CM CH CV LP) (h : HasDef K mg "places_of" s_places_of ["hands", "posts"]) : C8.Cal P w K mg base 1 "places_of" spPlacesOf [] := by
  refine mkCal h sc_places_of (fun vs H Q E hh => ?_) (fun fa cdv Ar outer s H vs Q E hr hh => ?_)
  · obtain ⟨x, b, hands, posts, rfl, _⟩ := hh
    rfl
  · obtain ⟨x, b, hands, posts, rfl, ih, hb, l12, hn, q⟩ := hh
    refine ⟨_, (pss_one (ps_ret (pe_callTy (call_dictP rfl) (by rfl) T.m_dict (by decide +kernel) (pa_cons (pe_lc (own := [("hand", 2), ("name", 3)]) (g := (gTup K 2 (gCons (gName 2) (gCons (gName 3) gNil)))) (tt := _) rfl sc_places_of.nd (RZ.pi_zipA rfl T.m_zip (pa_cons (pv 0) (pa_cons (pv 1) pa_nil))) (blkOk_by (own := [("hand", 2), ("name", 3)]) (N := n_places_of) (sc := C8.fnScope s_places_of) (by decide +kernel)) (fun _ _ _ _ _ => (pg_tup rfl (pgs_cons (pg_name (i := 2) sc_places_of.nd rfl (loc_by rfl)) (pgs_cons (pg_name (i := 3) sc_places_of.nd rfl (loc_by rfl)) pgs_nil)))) (fun _ _ _ _ _ => (pts_one (pt_cmpR op_notN (pv 3) pe_non (nomark _)))) (fun _ _ _ _ _ => (pe_tup (pa_cons (pe_ix (ix_tupK (K := K) rfl) (pv 2) pe_int (fun _ _ => rfl)) (pa_cons (pv 3) pa_nil))))) pa_nil)))), ?_⟩
    obtain ⟨a, xs, rfl, ha, iha⟩ := ih.tup_inv
    have hxl : xs.length = hands.length := by rw [iha.length, List.length_map]
    refine ⟨_, rfl, _, rfl, a, b, _, _, rfl, .inr ⟨.of ha, .of hb, fun D hD => ?_⟩⟩
    have hmin : (hands.zip posts).length = min xs.length (posts.map vO).length := by rw [List.length_zip, hxl, List.length_map]
    refine lc_pure (n := (hands.zip posts).length) (walk_zipT (K := K) (a := a) (b := b) (xs := xs) (ys := posts.map vO) hmin) (fun j H v => ∃ p, v = .ref p ∧ ∀ z po, (hands.zip posts)[j]? = some z → z.2 = some po → H p = some (.tup [.str z.1.name, .str po]))
      (fun j => (((hands.zip posts)[j]?).bind fun z => z.2.map fun p => (z.1.name, p)).isSome) hD (by rw [hmin]; omega) (fun j H H' v h t => ?_) (fun H2 k2 => ⟨.of (k2.tup ha), .of (k2.tup hb)⟩) ?_ ?_
    · obtain ⟨p, rfl, h⟩ := h
      exact ⟨p, rfl, fun z po h1 h2 => t _ _ (h z po h1 h2)⟩
    · rintro j v H2 H3 hj k2 ⟨T0, y1, y2, rfl, hT, rfl, hy1, hy2⟩ Post Skip hP hS
      have hy1 : xs[j]? = some y1 := hy1
      have hy2 : (posts.map vO)[j]? = some y2 := hy2
      obtain ⟨D', hD', hi⟩ := iha.get hy1
      obtain ⟨h, hh', rfl⟩ := map_getQ hD'
      obtain ⟨po, hpo, rfl⟩ := map_getQ hy2
      have hz : (hands.zip posts)[j]? = some (h, po) := by
        rw [List.getElem?_zip_eq_some]; exact ⟨hh', hpo⟩
      have k3 : K0 H2 (upd H2 T0 (.tup [y1, vO po])) := .new hT
      refine ⟨T0, _, rfl, .of upd_same, rfl, _, _, rfl, _, _, rfl, rfl, rfl, ?_⟩
      obtain ⟨c, sk, rfl, hc, _⟩ := im_hand.mp (hi.mono (k2.tk.trans k3.tk))
      cases po with
      | none =>
        refine ans_isnot (x := V.non) (val_var rfl) _ ?_
        refine if_false_of rfl ?_
        refine hS (by rw [hz]; rfl) _ k3
      | some po =>
        refine ans_isnot (x := V.str po) (val_var rfl) _ ?_
        refine if_true_of rfl ?_
        refine ⟨_, rfl, c, _, _, _, rfl, rfl, .of hc, rfl, _, rfl, by show 2 ≤ sizeLine; decide, fun p hp => ?_⟩
        refine hP (by rw [hz]; rfl) _ _ (k3.then_new hp) ⟨p, rfl, fun z po' h1 h2 => ?_⟩
        rw [hz] at h1
        cases h1
        cases h2
        exact upd_same
    · intro H2 acc k2 hacc hp
      have hp2 : Paired (fun (b : Str × Str) v => ∃ p, v = V.ref p ∧ H2 p = some (.tup [.str b.1, .str b.2])) (placesOf hands posts) acc := by
        refine paired_filter (hands.zip posts) _ _ (fun i z hz => by rw [hz]; rfl) (fun i z b v hz hb hF => ?_) hp
        obtain ⟨p, rfl, h⟩ := hF
        obtain ⟨po, e1, rfl⟩ := Option.map_eq_some_iff.mp hb
        exact ⟨p, rfl, h z po hz e1⟩
      have eacc : acc = (acc.map refOf).map V.ref := by
        apply List.ext_getElem (by simp)
        intro i h1 h2
        obtain ⟨b, hb, p, e, _⟩ := WS.Paired.get_r hp2 (List.getElem?_eq_getElem h1)
        simp only [List.map_map, List.getElem_map, Function.comp]
        rw [e]; rfl
      have hnod : ((dkPS (placesOf hands posts)).map (·.1)).Nodup := by
        rw [dkPS_keys]; exact nodup_inr ((placesOf_sub hands posts).nodup hn)
      refine ⟨D, acc.map refOf, dkPS (placesOf hands posts), rfl, .of (by rw [← eacc]; exact hacc), paired_of_get (by rw [List.length_map, ← hp2.length]; simp [dkPS]) fun i p kv h1 h2 => ?_, fun p hp => ?_⟩
      · obtain ⟨v, hv, rfl⟩ := map_getQ h1
        obtain ⟨b, hb, rfl⟩ := map_getQ h2
        obtain ⟨b', hb', p, rfl, e⟩ := WS.Paired.get_r hp2 hv
        rw [hb] at hb'
        cases hb'
        exact .of e
      · rw [mergeK_nil hnod]
        exact q _ p (k2.then_new hp) (k2.fr _ hp) upd_same
/-! ### where_of -/
def spWhereOf : Sp := fun vs H Q _ => ∃ (n : Str) (d s : Addr) (ps : List (Str × Str)), vs = [.str n, .ref d, .ref s] ∧ H d = some (.dK (dkPS ps)) ∧ H s = some (.tup []) ∧
  ∀ (H' : Hp) (p : Addr), K0 H H' → H p = none → Im H' (.ref p) (dWhere (lookS ps n)) → Q (.ref p) H'
abbrev n_where_of : List Str := ["name", "there", "sick"]
theorem sc_where_of : FnScope n_where_of ["name", "there", "sick"] (C8.fnScope s_where_of) := ⟨rfl, rfl, rfl, by decide +kernel, rfl, by decide +kernel, by decide +kernel⟩
theorem cal_where_of (h : HasDef K mg "where_of" s_where_of ["name", "there", "sick"]) : C8.Cal P w K mg base 1 "where_of" spWhereOf [] := by
  refine mkCal h sc_where_of (fun vs H Q E hh => ?_) (fun fa cdv Ar outer s H vs Q E hr hh => ?_)
  · obtain ⟨n, d, s, ps, rfl, _⟩ := hh
    rfl
  · obtain ⟨n, d, s, ps, rfl, hd, hs, q⟩ := hh
    refine ⟨_, (pss_cons (ps_if (pt_cmp (pc_din (hu_of hr) (pv 0) (pv 1))) (pss_one (ps_ret (pe_tup (pa_cons pe_str (pa_cons (pe_dget (hu_of hr) (pv 1) (pv 0) (fun _ _ => rfl)) pa_nil))))) pss_nil)
      (pss_cons (ps_if (pt_cmpR (op_inK (K := K) rfl) (pv 0) (pv 2) (by rfl)) (pss_one (ps_ret (pe_tup (pa_cons pe_str pa_nil)))) pss_nil)
      (pss_one (ps_ret (pe_tup (pa_cons pe_str pa_nil)))))), ?_⟩
    have e := valV_dkPS ps n
    have g := DGet.k (k := Sum.inr n) hd
    refine ⟨_, rfl, _, rfl, d, _, rfl, g, _, rfl, ?_⟩
    rw [e] at g ⊢
    cases hl : lookS ps n with
    | some v =>
      rw [hl] at g
      refine if_true_of rfl ?_
      refine ⟨_, rfl, _, rfl, d, .str v, rfl, g, by show 2 ≤ sizeLine; decide, fun p hp => ?_⟩
      refine q _ p (.new hp) hp ?_
      rw [hl]
      exact .tup upd_same (.cons (.str _) (.cons (.str _) .nil))
    | none =>
      refine if_false_of rfl ?_
      refine ⟨_, rfl, _, rfl, s, [], rfl, .inr (.of hs), rfl, rfl, _, rfl, ?_⟩
      refine if_false_of rfl ?_
      refine ⟨by show 1 ≤ sizeLine; decide, fun p hp => ?_⟩
      refine q _ p (.new hp) hp ?_
      rw [hl]
      exact .tup upd_same (.cons (.str _) .nil)
/-! ### with_many -/
def spWithMany : Sp := fun vs H Q _ => ∃ (x : V) (p : Place), vs = [x, .int p.many] ∧ Im H x (dPlace p) ∧ ∀ (H' : Hp) (a : Addr), K0 H H' → Im H' (.ref a) (dPlace p) → Q (.ref a) H'
abbrev n_with_many : List Str := ["place", "many"]
theorem sc_with_many : FnScope n_with_many ["place", "many"] (C8.fnScope s_with_many) := ⟨rfl, rfl, rfl, by decide +kernel, rfl, by decide +kernel, by decide +kernel⟩
theorem cal_with_many (h : HasDef K mg "with_many" s_with_many ["place", "many"]) : C8.Cal P w K mg base 1 "with_many" spWithMany [] := by
  refine mkCal h sc_with_many (fun vs H Q E hh => ?_) (fun fa cdv Ar outer s H vs Q E hr hh => ?_)
  · obtain ⟨x, p, rfl, _⟩ := hh
    rfl
  · obtain ⟨x, p, rfl, ip, q⟩ := hh
    refine ⟨_, (pss_one (ps_ret (pe_op (op_catK (K := K) rfl) (pe_slice (sl_tupK (K := K) rfl) (pv 0) po_none (po_some pe_int)) (pe_tup (pa_cons (pv 1) (pa_cons (pe_ix (ix_tupK (K := K) rfl) (pv 0) pe_int (fun _ _ => rfl)) pa_nil)))))), ?_⟩
    obtain ⟨a, rfl, ha⟩ := im_place.mp ip
    refine ⟨_, rfl, _, rfl, a, _, rfl, .of ha, fun z => ?_, fun _ b hb => ?_⟩
    · exact absurd z.2 (by show ¬ HT.sIx 6 6 (some 4) = 6; decide)
    · have hcut : cutV [.str p.name, .str p.skill, .int p.rank, .int p.steps, .int p.many, .int p.grade] none (some 4) = [.str p.name, .str p.skill, .int p.rank, .int p.steps] := rfl
      rw [hcut] at *
      refine ⟨_, rfl, _, rfl, a, _, _, _, rfl, rfl, .of ((tk_new hb) _ _ ha), rfl, by show 2 ≤ sizeLine; decide, fun c hc => ?_⟩
      refine ⟨b, c, _, _, rfl, rfl, .of ((tk_new hc) _ _ upd_same), .of upd_same, by show 4 + 2 ≤ sizeLine; decide, (fun z => by cases z), (fun _ z => by cases z), fun _ _ d hd => ?_⟩
      refine q _ d (((Kp.new hb).then_new hc).then_new hd) ?_
      exact im_place.mpr ⟨d, rfl, upd_same⟩
/-! ### Holding -/
def spHoldingInit (CH : Addr) : Sp := fun vs H Q _ => ∃ (x dx sh a0 a1 a2 a3 a4 : Addr) (S : Ship), vs = [.ref x, .ref sh] ∧ H x = some (.ins CH dx []) ∧ ShipAt H sh a0 a1 a2 a3 a4 S ∧ ShipOk S ∧
  ∀ H', Kp (fun b => b = x) H H' → HoldO CH H' x S.roll → Q .non H'
abbrev n_Holding_init : List Str := ["self", "ship", "hand", "book"]
theorem sc_Holding_init : FnScope n_Holding_init ["self", "ship"] (C8.fnScope s_Holding_init) := ⟨rfl, rfl, rfl, by decide +kernel, rfl, by decide +kernel, by decide +kernel⟩
theorem mak_Holding (T : Txt K mg CM CH CV LP) (h : HasInit K mg "Holding" CH "Holding.__init__" s_Holding_init ["self", "ship"]) (c_names_in : C8.Cal P w K mg base 1 "names_in" spNamesIn []) : C8.Mak P w K mg base 2 "Holding" CH (spHoldingInit CH) [] := by
  refine mkMak h sc_Holding_init (fun vs H Q E hh => ?_) (fun fa cdv Ar outer s H vs Q E hr hh => ?_)
  · obtain ⟨x, dx, sh, a0, a1, a2, a3, a4, S, rfl, _⟩ := hh
    rfl
  · obtain ⟨x, dx, sh, a0, a1, a2, a3, a4, S, rfl, hx, sa, ok, q⟩ := hh
    refine ⟨_, (pss_cons (ps_fld (pv 0) (pe_callB (call_lenK (K := K) rfl) (by rfl) T.m_len (by decide +kernel) (pa_cons (pe_ix (ix_tupK (K := K) rfl) (pv 1) pe_int (fun _ _ => rfl)) pa_nil)) rfl)
      (pss_cons (ps_fld (pv 0) (pe_callTy (call_dictP rfl) (by rfl) T.m_dict (by decide +kernel) (pa_cons (pe_lc (own := [("hand", 2)]) (g := (gName 2)) (tt := tYes) rfl sc_Holding_init.nd (pi_tup (pe_ix (ix_tupK (K := K) rfl) (pv 1) pe_int (fun _ _ => rfl))) (blkOk_by (own := [("hand", 2)]) (N := n_Holding_init) (sc := C8.fnScope s_Holding_init) (by decide +kernel)) (fun _ _ _ _ _ => (pg_name (i := 2) sc_Holding_init.nd rfl (loc_by rfl))) (fun _ _ _ _ _ => pts_nil) (fun _ _ _ _ _ => (pe_tup (pa_cons (pe_ix (ix_tupK (K := K) rfl) (pv 2) pe_int (fun _ _ => rfl)) (pa_cons (pv 2) pa_nil))))) pa_nil)) rfl)
      (pss_cons (ps_fld (pv 0) (C8.pe_c c_names_in hr (by decide) rfl (pa_cons (pe_ix (ix_tupK (K := K) rfl) (pv 1) pe_int (fun _ _ => rfl)) pa_nil)) rfl)
      (pss_cons (ps_fld (pv 0) (pe_lc (own := [("book", 3)]) (g := (gName 3)) (tt := tYes) rfl sc_Holding_init.nd (pi_tup (pe_ix (ix_tupK (K := K) rfl) (pv 1) pe_int (fun _ _ => rfl))) (blkOk_by (own := [("book", 3)]) (N := n_Holding_init) (sc := C8.fnScope s_Holding_init) (by decide +kernel)) (fun _ _ _ _ _ => (pg_name (i := 3) sc_Holding_init.nd rfl (loc_by rfl))) (fun _ _ _ _ _ => pts_nil) (fun _ _ _ _ _ => (pe_ix (ix_tupK (K := K) rfl) (pv 3) pe_int (fun _ _ => rfl)))) rfl)
      (pss_cons (ps_fld (pv 0) pe_dnewK rfl)
      (pss_cons (ps_fld (pv 0) pe_dnewK rfl)
      (pss_one (ps_fld (pv 0) (pe_lst pa_nil) rfl)))))))), ?_⟩
    obtain ⟨c2, xr, e2, hr2, ihr⟩ := sa.r.tup_inv
    cases e2
    have hxl : xr.length = S.roll.length := by rw [ihr.length, List.length_map]
    have l12 := ok.r12
    -- sections
    refine ⟨_, rfl, sh, _, _, _, rfl, rfl, .of sa.s, rfl, a1, _, rfl, .inr (.of sa.t), _, rfl, x, CH, dx, _, rfl, hx, T.clH, T.nH _ (by simp), by show 0 < 1000; decide, ?_⟩
    have k1 : Kp (fun b => b = x) H (upd H x (.ins CH dx (putF "sections" (.int ((vN S.turn).length : Nat)) []))) := .set rfl hx (fun _ z => by cases z) (fun _ z => by cases z)
    have hx1 : upd H x (.ins CH dx (putF "sections" (.int ((vN S.turn).length : Nat)) [])) x = some (.ins CH dx [("sections", .int ((vN S.turn).length : Nat))]) := upd_same
    generalize upd H x (.ins CH dx (putF "sections" (.int ((vN S.turn).length : Nat)) [])) = G1 at k1 hx1 ⊢
    have sa1 := sa.mono k1.tk
    have hr3 := k1.tup hr2
    -- hands_by
    refine ⟨_, rfl, sh, _, _, _, rfl, rfl, .of sa1.s, rfl, a2, rfl, ⟨_, .of hr3⟩, fun D hD => ?_⟩
    refine lc_pure (n := xr.length) (walk_tup (K := K) (a := a2) (xs := xr)) (fun j H v => ∃ p, v = .ref p ∧ ∀ h z, S.roll[j]? = some h → xr[j]? = some z → H p = some (.tup [.str h.name, z])) (fun _ => true) hD (by omega) (fun j H H' v h t => ?_) (fun H2 k2 => SqT.of (k2.tup hr3)) ?_ ?_
    · obtain ⟨p, rfl, h⟩ := h
      exact ⟨p, rfl, fun z po h1 h2 => t _ _ (h z po h1 h2)⟩
    · rintro j z H2 H3 hj k2 ⟨rfl, hz⟩ Post Skip hP hS
      obtain ⟨D', hD', hi⟩ := ihr.get hz
      obtain ⟨h, hh, rfl⟩ := map_getQ hD'
      obtain ⟨e, sk, rfl, he, _⟩ := im_hand.mp (hi.mono (k1.tk.trans k2.tk))
      refine ⟨rfl, _, rfl, e, _, _, _, rfl, rfl, .of he, rfl, _, rfl, by show 2 ≤ sizeLine; decide, fun p hp => ?_⟩
      refine hP rfl _ _ (.new hp) ⟨p, rfl, fun h' z' h1 h2 => ?_⟩
      rw [hh] at h1; cases h1
      rw [hz] at h2; cases h2
      exact upd_same
    intro H2 acc k2 hacc hp
    rw [filter_true] at hp
    have hal : acc.length = xr.length := by rw [← hp.length]; simp
    have eacc : acc = (acc.map refOf).map V.ref := by
      apply List.ext_getElem (by simp)
      intro i h1 h2
      obtain ⟨b, hb, p, e, _⟩ := WS.Paired.get_r hp (List.getElem?_eq_getElem h1)
      simp only [List.map_map, List.getElem_map, Function.comp]
      rw [e]; rfl
    have hkl : (S.roll.map (·.name)).length = xr.length := by rw [List.length_map, hxl]
    refine ⟨D, acc.map refOf, zipK (S.roll.map (·.name)) xr, rfl, .of (by rw [← eacc]; exact hacc), paired_of_get (by rw [List.length_map, hal]; simp [zipK, hkl]) fun i p kv h1 h2 => ?_, fun d1 hd1 => ?_⟩
    · obtain ⟨v, hv, rfl⟩ := map_getQ h1
      unfold zipK at h2
      rw [List.getElem?_zipWith_eq_some] at h2
      obtain ⟨n, z, hn', hz, rfl⟩ := h2
      obtain ⟨h, hh, rfl⟩ := map_getQ hn'
      obtain ⟨j, hj, p, rfl, e⟩ := WS.Paired.get_r hp hv
      have : i < xr.length := (List.getElem?_eq_some_iff.mp hz).1
      rw [range_getElem? this] at hj
      cases hj
      exact .of (e h z hh hz)
    rw [mergeK_nil (by rw [zipK_keys hkl]; exact nodup_inr ok.rn)]
    have k3 : K0 G1 (upd H2 d1 (.dK (zipK (S.roll.map (·.name)) xr))) := k2.then_new hd1
    have hd1' : upd H2 d1 (.dK (zipK (S.roll.map (·.name)) xr)) d1 = some (.dK (zipK (S.roll.map (·.name)) xr)) := upd_same
    clear hacc
    generalize upd H2 d1 (.dK (zipK (S.roll.map (·.name)) xr)) = H3 at k3 hd1' ⊢
    refine ⟨_, rfl, x, CH, dx, _, rfl, k3.get0 hx1, T.clH, T.nH _ (by simp), by show 1 < 1000; decide, ?_⟩
    have kx3 : Kp (fun b => b = x) G1 (upd H3 x (.ins CH dx (putF "hands_by" (.ref d1) [("sections", .int ((vN S.turn).length : Nat))]))) := k3.up.then_set rfl (k3.get0 hx1) (fun _ z => by cases z) (fun _ z => by cases z)
    have hx3 : upd H3 x (.ins CH dx (putF "hands_by" (.ref d1) [("sections", .int ((vN S.turn).length : Nat))])) x = some (.ins CH dx [("sections", .int ((vN S.turn).length : Nat)), ("hands_by", .ref d1)]) := upd_same
    have nd1 : d1 ≠ x := fun z => by
      have := k3.get0 hx1
      rw [← z, hd1'] at this
      cases this
    have hd3 : upd H3 x (.ins CH dx (putF "hands_by" (.ref d1) [("sections", .int ((vN S.turn).length : Nat))])) d1 = some (.dK (zipK (S.roll.map (·.name)) xr)) := by rw [upd_ne nd1]; exact hd1'
    generalize upd H3 x (.ins CH dx (putF "hands_by" (.ref d1) [("sections", .int ((vN S.turn).length : Nat))])) = G2 at kx3 hx3 hd3 ⊢
    have k12 := k1.trans kx3
    have sa2 := sa.mono k12.tk
    -- billed
    refine ⟨_, rfl, sh, _, _, _, rfl, rfl, .of sa2.s, rfl, .ref a3, S.bills, rfl, sa2.b, ok.b8, ok.b4, fun H4 lb k4 hlb => ?_⟩
    refine ⟨_, rfl, x, CH, dx, _, rfl, k4.get0 hx3, T.clH, T.nH _ (by simp), by show 2 < 1000; decide, ?_⟩
    have kx4 : Kp (fun b => b = x) G2 (upd H4 x (.ins CH dx (putF "billed" (.ref lb) [("sections", .int ((vN S.turn).length : Nat)), ("hands_by", .ref d1)]))) := k4.up.then_set rfl (k4.get0 hx3) (fun _ z => by cases z) (fun _ z => by cases z)
    have hx4 : upd H4 x (.ins CH dx (putF "billed" (.ref lb) [("sections", .int ((vN S.turn).length : Nat)), ("hands_by", .ref d1)])) x = some (.ins CH dx [("sections", .int ((vN S.turn).length : Nat)), ("hands_by", .ref d1), ("billed", .ref lb)]) := upd_same
    generalize upd H4 x (.ins CH dx (putF "billed" (.ref lb) [("sections", .int ((vN S.turn).length : Nat)), ("hands_by", .ref d1)])) = G3 at kx4 hx4 ⊢
    have k13 := k12.trans kx4
    have sa3 := sa.mono k13.tk
    have hd4 := kx4.get hd3 nd1
    -- words_kept
    obtain ⟨c4, xk, e4, hk4, ihk⟩ := sa3.k.tup_inv
    cases e4
    have hkxl : xk.length = S.books.length := by rw [ihk.length, List.length_map]
    have k9 := ok.k9
    refine ⟨_, rfl, sh, _, _, _, rfl, rfl, .of sa3.s, rfl, a4, rfl, ⟨_, .of hk4⟩, fun D4 hD4 => ?_⟩
    refine lc_pure (n := xk.length) (walk_tup (K := K) (a := a4) (xs := xk)) (fun _ _ _ => True) (fun _ => true) hD4 (by omega) (fun _ _ _ _ h _ => h) (fun H2 k2 => SqT.of (k2.tup hk4)) ?_ ?_
    · rintro j z H2 H3 hj k2 ⟨rfl, hz⟩ Post Skip hP hS
      obtain ⟨D', hD', hi⟩ := ihk.get hz
      obtain ⟨b, hb, rfl⟩ := map_getQ hD'
      obtain ⟨e, ys, rfl, he, ihe⟩ := (hi.mono k2.tk).tup_inv
      obtain ⟨v0, r, rfl, h0, ihe⟩ := ihe.cons_inv
      exact ⟨rfl, _, rfl, e, _, _, _, rfl, rfl, .of he, atI_nat (j := 0) rfl, hP rfl _ _ (.refl _) trivial⟩
    intro H5 acc5 k5 hacc5 _
    refine ⟨_, rfl, x, CH, dx, _, rfl, k5.get0 hx4, T.clH, T.nH _ (by simp), by show 3 < 1000; decide, ?_⟩
    have kx5 : Kp (fun b => b = x) G3 (upd H5 x (.ins CH dx (putF "words_kept" (.ref D4) [("sections", .int ((vN S.turn).length : Nat)), ("hands_by", .ref d1), ("billed", .ref lb)]))) := k5.up.then_set rfl (k5.get0 hx4) (fun _ z => by cases z) (fun _ z => by cases z)
    have hx5 : upd H5 x (.ins CH dx (putF "words_kept" (.ref D4) [("sections", .int ((vN S.turn).length : Nat)), ("hands_by", .ref d1), ("billed", .ref lb)])) x = some (.ins CH dx [("sections", .int ((vN S.turn).length : Nat)), ("hands_by", .ref d1), ("billed", .ref lb), ("words_kept", .ref D4)]) := upd_same
    generalize upd H5 x (.ins CH dx (putF "words_kept" (.ref D4) [("sections", .int ((vN S.turn).length : Nat)), ("hands_by", .ref d1), ("billed", .ref lb)])) = G4 at kx5 hx5 ⊢
    have k14 := k13.trans kx5
    have hd5 := kx5.get hd4 nd1
    -- ill
    intro d2 hd2
    refine ⟨_, rfl, x, CH, dx, _, rfl, by rw [upd_ne (ne_of_none hx5 hd2)]; exact hx5, T.clH, T.nH _ (by simp), by show 4 < 1000; decide, ?_⟩
    have nd2 : d2 ≠ x := (ne_of_none hx5 hd2).symm
    have kx6 : Kp (fun b => b = x) G4 (upd (upd G4 d2 (.dK [])) x (.ins CH dx (putF "ill" (.ref d2) [("sections", .int ((vN S.turn).length : Nat)), ("hands_by", .ref d1), ("billed", .ref lb), ("words_kept", .ref D4)]))) := (Kp.new hd2).then_set rfl (by rw [upd_ne nd2.symm]; exact hx5) (fun _ z => by cases z) (fun _ z => by cases z)
    have hx6 : upd (upd G4 d2 (.dK [])) x (.ins CH dx (putF "ill" (.ref d2) [("sections", .int ((vN S.turn).length : Nat)), ("hands_by", .ref d1), ("billed", .ref lb), ("words_kept", .ref D4)])) x = some (.ins CH dx [("sections", .int ((vN S.turn).length : Nat)), ("hands_by", .ref d1), ("billed", .ref lb), ("words_kept", .ref D4), ("ill", .ref d2)]) := upd_same
    have hd26 : upd (upd G4 d2 (.dK [])) x (.ins CH dx (putF "ill" (.ref d2) [("sections", .int ((vN S.turn).length : Nat)), ("hands_by", .ref d1), ("billed", .ref lb), ("words_kept", .ref D4)])) d2 = some (.dK []) := by rw [upd_ne nd2, upd_same]
    generalize upd (upd G4 d2 (.dK [])) x (.ins CH dx (putF "ill" (.ref d2) [("sections", .int ((vN S.turn).length : Nat)), ("hands_by", .ref d1), ("billed", .ref lb), ("words_kept", .ref D4)])) = G5 at kx6 hx6 hd26 ⊢
    have k15 := k14.trans kx6
    have hd6 := kx6.get hd5 nd1
    -- wanted
    intro d3 hd3'
    have nd3 : d3 ≠ x := (ne_of_none hx6 hd3').symm
    refine ⟨_, rfl, x, CH, dx, _, rfl, by rw [upd_ne nd3.symm]; exact hx6, T.clH, T.nH _ (by simp), by show 5 < 1000; decide, ?_⟩
    have kx7 : Kp (fun b => b = x) G5 (upd (upd G5 d3 (.dK [])) x (.ins CH dx (putF "wanted" (.ref d3) [("sections", .int ((vN S.turn).length : Nat)), ("hands_by", .ref d1), ("billed", .ref lb), ("words_kept", .ref D4), ("ill", .ref d2)]))) := (Kp.new hd3').then_set rfl (by rw [upd_ne nd3.symm]; exact hx6) (fun _ z => by cases z) (fun _ z => by cases z)
    have hx7 : upd (upd G5 d3 (.dK [])) x (.ins CH dx (putF "wanted" (.ref d3) [("sections", .int ((vN S.turn).length : Nat)), ("hands_by", .ref d1), ("billed", .ref lb), ("words_kept", .ref D4), ("ill", .ref d2)])) x = some (.ins CH dx [("sections", .int ((vN S.turn).length : Nat)), ("hands_by", .ref d1), ("billed", .ref lb), ("words_kept", .ref D4), ("ill", .ref d2), ("wanted", .ref d3)]) := upd_same
    have hd37 : upd (upd G5 d3 (.dK [])) x (.ins CH dx (putF "wanted" (.ref d3) [("sections", .int ((vN S.turn).length : Nat)), ("hands_by", .ref d1), ("billed", .ref lb), ("words_kept", .ref D4), ("ill", .ref d2)])) d3 = some (.dK []) := by rw [upd_ne nd3, upd_same]
    generalize upd (upd G5 d3 (.dK [])) x (.ins CH dx (putF "wanted" (.ref d3) [("sections", .int ((vN S.turn).length : Nat)), ("hands_by", .ref d1), ("billed", .ref lb), ("words_kept", .ref D4), ("ill", .ref d2)])) = G6 at kx7 hx7 hd37 ⊢
    have k16 := k15.trans kx7
    have hd7 := kx7.get hd6 nd1
    have hd27 := kx7.get hd26 nd2
    -- words_up
    refine ⟨Nat.zero_le _, fun l3 hl3 => ?_⟩
    have nl3 : l3 ≠ x := (ne_of_none hx7 hl3).symm
    refine ⟨_, rfl, x, CH, dx, _, rfl, by rw [upd_ne nl3.symm]; exact hx7, T.clH, T.nH _ (by simp), by show 6 < 1000; decide, ?_⟩
    have kx8 : Kp (fun b => b = x) G6 (upd (upd G6 l3 (.lst [])) x (.ins CH dx (putF "words_up" (.ref l3) [("sections", .int ((vN S.turn).length : Nat)), ("hands_by", .ref d1), ("billed", .ref lb), ("words_kept", .ref D4), ("ill", .ref d2), ("wanted", .ref d3)]))) := (Kp.new hl3).then_set rfl (by rw [upd_ne nl3.symm]; exact hx7) (fun _ z => by cases z) (fun _ z => by cases z)
    have k17 := k16.trans kx8
    refine q _ k17 ⟨dx, d1, lb, D4, d2, d3, l3, _, upd_same, ⟨xr, ihr.mono k17.tk, kx8.get hd7 nd1⟩, kx8.get hd27 nd2, kx8.get hd37 nd3, by rw [upd_ne nl3, upd_same]⟩
end
end WS
set_option Elab.async false
set_option linter.all false
set_option maxRecDepth 100000
set_option maxHeartbeats 4000000
namespace WS
open PySem PySem.Spec PyProof.Rows L2 LamX
/-! ### what is never run -/
section
variable {X : Cx}
theorem pss_dead {body : List Stmt} : PSs X body (fun _ _ _ => False) := ⟨fun _ _ _ _ _ _ h => h.elim⟩
theorem pw_dead {e : Expr} : PW X e (fun _ _ _ => False) := ⟨fun _ _ _ _ _ _ _ h => h.elim⟩
end
/-! ### voyages: the mirror -/
def putS (st : List (Str × Str)) (k v : Str) : List (Str × Str) := if (st.any fun q => decide (q.1 = k)) = true then st.map (fun q => if q.1 = k then (q.1, v) else q) else st ++ [(k, v)]
def mergeS (st more : List (Str × Str)) : List (Str × Str) := more.foldl (fun acc q => putS acc q.1 q.2) st
def handsOf (S : Ship) (n : Nat) : List Hand := S.roll.filter fun h => decide (h.sec = (keeperOf S.day S.turn n : Nat))
def lotOf (S : Ship) (n : Nat) : List Place := S.bills.getD (watchOf S.day n) []
def stoodOf (S : Ship) (n : Nat) (st : List (Str × Str)) : List (Option Str) := (handsOf S n).map fun h => lookS st h.name
noncomputable def thereOf (S : Ship) (n : Nat) (st : List (Str × Str)) : List (Str × Str) := placesOf (handsOf S n) (manPosts (handsOf S n) (lotOf S n) (stoodOf S n st))
noncomputable def stNext (S : Ship) (n : Nat) (st : List (Str × Str)) : List (Str × Str) := mergeS st (thereOf S n st)
noncomputable def rowOf (S : Ship) (n : Nat) (st : List (Str × Str)) : List (Str × Option Str) := S.roll.map fun h => (h.name, lookS (thereOf S n st) h.name)
def dCell (z : Str × Option Str) : PyData := .tuple [.str z.1, dWhere z.2]
def dRow (r : List (Str × Option Str)) : PyData := .tuple (r.map dCell)
structure StOk (S : Ship) (st : List (Str × Str)) : Prop where
  nd : (st.map (·.1)).Nodup
  sub : ∀ k ∈ st.map (·.1), k ∈ S.roll.map (·.name)
theorem length_le_of_sub {α : Type} [DecidableEq α] : ∀ {l m : List α}, l.Nodup → (∀ x ∈ l, x ∈ m) → l.length ≤ m.length
  | [], _, _, _ => Nat.zero_le _
  | x :: l, m, hn, h => by
    rw [List.nodup_cons] at hn
    have hx := h x (List.mem_cons_self ..)
    have := length_le_of_sub (l := l) (m := m.erase x) hn.2 fun y hy => by
      refine (List.mem_erase_of_ne ?_).mpr (h y (List.mem_cons_of_mem _ hy))
      rintro rfl
      exact hn.1 hy
    rw [List.length_erase_of_mem hx] at this
    have := List.length_pos_of_mem hx
    simp; omega
theorem StOk.len {S : Ship} {st : List (Str × Str)} (h : StOk S st) : st.length ≤ S.roll.length := by
  have := length_le_of_sub h.nd h.sub
  simpa using this
theorem putS_keys (st : List (Str × Str)) (k v : Str) : (putS st k v).map (·.1) = if k ∈ st.map (·.1) then st.map (·.1) else st.map (·.1) ++ [k] := by
  have hk : (st.any fun q => decide (q.1 = k)) = true ↔ k ∈ st.map (·.1) := by
    rw [List.any_eq_true]
    constructor
    · rintro ⟨x, hx, e⟩
      exact List.mem_map.mpr ⟨x, hx, of_decide_eq_true e⟩
    · intro h
      obtain ⟨x, hx, e⟩ := List.mem_map.mp h
      exact ⟨x, hx, decide_eq_true e⟩
  unfold putS
  by_cases h : k ∈ st.map (·.1)
  · rw [if_pos h, if_pos (hk.mpr h), List.map_map]
    apply List.map_congr_left
    intro q _
    show (if q.1 = k then (q.1, v) else q).1 = q.1
    split <;> rfl
  · rw [if_neg h, if_neg fun z => h (hk.mp z)]
    simp
theorem putS_ok {S : Ship} {st : List (Str × Str)} {k v : Str} (h : StOk S st) (hk : k ∈ S.roll.map (·.name)) : StOk S (putS st k v) := by
  constructor
  · rw [putS_keys]
    split
    · exact h.nd
    · rename_i hn
      refine List.nodup_append.mpr ⟨h.nd, by simp, fun a ha b hb e => ?_⟩
      rw [List.mem_singleton] at hb
      subst hb e
      exact hn ha
  · intro x hx
    rw [putS_keys] at hx
    split at hx
    · exact h.sub x hx
    · rcases List.mem_append.mp hx with hx | hx
      · exact h.sub x hx
      · rw [List.mem_singleton] at hx
        rw [hx]; exact hk
theorem mergeS_ok {S : Ship} : ∀ {more st : List (Str × Str)}, StOk S st → (∀ k ∈ more.map (·.1), k ∈ S.roll.map (·.name)) → StOk S (mergeS st more)
  | [], _, h, _ => h
  | q :: more, st, h, hm => mergeS_ok (more := more) (putS_ok h (hm q.1 (by simp))) fun k hk => hm k (by simp at hk ⊢; exact .inr hk)
theorem thereOf_keys (S : Ship) (n : Nat) (st : List (Str × Str)) : ((thereOf S n st).map (·.1)).Sublist (S.roll.map (·.name)) :=
  (placesOf_sub _ _).trans (List.Sublist.map _ List.filter_sublist)
theorem stNext_ok {S : Ship} {n : Nat} {st : List (Str × Str)} (h : StOk S st) : StOk S (stNext S n st) := mergeS_ok h fun k hk => (thereOf_keys S n st).subset hk
theorem dkPS_put (st : List (Str × Str)) (k v : Str) : putK (dkPS st) (.inr k) (.str v) = dkPS (putS st k v) := by
  have ha : ((dkPS st).any fun kv => decide (kv.1 = .inr k)) = (st.any fun q => decide (q.1 = k)) := by
    unfold dkPS
    rw [List.any_map]
    congr 1
    funext q
    show decide ((Sum.inr q.1 : L2.Key) = .inr k) = decide (q.1 = k)
    by_cases e : q.1 = k
    · rw [decide_eq_true e, decide_eq_true (by rw [e])]
    · rw [decide_eq_false e, decide_eq_false fun z => e (Sum.inr.inj z)]
  unfold putK putS
  rw [ha]
  split
  · unfold dkPS
    rw [List.map_map, List.map_map]
    apply List.map_congr_left
    intro q _
    show (if (Sum.inr q.1 : L2.Key) = .inr k then ((Sum.inr q.1 : L2.Key), V.str v) else (.inr q.1, V.str q.2)) = (fun q : Str × Str => ((Sum.inr q.1 : L2.Key), V.str q.2)) (if q.1 = k then (q.1, v) else q)
    by_cases e : q.1 = k
    · rw [if_pos (by rw [e]), if_pos e]
    · rw [if_neg fun z => e (Sum.inr.inj z), if_neg e]
  · unfold dkPS; simp
theorem dkPS_merge : ∀ (more st : List (Str × Str)), mergeK (dkPS st) (dkPS more) = dkPS (mergeS st more)
  | [], _ => rfl
  | q :: more, st => by
    show mergeK (putK (dkPS st) (.inr q.1) (.str q.2)) (dkPS more) = _
    rw [dkPS_put, dkPS_merge more]; rfl
/-! ### a voyage on the heap -/
structure VoyO (CV CH : Addr) (H : Hp) (x ds : Addr) (S : Ship) (n : Nat) (st : List (Str × Str)) : Prop where
  ex : ∃ dx sh a0 a1 a2 a3 a4 lc hd dw t, H x = some (.ins CV dx [("ship_here", .ref sh), ("coming", .ref lc), ("holding", .ref hd), ("bell_now", .int (n : Nat)), ("station_by", .ref ds), ("was_at", .ref dw), ("told_now", .ref t)]) ∧
    ShipAt H sh a0 a1 a2 a3 a4 S ∧ H lc = some (.lst []) ∧ HoldO CH H hd S.roll ∧ H ds = some (.dK (dkPS st)) ∧ Told H t S.roll
theorem Told.k0 {H H' : Hp} {t : Addr} {roll : List Hand} (x : Told H t roll) (k : K0 H H') : Told H' t roll := by
  obtain ⟨r, s, w, c, h1, h2, h3, h4, h5⟩ := x.ex
  exact ⟨r, s, w, c, k.get0 h1, h2.mono k.tk, k.get0 h3, k.get0 h4, k.get0 h5⟩
theorem HoldO.k0 {CH : Addr} {H H' : Hp} {x : Addr} {roll : List Hand} (h : HoldO CH H x roll) (k : K0 H H') : HoldO CH H' x roll := by
  obtain ⟨dx, d1, lb, lw, d2, d3, l3, n, h1, ⟨vs, h2, h2'⟩, h3, h4, h5⟩ := h.ex
  exact ⟨dx, d1, lb, lw, d2, d3, l3, n, k.get0 h1, ⟨vs, h2.mono k.tk, k.get0 h2'⟩, k.get0 h3, k.get0 h4, k.get0 h5⟩
theorem VoyO.k0 {CV CH : Addr} {H H' : Hp} {x ds : Addr} {S : Ship} {n : Nat} {st : List (Str × Str)} (h : VoyO CV CH H x ds S n st) (k : K0 H H') : VoyO CV CH H' x ds S n st := by
  obtain ⟨dx, sh, a0, a1, a2, a3, a4, lc, hd, dw, t, h1, h2, h3, h4, h5, h6⟩ := h.ex
  exact ⟨dx, sh, a0, a1, a2, a3, a4, lc, hd, dw, t, k.get0 h1, h2.mono k.tk, k.get0 h3, h4.k0 k, k.get0 h5, h6.k0 k⟩
section
variable {P : Program} {w : World} {K : PySem.W.Frag} {mg : Str → Option Value} {base : Heap} {CM CH CV LP : Addr}
/-! ### come_to -/
/-- told_now comes last: at first it may stand for anything -/
def spComeTo (CV CH : Addr) : Sp := fun vs H Q _ => ∃ (x dx sh lc hd ds dw t0 : Addr) (n : Int) (roll : List Hand), vs = [.ref x] ∧
  H x = some (.ins CV dx [("ship_here", .ref sh), ("coming", .ref lc), ("holding", .ref hd), ("bell_now", .int n), ("station_by", .ref ds), ("was_at", .ref dw), ("told_now", .ref t0)]) ∧ H lc = some (.lst []) ∧ HoldO CH H hd roll ∧
  roll.length ≤ 12 ∧ (roll.map (·.name)).Nodup ∧ sortedS (roll.map (·.name)) = true ∧
  ∀ (H1 : Hp) (t : Addr), K0 H H1 → Told H1 t roll → t ≠ x → Q .non (upd H1 x (.ins CV dx [("ship_here", .ref sh), ("coming", .ref lc), ("holding", .ref hd), ("bell_now", .int n), ("station_by", .ref ds), ("was_at", .ref dw), ("told_now", .ref t)]))
abbrev n_Voyage_come_to : List Str := ["self"]
theorem sc_Voyage_come_to : FnScope n_Voyage_come_to ["self"] (C8.fnScope s_Voyage_come_to) := ⟨rfl, rfl, rfl, by decide +kernel, rfl, by decide +kernel, by decide +kernel⟩
theorem met_come_to (T : Txt K mg CM CH CV LP) (h : HasMeth K CV "come_to" "Voyage.come_to" s_Voyage_come_to ["self"]) (c_mustered : C8.Met P w K mg base 1 CH "mustered" (spMustered CH) []) : C8.Met P w K mg base 2 CV "come_to" (spComeTo CV CH) [] := by
  refine mkMet h sc_Voyage_come_to (fun vs H Q E hh => ?_) (fun fa cdv Ar outer s H vs Q E hr hh => ?_)
  · obtain ⟨x, dx, sh, lc, hd, ds, dw, t0, n, roll, rfl, _⟩ := hh
    rfl
  · obtain ⟨x, dx, sh, lc, hd, ds, dw, t0, n, roll, rfl, hx, hlc, ho, l12, hn, hs, q⟩ := hh
    have hu64 := hu64_of hr
    refine ⟨_, (pss_cons (ps_while PassesOwn.never (PW.pt (pw_and (pt_cmpR (op_neD hu64) (pe_fldK (K := K) rfl (pv 0) rfl) (pe_lst pa_nil) (nomark _)) pw_dead)) pss_dead)
      (pss_one (ps_fld (pv 0) (C8.pe_mt0 c_mustered hr (by decide) (pe_fldK (K := K) rfl (pv 0) rfl)) rfl))), ?_⟩
    refine ⟨fun mm σ H' => σ = [some (.ref x)] ∧ H' = H, ⟨0, rfl, rfl⟩, ?_⟩
    rintro mm σ H' ⟨rfl, rfl⟩
    refine ⟨_, rfl, x, CV, dx, _, .ref lc, rfl, hx, T.clV, T.nV _ (by simp), rfl, Nat.zero_le _, fun e he => ?_⟩
    refine ⟨.list [], .list [], .lst (.of (by rw [upd_ne (ne_of_none hlc he)]; exact hlc)) .nil, .lst (.of upd_same) .nil, rfl, rfl, _, rfl, ?_⟩
    refine if_false_of rfl ?_
    refine if_false_of rfl ?_
    have k1 : K0 H' (upd H' e (.lst [])) := .new he
    generalize upd H' e (.lst []) = H1 at k1 ⊢
    obtain ⟨hdx, _, _, _, _, _, _, _, hhd, _⟩ := (ho.k0 k1).ex
    refine ⟨_, rfl, x, CV, dx, _, .ref hd, rfl, k1.get0 hx, T.clV, T.nV _ (by simp), rfl, hd, hdx, _, rfl, hhd, rfl, hd, roll, rfl, ho.k0 k1, l12, hn, hs, fun H2 t k2 ht => ?_⟩
    have hx2 := (k1.trans k2).get0 hx
    refine ⟨_, rfl, x, CV, dx, _, rfl, hx2, T.clV, T.nV _ (by simp), by show 7 < 1000; decide, ?_⟩
    refine q H2 t (k1.trans k2) ht ?_
    obtain ⟨r, s, w, c, h1, _⟩ := ht.ex
    rintro rfl
    rw [hx2] at h1
    cases h1
/-! ### lot_of_watch -/
def spLotOf (CV CH : Addr) : Sp := fun vs H Q _ => ∃ (x ds : Addr) (S : Ship) (n : Nat) (st : List (Str × Str)), vs = [.ref x] ∧ VoyO CV CH H x ds S n st ∧ ShipOk S ∧
  ∀ (H' : Hp) (p : Addr) (ys : List V), K0 H H' → H p = none → H' p = some (.lst ys) → ImAll H' ys ((lotOf S n).map dPlace) → Q (.ref p) H'
abbrev n_Voyage_lot_of_watch : List Str := ["self", "number", "watch", "bell", "wants", "place"]
theorem sc_Voyage_lot_of_watch : FnScope n_Voyage_lot_of_watch ["self"] (C8.fnScope s_Voyage_lot_of_watch) := ⟨rfl, rfl, rfl, by decide +kernel, rfl, by decide +kernel, by decide +kernel⟩
theorem paired_im_mono {α : Type} {H H' : Hp} {f : α → PyData} {l : List α} {ys : List V} (h : Paired (fun a v => Im H v (f a)) l ys) (t : TK H H') : Paired (fun a v => Im H' v (f a)) l ys := paired_mono_mem h fun _ _ _ x => x.mono t
theorem watchOf_lt {ds : List Int} (h1 : ∀ d ∈ ds, 1 ≤ d) (h0 : 0 < ds.sum) (n : Int) : watchOf ds n < ds.length :=
  watchGo_lt _ _ (Int.emod_nonneg _ (by omega)) (Int.emod_lt_of_pos _ h0)
theorem met_lot_of_watch (T : Txt K mg CM CH CV LP) (h : HasMeth K CV "lot_of_watch" "Voyage.lot_of_watch" s_Voyage_lot_of_watch ["self"]) (c_watch_at : C8.Cal P w K mg base 2 "watch_at" spWatchAt []) (c_with_many : C8.Cal P w K mg base 1 "with_many" spWithMany []) : C8.Met P w K mg base 3 CV "lot_of_watch" (spLotOf CV CH) [] := by
  refine mkMet h sc_Voyage_lot_of_watch (fun vs H Q E hh => ?_) (fun fa cdv Ar outer s H vs Q E hr hh => ?_)
  · obtain ⟨x, ds, S, n, st, rfl, _⟩ := hh
    rfl
  · obtain ⟨x, ds, S, n, st, rfl, vo, ok, q⟩ := hh
    refine ⟨_, (pss_cons (ps_asg (C8.pe_c c_watch_at hr (by decide) rfl (pa_cons (pe_ix (ix_tupK (K := K) rfl) (pe_fldK (K := K) rfl (pv 0) rfl) pe_int (fun _ _ => rfl)) (pa_cons (pe_fldK (K := K) rfl (pv 0) rfl) pa_nil))) (pg_tup rfl (pgs_cons (pg_name (i := 1) sc_Voyage_lot_of_watch.nd rfl (loc_by rfl)) (pgs_cons (pg_name (i := 2) sc_Voyage_lot_of_watch.nd rfl (loc_by rfl)) (pgs_cons (pg_name (i := 3) sc_Voyage_lot_of_watch.nd rfl (loc_by rfl)) pgs_nil)))))
      (pss_cons (ps_set (i := 4) sc_Voyage_lot_of_watch.nd rfl (loc_by rfl) (pe_callTy (call_dictE rfl) (by rfl) T.m_dict (by decide +kernel) (pa_cons (pe_ix (ix_tupK (K := K) rfl) (pe_fldK (K := K) rfl (pv 0) rfl) pe_int (fun _ _ => rfl)) pa_nil)))
      (pss_one (ps_ret (pe_lc (own := [("place", 5)]) (g := (gName 5)) (tt := tYes) rfl sc_Voyage_lot_of_watch.nd (pi_tup (pe_ix (ix_tupK (K := K) rfl) (pe_ix (ix_tupK (K := K) rfl) (pe_fldK (K := K) rfl (pv 0) rfl) pe_int (fun _ _ => rfl)) (pv 2) (fun _ _ => rfl))) (blkOk_by (own := [("place", 5)]) (N := n_Voyage_lot_of_watch) (sc := C8.fnScope s_Voyage_lot_of_watch) (by decide +kernel)) (fun _ _ _ _ _ => (pg_name (i := 5) sc_Voyage_lot_of_watch.nd rfl (loc_by rfl))) (fun _ _ _ _ _ => pts_nil) (fun _ _ _ _ _ => (C8.pe_c c_with_many hr (by decide) rfl (pa_cons (pv 5) (pa_cons (pe_dget2 (hu_of hr) (pv 4) (pe_ix (ix_tupK (K := K) rfl) (pv 5) pe_int (fun _ _ => rfl)) (pe_ix (ix_tupK (K := K) rfl) (pv 5) pe_int (fun _ _ => rfl)) ⟨rfl, rfl, rfl, rfl⟩) pa_nil))))))))), ?_⟩
    obtain ⟨dx, sh, a0, a1, a2, a3, a4, lc, hd, dw, t, hx, sa, hlc, ho, hds, htd⟩ := vo.ex
    have d60 := ok.d60
    refine ⟨_, rfl, x, CV, dx, _, .ref sh, rfl, hx, T.clV, T.nV _ (by simp), rfl, sh, _, _, _, rfl, rfl, .of sa.s, atI_nat (j := 0) rfl, _, rfl, x, CV, dx, _, .int (n : Nat), rfl, hx, T.clV, T.nV _ (by simp), rfl, a0, S.day, (n : Nat), rfl, sa.d, ok.d1, ok.d0, by omega, fun H1 p k1 hp hp1 => ?_⟩
    refine ⟨p, _, rfl, .of hp1, rfl, _, _, rfl, _, _, rfl, _, _, rfl, rfl, ?_⟩
    obtain ⟨r, s, w, c, ht1, _, _, hw, _⟩ := (htd.k0 k1).ex
    refine ⟨_, rfl, x, CV, dx, _, .ref t, rfl, k1.get0 hx, T.clV, T.nV _ (by simp), rfl, t, _, _, _, rfl, rfl, .of ht1, atI_nat (j := 2) rfl, w, rfl, hw, fun d hd' => ?_⟩
    have k2 := k1.then_new hd' (o := .dK [])
    have hd2 : upd H1 d (.dK []) d = some (.dK []) := upd_same
    generalize upd H1 d (.dK []) = H2 at k2 hd2
    have sa2 := sa.mono k2.tk
    have hwl : watchOf S.day n < S.bills.length := by rw [ok.bl]; exact watchOf_lt ok.d1 ok.d0 _
    obtain ⟨c3, xb, e3, hb3, ihb⟩ := sa2.b.tup_inv
    cases e3
    obtain ⟨vl, hvl, ivl⟩ := ihb.getD (i := watchOf S.day n) (d := dLot (lotOf S n)) (by
      rw [List.getElem?_map, List.getElem?_eq_getElem hwl]
      unfold lotOf
      simp [hwl])
    obtain ⟨al, xl, rfl, hal, ihl⟩ := ivl.tup_inv
    have hxl : xl.length = (lotOf S n).length := by rw [ihl.length, List.length_map]
    have hl10 : (lotOf S n).length ≤ 10 := by
      unfold lotOf
      rw [show S.bills.getD (watchOf S.day n) [] = S.bills[watchOf S.day n] by simp [hwl]]
      exact ok.b4 _ (List.getElem_mem hwl)
    refine ⟨_, rfl, x, CV, dx, _, .ref sh, rfl, k2.get0 hx, T.clV, T.nV _ (by simp), rfl, sh, _, _, _, rfl, rfl, .of sa2.s, atI_nat (j := 3) rfl, _, rfl, a3, _, _, _, rfl, rfl, .of hb3, atI_nat hvl, al, rfl, ⟨_, .of hal⟩, fun D hD => ?_⟩
    refine lc_pure (n := xl.length) (walk_tup (K := K) (a := al) (xs := xl)) (fun j H v => ∀ p, (lotOf S n)[j]? = some p → Im H v (dPlace p)) (fun _ => true) hD (by omega) (fun j H H' v h t p hp => (h p hp).mono t) (fun H2 k2 => SqT.of (k2.tup hal)) ?_ ?_
    · rintro j z H3 H4 hj k3 ⟨rfl, hz⟩ Post Skip hP hS
      obtain ⟨D', hD', hi⟩ := ihl.get hz
      obtain ⟨pl, hpl, rfl⟩ := map_getQ hD'
      have hi := hi.mono k3.tk
      obtain ⟨e, rfl, he⟩ := im_place.mp hi
      have hd4 := k3.get0 hd2
      refine ⟨rfl, _, rfl, _, rfl, d, rfl, .inl ⟨_, .of hd4⟩, _, rfl, e, _, _, _, rfl, rfl, .of he, rfl, _, rfl, e, _, _, _, rfl, rfl, .of he, rfl, none, DGet.k (k := Sum.inr pl.name) hd4, ?_⟩
      refine ⟨.ref e, pl, rfl, hi, fun H5 a k5 ha => hP rfl _ _ k5 fun p' hp' => ?_⟩
      rw [hpl] at hp'; cases hp'
      exact ha
    · intro H3 acc k3 hacc hp
      rw [filter_true, hxl] at hp
      have hpp : Paired (fun p v => Im H3 v (dPlace p)) (lotOf S n) acc := by
        refine paired_of_get (by rw [← hp.length]; simp) fun i p v h1 h2 => ?_
        obtain ⟨j, hj, f⟩ := WS.Paired.get_r hp h2
        rw [range_getElem? (List.getElem?_eq_some_iff.mp h1).1] at hj
        cases hj
        exact f p h1
      exact q H3 D acc (k2.trans k3) (k2.fr _ hD) hacc (ImAll.of_paired hpp)
end
end WS
set_option Elab.async false
set_option linter.all false
set_option maxRecDepth 100000
set_option maxHeartbeats 4000000
namespace WS
open PySem PySem.Spec PyProof.Rows L2 LamX
theorem filterMap_filter {α : Type} (p : α → Bool) (l : List α) : l.filterMap (fun a => if p a = true then some a else none) = l.filter p := by
  induction l with
  | nil => rfl
  | cons a l ih =>
    by_cases h : p a = true
    · rw [List.filterMap_cons_some (b := a) (by simp [h]), ih, List.filter_cons_of_pos h]
    · rw [List.filterMap_cons_none (by simp [h]), ih, List.filter_cons_of_neg h]
theorem tyD {K : PySem.W.Frag} {H : Hp} {d : Addr} {kvs : List (L2.Key × V)} (h : H d = some (.dK kvs)) : tyV K "dict" (.ref d) H := .inr (.inr (.inl ⟨rfl, .inl ⟨_, h⟩⟩))
theorem tyL {K : PySem.W.Frag} {H : Hp} {d : Addr} {xs : List V} (h : H d = some (.lst xs)) : tyV K "list" (.ref d) H := .inl ⟨rfl, _, .of h⟩
section
variable {P : Program} {w : World} {K : PySem.W.Frag} {mg : Str → Option Value} {base : Heap} {CM CH CV LP : Addr}
/-! ### by_bill -/
def spByBill (CV CH : Addr) : Sp := fun vs H Q _ => ∃ (x ds : Addr) (S : Ship) (n : Nat) (st : List (Str × Str)), vs = [.ref x] ∧ VoyO CV CH H x ds S n st ∧ ShipOk S ∧
  ∀ (H' : Hp) (p h l s : Addr), K0 H H' → H' p = some (.tup [.ref h, .ref l, .ref s]) → Im H' (.ref h) (dHands (handsOf S n)) → Im H' (.ref l) (dLot (lotOf S n)) → H' s = some (.tup ((stoodOf S n st).map vO)) → Q (.ref p) H'
abbrev n_Voyage_by_bill : List Str := ["self", "roll", "sick", "wants", "calls", "section", "hands", "hand"]
theorem sc_Voyage_by_bill : FnScope n_Voyage_by_bill ["self"] (C8.fnScope s_Voyage_by_bill) := ⟨rfl, rfl, rfl, by decide +kernel, rfl, by decide +kernel, by decide +kernel⟩
theorem met_by_bill (T : Txt K mg CM CH CV LP) (h : HasMeth K CV "by_bill" "Voyage.by_bill" s_Voyage_by_bill ["self"]) (c_keeper : C8.Cal P w K mg base 6 "keeper" spKeeper []) (c_lot_of_watch : C8.Met P w K mg base 3 CV "lot_of_watch" (spLotOf CV CH) []) : C8.Met P w K mg base 7 CV "by_bill" (spByBill CV CH) [] := by
  refine mkMet h sc_Voyage_by_bill (fun vs H Q E hh => ?_) (fun fa cdv Ar outer s H vs Q E hr hh => ?_)
  · obtain ⟨x, ds, S, n, st, rfl, _⟩ := hh
    rfl
  · obtain ⟨x, ds, S, n, st, rfl, vo, ok, q⟩ := hh
    refine ⟨_, (pss_cons (ps_asg (pe_fldK (K := K) rfl (pv 0) rfl) (pg_tup rfl (pgs_cons (pg_name (i := 1) sc_Voyage_by_bill.nd rfl (loc_by rfl)) (pgs_cons (pg_name (i := 2) sc_Voyage_by_bill.nd rfl (loc_by rfl)) (pgs_cons (pg_name (i := 3) sc_Voyage_by_bill.nd rfl (loc_by rfl)) (pgs_cons (pg_name (i := 4) sc_Voyage_by_bill.nd rfl (loc_by rfl)) pgs_nil))))))
      (pss_cons (ps_set (i := 5) sc_Voyage_by_bill.nd rfl (loc_by rfl) (C8.pe_c c_keeper hr (by decide) rfl (pa_cons (pe_ix (ix_tupK (K := K) rfl) (pe_fldK (K := K) rfl (pv 0) rfl) pe_int (fun _ _ => rfl)) (pa_cons (pe_ix (ix_tupK (K := K) rfl) (pe_fldK (K := K) rfl (pv 0) rfl) pe_int (fun _ _ => rfl)) (pa_cons (pe_fldK (K := K) rfl (pv 0) rfl) pa_nil)))))
      (pss_cons (ps_set (i := 6) sc_Voyage_by_bill.nd rfl (loc_by rfl) (pe_callTy (call_tupK (K := K) rfl) (by rfl) T.m_tuple (by decide +kernel) (pa_cons (pe_lc (own := [("hand", 7)]) (g := (gName 7)) (tt := _) rfl sc_Voyage_by_bill.nd (pi_tup (pv 1)) (blkOk_by (own := [("hand", 7)]) (N := n_Voyage_by_bill) (sc := C8.fnScope s_Voyage_by_bill) (by decide +kernel)) (fun _ _ _ _ _ => (pg_name (i := 7) sc_Voyage_by_bill.nd rfl (loc_by rfl))) (fun _ _ _ _ _ => (pts_one (PW.pt (pw_and (pt_cmpR op_eq (pe_ix (ix_tupK (K := K) rfl) (pv 7) pe_int (fun _ _ => rfl)) (pv 5) (nomark _)) (pw_and1 (pt_cmpR (op_notInK (K := K) rfl) (pe_ix (ix_tupK (K := K) rfl) (pv 7) pe_int (fun _ _ => rfl)) (pv 2) (by rfl))))))) (fun _ _ _ _ _ => (pv 7))) pa_nil)))
      (pss_one (ps_ret (pe_tup (pa_cons (pv 6) (pa_cons (pe_callTy (call_tupK (K := K) rfl) (by rfl) T.m_tuple (by decide +kernel) (pa_cons (C8.pe_mt0 c_lot_of_watch hr (by decide) (pv 0)) pa_nil)) (pa_cons (pe_callTy (call_tupK (K := K) rfl) (by rfl) T.m_tuple (by decide +kernel) (pa_cons (pe_lc (own := [("hand", 7)]) (g := (gName 7)) (tt := tYes) rfl sc_Voyage_by_bill.nd (pi_tup (pv 6)) (blkOk_by (own := [("hand", 7)]) (N := n_Voyage_by_bill) (sc := C8.fnScope s_Voyage_by_bill) (by decide +kernel)) (fun _ _ _ _ _ => (pg_name (i := 7) sc_Voyage_by_bill.nd rfl (loc_by rfl))) (fun _ _ _ _ _ => pts_nil) (fun _ _ _ _ _ => (pe_dget1 (hu_of hr) (pe_fldK (K := K) rfl (pv 0) rfl) (pe_ix (ix_tupK (K := K) rfl) (pv 7) pe_int (fun _ _ => rfl)) ⟨rfl, rfl, rfl, rfl⟩))) pa_nil)) pa_nil))))))))), ?_⟩
    obtain ⟨dx, sh, a0, a1, a2, a3, a4, lc, hd, dw, t, hx, sa, hlc, ho, hds, htd⟩ := vo.ex
    obtain ⟨r, s, w, c, ht1, hir, hs, hw, hc⟩ := htd.ex
    have d60 := ok.d60
    have l12 := ok.r12
    refine ⟨_, rfl, x, CV, dx, _, .ref t, rfl, hx, T.clV, T.nV _ (by simp), rfl, t, _, rfl, .of ht1, rfl, _, _, rfl, _, _, rfl, _, _, rfl, _, _, rfl, rfl, ?_⟩
    refine ⟨_, rfl, x, CV, dx, _, .ref sh, rfl, hx, T.clV, T.nV _ (by simp), rfl, sh, _, _, _, rfl, rfl, .of sa.s, atI_nat (j := 0) rfl, _, rfl, x, CV, dx, _, .ref sh, rfl, hx, T.clV, T.nV _ (by simp), rfl, sh, _, _, _, rfl, rfl, .of sa.s, atI_nat (j := 1) rfl,
      _, rfl, x, CV, dx, _, .int (n : Nat), rfl, hx, T.clV, T.nV _ (by simp), rfl, a0, a1, S.day, S.turn, n, rfl, sa.d, sa.t, ok.tok, ok.d1, ok.d0, by omega, fun H1 k1 => ?_⟩
    obtain ⟨r', xr, er, hr1, ihr⟩ := (hir.mono k1.tk).tup_inv
    cases er
    have hxl : xr.length = S.roll.length := by rw [ihr.length, List.length_map]
    have hs1 := k1.get0 hs
    refine ⟨_, rfl, r, rfl, ⟨_, .of hr1⟩, fun D hD => ?_⟩
    refine lc_pure (n := S.roll.length) (hxl ▸ walk_tup (K := K) (a := r) (xs := xr)) (fun j H v => ∀ h, S.roll[j]? = some h → Im H v (dHand h)) (fun j => match S.roll[j]? with | some h => decide (h.sec = (keeperOf S.day S.turn n : Nat)) | none => false) hD (by omega) (fun j H H' v h t p hp => (h p hp).mono t) (fun H2 k2 => SqT.of (k2.tup hr1)) ?_ ?_
    · rintro j z H2 H3 hj k2 ⟨rfl, hz⟩ Post Skip hP hS
      obtain ⟨D', hD', hi⟩ := ihr.get hz
      obtain ⟨h, hh, rfl⟩ := map_getQ hD'
      have hi := hi.mono k2.tk
      obtain ⟨e, sk, rfl, he, _⟩ := im_hand.mp hi
      rw [hh] at hP hS
      simp only [] at hP hS
      refine ⟨rfl, ?_⟩
      refine ⟨_, rfl, e, _, _, _, rfl, rfl, .of he, atI_nat (j := 3) rfl, _, rfl, rfl, _, rfl, ?_⟩
      by_cases hsec : h.sec = (keeperOf S.day S.turn n : Nat)
      · refine if_true_of (by simp [hsec]) ?_
        refine ⟨_, rfl, e, _, _, _, rfl, rfl, .of he, atI_nat (j := 0) rfl, _, rfl, s, [], rfl, .inr (.of (k2.get0 hs1)), rfl, rfl, _, rfl, ?_⟩
        refine if_true_of rfl ?_
        exact ⟨_, rfl, hP (decide_eq_true hsec) _ _ (.refl _) fun h' h1 => by cases h1; exact hi⟩
      · refine if_false_of (by simp [hsec]) ?_
        exact if_false_of rfl (hS (decide_eq_false hsec) _ (.refl _))
    intro H2 acc k2 hacc hp
    have hpp : Paired (fun h v => Im H2 v (dHand h)) (handsOf S n) acc := by
      unfold handsOf
      rw [← filterMap_filter]
      refine paired_filter S.roll _ _ (fun i h hh => ?_) (fun i h b v hh hb hF => ?_) hp
      · rw [hh]
        simp only []
        by_cases e : h.sec = (keeperOf S.day S.turn n : Nat)
        · simp [e]
        · simp [e]
      · split at hb
        · cases hb; exact hF h hh
        · cases hb
    have hal : acc.length = (handsOf S n).length := hpp.length.symm
    have hhl : (handsOf S n).length ≤ 12 := Nat.le_trans (List.length_filter_le _ _) l12
    refine ⟨D, acc, rfl, .inl ⟨.of hacc, fun ah hah => ?_⟩⟩
    have k3 : K0 H1 (upd H2 ah (.tup acc)) := k2.then_new hah
    have hah3 : upd H2 ah (.tup acc) ah = some (.tup acc) := upd_same
    have ihh := (ImAll.of_paired hpp).mono (tk_new hah (o := .tup acc))
    clear hacc
    generalize upd H2 ah (.tup acc) = H3 at k3 hah3 ihh ⊢
    have k03 := k1.trans k3
    have vo3 := vo.k0 k03
    refine ⟨_, rfl, _, rfl, x, dx, _, rfl, k03.get0 hx, rfl, x, ds, S, n, st, rfl, vo3, ok, fun H4 pl ys k4 hpl hpl4 iys => ?_⟩
    refine ⟨pl, ys, rfl, .inl ⟨.of hpl4, fun al hal' => ?_⟩⟩
    have k5 : K0 H3 (upd H4 al (.tup ys)) := k4.then_new hal'
    have hal5 : upd H4 al (.tup ys) al = some (.tup ys) := upd_same
    have iys5 := iys.mono (tk_new hal' (o := .tup ys))
    generalize upd H4 al (.tup ys) = H5 at k5 hal5 iys5 ⊢
    have hah5 := k5.get0 hah3
    refine ⟨_, rfl, ah, rfl, ⟨_, .of hah5⟩, fun D6 hD6 => ?_⟩
    have k05 := k03.trans k5
    refine lc_pure (n := acc.length) (walk_tup (K := K) (a := ah) (xs := acc)) (fun j _ v => ∀ h, (handsOf S n)[j]? = some h → v = vO (lookS st h.name)) (fun _ => true) hD6 (by omega) (fun j H H' v h t => h) (fun H2 k2 => SqT.of (k2.tup hah5)) ?_ ?_
    · rintro j z H6 H7 hj k6 ⟨rfl, hz⟩ Post Skip hP hS
      obtain ⟨D', hD', hi⟩ := ihh.get hz
      obtain ⟨h, hh, rfl⟩ := map_getQ hD'
      obtain ⟨e, sk, rfl, he, _⟩ := im_hand.mp (hi.mono (k5.tk.trans k6.tk))
      have kk := k05.trans k6
      have hds6 := kk.get0 hds
      refine ⟨rfl, _, rfl, x, CV, dx, _, .ref ds, rfl, kk.get0 hx, T.clV, T.nV _ (by simp), rfl, ds, rfl, .inl ⟨_, .of hds6⟩, _, rfl, e, _, _, _, rfl, rfl, .of he, atI_nat (j := 0) rfl, _, DGet.k (k := Sum.inr h.name) hds6, ?_⟩
      refine hP rfl _ _ (.refl _) fun h' h1 => ?_
      rw [hh] at h1; cases h1
      rw [valV_dkPS]
      cases lookS st h.name <;> rfl
    · intro H6 acc6 k6 hacc6 hp6
      rw [filter_true, hal] at hp6
      refine ⟨D6, acc6, rfl, .inl ⟨.of hacc6, fun sx hsx => ?_⟩⟩
      refine ⟨by show 3 ≤ sizeLine; decide, fun p hp => ?_⟩
      have k7 := (k6.then_new hsx (o := .tup acc6)).then_new hp (o := .tup [.ref ah, .ref al, .ref sx])
      refine q _ p ah al sx (k05.trans k7) upd_same (.tup (k7.get0 hah5) (ihh.mono (k5.tk.trans k7.tk))) (.tup (k7.get0 hal5) (iys5.mono k7.tk)) ?_
      rw [upd_ne (ne_of_none upd_same hp), upd_same, paired_eq_map_range hp6]
      unfold stoodOf
      rw [List.map_map]; rfl
end
end WS
set_option Elab.async false
set_option linter.all false
set_option maxRecDepth 100000
set_option maxHeartbeats 4000000
namespace WS
open PySem PySem.Spec PyProof.Rows L2 LamX
/-- all of H stands in H' -/
def Sub (H H' : Hp) : Prop := ∀ b o, H b = some o → H' b = some o
theorem Sub.tk {H H' : Hp} (s : Sub H H') : TK H H' := fun b xs h => s b _ h
theorem Sub.trans {H H1 H2 : Hp} (a : Sub H H1) (b : Sub H1 H2) : Sub H H2 := fun c o h => b c o (a c o h)
theorem K0.sub {H H' : Hp} (k : K0 H H') : Sub H H' := fun b o h => k.get0 h
open Classical in
/-- the heap without U -/
noncomputable def hid (H : Hp) (U : Addr → Prop) : Hp := fun b => if U b then none else H b
theorem hid_sub (H : Hp) (U : Addr → Prop) : Sub (hid H U) H := fun b o h => by
  unfold hid at h
  split at h
  · cases h
  · exact h
theorem hid_ne {H : Hp} {U : Addr → Prop} {b : Addr} {o : HO} (h : hid H U b = some o) : ¬ U b := by
  unfold hid at h
  split at h
  · cases h
  · assumption
theorem hid_eq {H : Hp} {U : Addr → Prop} {b : Addr} (h : ¬ U b) : hid H U b = H b := by
  unfold hid
  rw [if_neg h]
def XD (x ds : Addr) (b : Addr) : Prop := b = x ∨ b = ds
theorem hid_kp {H H' : Hp} {U T : Addr → Prop} (k : Kp T H H') (h : ∀ b, T b → U b) : Sub (hid H U) (hid H' U) := fun b o e => by
  have n := hid_ne e
  rw [hid_eq n]
  exact k.get (hid_sub _ _ _ _ e) fun z => n (h b z)
theorem Told.sub {H H' : Hp} {t : Addr} {roll : List Hand} (x : Told H t roll) (k : Sub H H') : Told H' t roll := by
  obtain ⟨r, s, w, c, h1, h2, h3, h4, h5⟩ := x.ex
  exact ⟨r, s, w, c, k _ _ h1, h2.mono k.tk, k _ _ h3, k _ _ h4, k _ _ h5⟩
theorem HoldO.sub {CH : Addr} {H H' : Hp} {x : Addr} {roll : List Hand} (h : HoldO CH H x roll) (k : Sub H H') : HoldO CH H' x roll := by
  obtain ⟨dx, d1, lb, lw, d2, d3, l3, n, h1, ⟨vs, h2, h2'⟩, h3, h4, h5⟩ := h.ex
  exact ⟨dx, d1, lb, lw, d2, d3, l3, n, k _ _ h1, ⟨vs, h2.mono k.tk, k _ _ h2'⟩, k _ _ h3, k _ _ h4, k _ _ h5⟩
theorem told_tk {H G : Hp} {t : Addr} {roll : List Hand} (h : Told H t roll) (tk : TK H G) (ke : ∀ w, H w = some (ETup w) → G w = some (ETup w)) : Told G t roll := by
  obtain ⟨r, s, w, c, h1, h2, h3, h4, h5⟩ := h.ex
  exact ⟨r, s, w, c, tk _ _ h1, h2.mono tk, tk _ _ h3, ke _ h4, tk _ _ h5⟩
structure VoyB (CV CH : Addr) (U : Addr → Prop) (H : Hp) (x ds : Addr) (S : Ship) (n : Nat) (st : List (Str × Str)) : Prop where
  ex : ∃ dx sh a0 a1 a2 a3 a4 lc hd dw t, H x = some (.ins CV dx [("ship_here", .ref sh), ("coming", .ref lc), ("holding", .ref hd), ("bell_now", .int (n : Nat)), ("station_by", .ref ds), ("was_at", .ref dw), ("told_now", .ref t)]) ∧
    H ds = some (.dK (dkPS st)) ∧ ShipAt (hid H U) sh a0 a1 a2 a3 a4 S ∧ hid H U lc = some (.lst []) ∧ HoldO CH (hid H U) hd S.roll ∧ Told (hid H U) t S.roll
  ux : ∀ b, XD x ds b → U b
  uk : ∀ b, U b → XD x ds b ∨ ∃ xs, H b = some (.lst xs)
theorem VoyB.voy {CV CH : Addr} {U : Addr → Prop} {H : Hp} {x ds : Addr} {S : Ship} {n : Nat} {st : List (Str × Str)} (v : VoyB CV CH U H x ds S n st) : VoyO CV CH H x ds S n st := by
  obtain ⟨dx, sh, a0, a1, a2, a3, a4, lc, hd, dw, t, h1, h2, h3, h4, h5, h6⟩ := v.ex
  have k := hid_sub H U
  exact ⟨dx, sh, a0, a1, a2, a3, a4, lc, hd, dw, t, h1, h3.mono k.tk, k _ _ h4, h5.sub k, h2, h6.sub k⟩
/-- kept where all but lists of U stays -/
theorem VoyB.kp {CV CH : Addr} {U T : Addr → Prop} {H H' : Hp} {x ds : Addr} {S : Ship} {n : Nat} {st : List (Str × Str)} (v : VoyB CV CH U H x ds S n st) (k : Kp T H H') (hT : ∀ b, T b → U b) (hx : ¬ T x) (hds : ¬ T ds) (hl : ∀ b, U b → T b → ∃ xs, H' b = some (.lst xs)) : VoyB CV CH U H' x ds S n st := by
  obtain ⟨dx, sh, a0, a1, a2, a3, a4, lc, hd, dw, t, h1, h2, h3, h4, h5, h6⟩ := v.ex
  have s := hid_kp k hT
  refine ⟨⟨dx, sh, a0, a1, a2, a3, a4, lc, hd, dw, t, k.get h1 hx, k.get h2 hds, h3.mono s.tk, s _ _ h4, h5.sub s, h6.sub s⟩, v.ux, fun b ub => ?_⟩
  by_cases tb : T b
  · exact .inr (hl b ub tb)
  · rcases v.uk b ub with z | ⟨xs, z⟩
    · exact .inl z
    · exact .inr ⟨xs, k.get z tb⟩
theorem VoyB.k0 {CV CH : Addr} {U : Addr → Prop} {H H' : Hp} {x ds : Addr} {S : Ship} {n : Nat} {st : List (Str × Str)} (v : VoyB CV CH U H x ds S n st) (k : K0 H H') : VoyB CV CH U H' x ds S n st :=
  v.kp k (fun _ z => z.elim) (fun z => z) (fun z => z) (fun _ _ z => z.elim)
/-- a new list is off it -/
theorem VoyB.off {CV CH : Addr} {U : Addr → Prop} {H : Hp} {x ds p : Addr} {S : Ship} {n : Nat} {st : List (Str × Str)} {xs : List V} (v : VoyB CV CH U H x ds S n st) (hp : H p = none) : VoyB CV CH (fun b => U b ∨ b = p) (upd H p (.lst xs)) x ds S n st := by
  obtain ⟨dx, sh, a0, a1, a2, a3, a4, lc, hd, dw, t, h1, h2, h3, h4, h5, h6⟩ := v.ex
  have s : Sub (hid H U) (hid (upd H p (.lst xs)) fun b => U b ∨ b = p) := fun b o e => by
    have n := hid_ne e
    have e' := hid_sub _ _ _ _ e
    have np := ne_of_none e' hp
    rw [hid_eq (by rintro (z | z); exact n z; exact np z), upd_ne np]
    exact e'
  refine ⟨⟨dx, sh, a0, a1, a2, a3, a4, lc, hd, dw, t, by rw [upd_ne (ne_of_none h1 hp)]; exact h1, by rw [upd_ne (ne_of_none h2 hp)]; exact h2, h3.mono s.tk, s _ _ h4, h5.sub s, h6.sub s⟩, fun b z => .inl (v.ux b z), fun b ub => ?_⟩
  rcases ub with ub | rfl
  · rcases v.uk b ub with z | ⟨ys, z⟩
    · exact .inl z
    · exact .inr ⟨ys, by rw [upd_ne (ne_of_none z hp)]; exact z⟩
  · exact .inr ⟨xs, upd_same⟩
section
variable {P : Program} {w : World} {K : PySem.W.Frag} {mg : Str → Option Value} {base : Heap} {CM CH CV LP : Addr}
def spGoOn (CV CH : Addr) : Sp := fun vs H Q _ => ∃ (x ds : Addr) (U : Addr → Prop) (S : Ship) (n : Nat) (st : List (Str × Str)), vs = [.ref x] ∧ VoyB CV CH U H x ds S n st ∧ ShipOk S ∧ StOk S st ∧
  ∀ (H' : Hp) (p : Addr), Kp (XD x ds) H H' → VoyB CV CH U H' x ds S (n + 1) (stNext S n st) → Im H' (.ref p) (dRow (rowOf S n st)) → Q (.ref p) H'
abbrev n_Voyage_go_on : List Str := ["self", "roll", "sick", "wants", "calls", "hands", "lot", "stood", "there", "stay", "hand"]
theorem sc_Voyage_go_on : FnScope n_Voyage_go_on ["self"] (C8.fnScope s_Voyage_go_on) := ⟨rfl, rfl, rfl, by decide +kernel, rfl, by decide +kernel, by decide +kernel⟩
theorem met_go_on (T : Txt K mg CM CH CV LP) (h : HasMeth K CV "go_on" "Voyage.go_on" s_Voyage_go_on ["self"]) (c_by_bill : C8.Met P w K mg base 7 CV "by_bill" (spByBill CV CH) []) (c_man : C8.Cal P w K mg base 6 "man" spMan []) (c_places_of : C8.Cal P w K mg base 1 "places_of" spPlacesOf [])
    (c_come_to : C8.Met P w K mg base 2 CV "come_to" (spComeTo CV CH) []) (c_where_of : C8.Cal P w K mg base 1 "where_of" spWhereOf []) : C8.Met P w K mg base 8 CV "go_on" (spGoOn CV CH) [] := by
  refine mkMet h sc_Voyage_go_on (fun vs H Q E hh => ?_) (fun fa cdv Ar outer s H vs Q E hr hh => ?_)
  · obtain ⟨x, ds, U, S, n, st, rfl, _⟩ := hh
    rfl
  · obtain ⟨x, ds, U, S, n, st, rfl, vb, ok, so, q⟩ := hh
    have hu64 := hu64_of hr
    refine ⟨_, (pss_cons (ps_asg (pe_fldK (K := K) rfl (pv 0) rfl) (pg_tup rfl (pgs_cons (pg_name (i := 1) sc_Voyage_go_on.nd rfl (loc_by rfl)) (pgs_cons (pg_name (i := 2) sc_Voyage_go_on.nd rfl (loc_by rfl)) (pgs_cons (pg_name (i := 3) sc_Voyage_go_on.nd rfl (loc_by rfl)) (pgs_cons (pg_name (i := 4) sc_Voyage_go_on.nd rfl (loc_by rfl)) pgs_nil))))))
      (pss_cons (ps_asg (C8.pe_mt0 c_by_bill hr (by decide) (pv 0)) (pg_tup rfl (pgs_cons (pg_name (i := 5) sc_Voyage_go_on.nd rfl (loc_by rfl)) (pgs_cons (pg_name (i := 6) sc_Voyage_go_on.nd rfl (loc_by rfl)) (pgs_cons (pg_name (i := 7) sc_Voyage_go_on.nd rfl (loc_by rfl)) pgs_nil)))))
      (pss_cons (ps_set (i := 8) sc_Voyage_go_on.nd rfl (loc_by rfl) (C8.pe_c c_places_of hr (by decide) rfl (pa_cons (pv 5) (pa_cons (pe_ix (ix_tupK (K := K) rfl) (C8.pe_c c_man hr (by decide) rfl (pa_cons (pv 5) (pa_cons (pv 6) (pa_cons (pv 7) pa_nil)))) pe_int (fun _ _ => rfl)) pa_nil))))
      (pss_cons (ps_expr (pe_bm PySem.F.plainAttrs_dict PySem.F.slot_dict_update PySem.F.type_dict_update mt_updD (pe_fldK (K := K) rfl (pv 0) rfl) (pa_cons (pv 8) pa_nil)))
      (pss_cons (ps_if (pt_cmpR (op_neD hu64) (pv 4) (pe_tup pa_nil) (nomark _)) pss_dead pss_nil)
      (pss_cons (ps_fld (pv 0) (pv 8) rfl)
      (pss_cons (ps_fldaug (pv 0) pe_int in_add)
      (pss_cons (ps_expr (C8.pe_mt0 c_come_to hr (by decide) (pv 0)))
      (pss_one (ps_ret (pe_callTy (call_tupK (K := K) rfl) (by rfl) T.m_tuple (by decide +kernel) (pa_cons (pe_lc (own := [("hand", 10)]) (g := (gName 10)) (tt := tYes) rfl sc_Voyage_go_on.nd (pi_tup (pv 1)) (blkOk_by (own := [("hand", 10)]) (N := n_Voyage_go_on) (sc := C8.fnScope s_Voyage_go_on) (by decide +kernel)) (fun _ _ _ _ _ => (pg_name (i := 10) sc_Voyage_go_on.nd rfl (loc_by rfl))) (fun _ _ _ _ _ => pts_nil) (fun _ _ _ _ _ => (pe_tup (pa_cons (pe_ix (ix_tupK (K := K) rfl) (pv 10) pe_int (fun _ _ => rfl)) (pa_cons (C8.pe_c c_where_of hr (by decide) rfl (pa_cons (pe_ix (ix_tupK (K := K) rfl) (pv 10) pe_int (fun _ _ => rfl)) (pa_cons (pv 8) (pa_cons (pv 2) pa_nil)))) pa_nil))))) pa_nil)))))))))))), ?_⟩
    obtain ⟨dx, sh, a0, a1, a2, a3, a4, lc, hd, dw, t, hx, hds, sa, hlc, ho, htd⟩ := vb.ex
    have sb := hid_sub H U
    have vo := vb.voy
    obtain ⟨r, s, w, c, ht1, hir, hs, hw, hc⟩ := htd.ex
    have d60 := ok.d60
    have l12 := ok.r12
    have hhl : (handsOf S n).length ≤ 12 := Nat.le_trans (List.length_filter_le _ _) l12
    have hwl : watchOf S.day n < S.bills.length := by rw [ok.bl]; exact watchOf_lt ok.d1 ok.d0 _
    have elot : lotOf S n = S.bills[watchOf S.day n] := by unfold lotOf; simp [hwl]
    have lotmem : lotOf S n ∈ S.bills := by rw [elot]; exact List.getElem_mem hwl
    have lotlen : (lotOf S n).length ≤ 10 := ok.b4 _ lotmem
    refine ⟨_, rfl, x, CV, dx, _, .ref t, rfl, hx, T.clV, T.nV _ (by simp), rfl, t, _, rfl, .of (sb _ _ ht1), rfl, _, _, rfl, _, _, rfl, _, _, rfl, _, _, rfl, rfl, ?_⟩
    refine ⟨_, rfl, x, dx, _, rfl, hx, rfl, x, ds, S, n, st, rfl, vo, ok, fun H1 p ah al as k1 hp ih il is => ?_⟩
    refine ⟨p, _, rfl, .of hp, rfl, _, _, rfl, _, _, rfl, _, _, rfl, rfl, ?_⟩
    -- man
    refine ⟨_, rfl, _, rfl, _, rfl, _, rfl, .ref ah, .ref al, as, handsOf S n, lotOf S n, stoodOf S n st, rfl, ih, il, is, by simp [stoodOf], by omega, by omega, fun h hh => ok.rok h (List.mem_filter.mp hh).1, fun p hp => ok.bok _ lotmem p hp, fun H2 t2 p1 p2 k2 ht2 hp1 => ?_⟩
    refine ⟨t2, _, _, _, rfl, rfl, .of ht2, atI_nat (j := 0) rfl, ?_⟩
    -- places_of
    refine ⟨.ref ah, p1, handsOf S n, manPosts (handsOf S n) (lotOf S n) (stoodOf S n st), rfl, ih.mono k2.tk, hp1, hhl, (List.Sublist.map _ List.filter_sublist).nodup ok.rn, fun H3 dt k3 hdt hdt3 => ?_⟩
    have hdt3 : H3 dt = some (.dK (dkPS (thereOf S n st))) := hdt3
    have k03 := (k1.trans k2).trans k3
    have hdtH : H dt = none := (k1.trans k2).fr _ hdt
    have hds3 := k03.get0 hds
    have ndd : ds ≠ dt := ne_of_none hds hdtH
    have lt12 : (thereOf S n st).length ≤ 12 := by
      have := (thereOf_keys S n st).length_le
      simp at this; omega
    have ls12 := so.len
    -- update
    refine ⟨_, rfl, x, CV, dx, _, .ref ds, rfl, k03.get0 hx, T.clV, T.nV _ (by simp), rfl, tyD hds3, _, rfl, ds, dt, _, _, rfl, rfl, hds3, hdt3, ndd, le_line (by simp [dkPS]; omega), ?_⟩
    rw [dkPS_merge]
    have k4 : Kp (XD x ds) H (upd H3 ds (.dK (dkPS (mergeS st (thereOf S n st))))) := k03.up.then_set (.inr rfl) hds3 (fun _ z => by cases z) (fun _ z => by cases z)
    have hds4 : upd H3 ds (.dK (dkPS (mergeS st (thereOf S n st)))) ds = some (.dK (dkPS (stNext S n st))) := upd_same
    have nxd : x ≠ ds := fun z => by rw [z, hds] at hx; cases hx
    have hx4 : upd H3 ds (.dK (dkPS (mergeS st (thereOf S n st)))) x = some (.ins CV dx [("ship_here", .ref sh), ("coming", .ref lc), ("holding", .ref hd), ("bell_now", .int (n : Nat)), ("station_by", .ref ds), ("was_at", .ref dw), ("told_now", .ref t)]) := by rw [upd_ne nxd]; exact k03.get0 hx
    have hdt4 : upd H3 ds (.dK (dkPS (mergeS st (thereOf S n st)))) dt = some (.dK (dkPS (thereOf S n st))) := by rw [upd_ne ndd.symm]; exact hdt3
    generalize upd H3 ds (.dK (dkPS (mergeS st (thereOf S n st)))) = H4 at k4 hds4 hx4 hdt4 ⊢
    have s4 := hid_kp k4 vb.ux
    have sb4 := hid_sub H4 U
    -- calls
    refine ⟨_, rfl, Nat.zero_le _, fun e he => ?_⟩
    refine ⟨.tuple [], .tuple [], .tup (.of (by rw [upd_ne (ne_of_none (sb4 _ _ (s4 _ _ hc)) he)]; exact sb4 _ _ (s4 _ _ hc))) .nil, .tup (.of upd_same) .nil, rfl, rfl, _, rfl, ?_⟩
    refine if_false_of rfl ?_
    have k5' : K0 H4 (upd H4 e (.tup [])) := .new he
    generalize upd H4 e (.tup []) = H5 at k5' ⊢
    have k5 := k4.trans k5'.up
    -- was_at
    refine ⟨_, rfl, _, rfl, x, CV, dx, _, rfl, k5'.get0 hx4, T.clV, T.nV _ (by simp), by show 7 < 1000; decide, ?_⟩
    have k6 := k5.then_set (p := x) (o' := .ins CV dx (putF "was_at" (.ref dt) [("ship_here", .ref sh), ("coming", .ref lc), ("holding", .ref hd), ("bell_now", .int (n : Nat)), ("station_by", .ref ds), ("was_at", .ref dw), ("told_now", .ref t)])) (.inl rfl) (k5'.get0 hx4) (fun _ z => by cases z) (fun _ z => by cases z)
    have hx6 : upd H5 x (.ins CV dx (putF "was_at" (.ref dt) [("ship_here", .ref sh), ("coming", .ref lc), ("holding", .ref hd), ("bell_now", .int (n : Nat)), ("station_by", .ref ds), ("was_at", .ref dw), ("told_now", .ref t)])) x = some (.ins CV dx [("ship_here", .ref sh), ("coming", .ref lc), ("holding", .ref hd), ("bell_now", .int (n : Nat)), ("station_by", .ref ds), ("was_at", .ref dt), ("told_now", .ref t)]) := upd_same
    have hds6 : upd H5 x (.ins CV dx (putF "was_at" (.ref dt) [("ship_here", .ref sh), ("coming", .ref lc), ("holding", .ref hd), ("bell_now", .int (n : Nat)), ("station_by", .ref ds), ("was_at", .ref dw), ("told_now", .ref t)])) ds = some (.dK (dkPS (stNext S n st))) := by rw [upd_ne nxd.symm]; exact k5'.get0 hds4
    have ndx : dt ≠ x := fun z => by rw [z, hx4] at hdt4; cases hdt4
    have hdt6 : upd H5 x (.ins CV dx (putF "was_at" (.ref dt) [("ship_here", .ref sh), ("coming", .ref lc), ("holding", .ref hd), ("bell_now", .int (n : Nat)), ("station_by", .ref ds), ("was_at", .ref dw), ("told_now", .ref t)])) dt = some (.dK (dkPS (thereOf S n st))) := by rw [upd_ne ndx]; exact k5'.get0 hdt4
    generalize upd H5 x (.ins CV dx (putF "was_at" (.ref dt) [("ship_here", .ref sh), ("coming", .ref lc), ("holding", .ref hd), ("bell_now", .int (n : Nat)), ("station_by", .ref ds), ("was_at", .ref dw), ("told_now", .ref t)])) = H6 at k6 hx6 hds6 hdt6 ⊢
    -- bell_now
    refine ⟨_, rfl, x, CV, dx, _, .int (n : Nat), rfl, hx6, T.clV, T.nV _ (by simp), rfl, (n : Int), 1, rfl, rfl, dx, _, hx6, by show 7 < 1000; decide, ?_⟩
    have en : ((n : Int) + 1) = ((n + 1 : Nat) : Int) := by omega
    rw [en]
    have k7 := k6.then_set (p := x) (o' := .ins CV dx (putF "bell_now" (.int ((n + 1 : Nat) : Int)) [("ship_here", .ref sh), ("coming", .ref lc), ("holding", .ref hd), ("bell_now", .int (n : Nat)), ("station_by", .ref ds), ("was_at", .ref dt), ("told_now", .ref t)])) (.inl rfl) hx6 (fun _ z => by cases z) (fun _ z => by cases z)
    have hx7 : upd H6 x (.ins CV dx (putF "bell_now" (.int ((n + 1 : Nat) : Int)) [("ship_here", .ref sh), ("coming", .ref lc), ("holding", .ref hd), ("bell_now", .int (n : Nat)), ("station_by", .ref ds), ("was_at", .ref dt), ("told_now", .ref t)])) x = some (.ins CV dx [("ship_here", .ref sh), ("coming", .ref lc), ("holding", .ref hd), ("bell_now", .int ((n + 1 : Nat) : Int)), ("station_by", .ref ds), ("was_at", .ref dt), ("told_now", .ref t)]) := upd_same
    have hds7 : upd H6 x (.ins CV dx (putF "bell_now" (.int ((n + 1 : Nat) : Int)) [("ship_here", .ref sh), ("coming", .ref lc), ("holding", .ref hd), ("bell_now", .int (n : Nat)), ("station_by", .ref ds), ("was_at", .ref dt), ("told_now", .ref t)])) ds = some (.dK (dkPS (stNext S n st))) := by rw [upd_ne nxd.symm]; exact hds6
    have hdt7 : upd H6 x (.ins CV dx (putF "bell_now" (.int ((n + 1 : Nat) : Int)) [("ship_here", .ref sh), ("coming", .ref lc), ("holding", .ref hd), ("bell_now", .int (n : Nat)), ("station_by", .ref ds), ("was_at", .ref dt), ("told_now", .ref t)])) dt = some (.dK (dkPS (thereOf S n st))) := by rw [upd_ne ndx]; exact hdt6
    generalize upd H6 x (.ins CV dx (putF "bell_now" (.int ((n + 1 : Nat) : Int)) [("ship_here", .ref sh), ("coming", .ref lc), ("holding", .ref hd), ("bell_now", .int (n : Nat)), ("station_by", .ref ds), ("was_at", .ref dt), ("told_now", .ref t)])) = H7 at k7 hx7 hds7 hdt7 ⊢
    have s7 := hid_kp k7 vb.ux
    have sb7 := hid_sub H7 U
    -- come_to
    refine ⟨_, rfl, x, dx, _, rfl, hx7, rfl, x, dx, sh, lc, hd, ds, dt, t, ((n + 1 : Nat) : Int), S.roll, rfl, hx7, sb7 _ _ (s7 _ _ hlc), (ho.sub s7).sub sb7, l12, ok.rn, ok.rs, fun H8 t8 k8 ht8 nt8 => ?_⟩
    have k9 := (k7.trans k8.up).then_set (p := x) (o' := .ins CV dx [("ship_here", .ref sh), ("coming", .ref lc), ("holding", .ref hd), ("bell_now", .int ((n + 1 : Nat) : Int)), ("station_by", .ref ds), ("was_at", .ref dt), ("told_now", .ref t8)]) (.inl rfl) (k8.get0 hx7) (fun _ z => by cases z) (fun _ z => by cases z)
    have hx9 : upd H8 x (.ins CV dx [("ship_here", .ref sh), ("coming", .ref lc), ("holding", .ref hd), ("bell_now", .int ((n + 1 : Nat) : Int)), ("station_by", .ref ds), ("was_at", .ref dt), ("told_now", .ref t8)]) x = some (.ins CV dx [("ship_here", .ref sh), ("coming", .ref lc), ("holding", .ref hd), ("bell_now", .int ((n + 1 : Nat) : Int)), ("station_by", .ref ds), ("was_at", .ref dt), ("told_now", .ref t8)]) := upd_same
    have hds9 : upd H8 x (.ins CV dx [("ship_here", .ref sh), ("coming", .ref lc), ("holding", .ref hd), ("bell_now", .int ((n + 1 : Nat) : Int)), ("station_by", .ref ds), ("was_at", .ref dt), ("told_now", .ref t8)]) ds = some (.dK (dkPS (stNext S n st))) := by rw [upd_ne nxd.symm]; exact k8.get0 hds7
    have hdt9 : upd H8 x (.ins CV dx [("ship_here", .ref sh), ("coming", .ref lc), ("holding", .ref hd), ("bell_now", .int ((n + 1 : Nat) : Int)), ("station_by", .ref ds), ("was_at", .ref dt), ("told_now", .ref t8)]) dt = some (.dK (dkPS (thereOf S n st))) := by rw [upd_ne ndx]; exact k8.get0 hdt7
    have hx8 := k8.get0 hx7
    have hds8 := k8.get0 hds7
    have k78 := k7.trans k8.up
    have nU : ∀ b o, H8 b = some o → (∀ xs, o ≠ .lst xs) → b ≠ x → b ≠ ds → ¬ U b := fun b o e nl n1 n2 u => by
      rcases vb.uk b u with (z | z) | ⟨xs, z⟩
      · exact n1 z
      · exact n2 z
      · have := k78.get z (by rintro (q | q); exact n1 q; exact n2 q)
        rw [e] at this
        exact nl xs (Option.some.inj this)
    have kp9 : ∀ b o, H8 b = some o → (∀ xs, o ≠ .lst xs) → b ≠ x → b ≠ ds → hid (upd H8 x (.ins CV dx [("ship_here", .ref sh), ("coming", .ref lc), ("holding", .ref hd), ("bell_now", .int ((n + 1 : Nat) : Int)), ("station_by", .ref ds), ("was_at", .ref dt), ("told_now", .ref t8)])) U b = some o := fun b o e nl n1 n2 => by
      rw [hid_eq (nU b o e nl n1 n2), upd_ne n1]; exact e
    have ht9 : Told (hid (upd H8 x (.ins CV dx [("ship_here", .ref sh), ("coming", .ref lc), ("holding", .ref hd), ("bell_now", .int ((n + 1 : Nat) : Int)), ("station_by", .ref ds), ("was_at", .ref dt), ("told_now", .ref t8)])) U) t8 S.roll := by
      refine told_tk ht8 (fun b xs e => kp9 b _ e (fun _ z => by cases z) (fun z => by rw [z, hx8] at e; cases e) (fun z => by rw [z, hds8] at e; cases e)) fun w e => kp9 w _ e (fun _ z => by cases z) (fun z => by rw [z, hx8] at e; cases e) (fun z => by rw [z, hds8] at e; cases e)
    have uk9 : ∀ b, U b → XD x ds b ∨ ∃ xs, (upd H8 x (.ins CV dx [("ship_here", .ref sh), ("coming", .ref lc), ("holding", .ref hd), ("bell_now", .int ((n + 1 : Nat) : Int)), ("station_by", .ref ds), ("was_at", .ref dt), ("told_now", .ref t8)])) b = some (.lst xs) := fun b u => by
      by_cases z : XD x ds b
      · exact .inl z
      · rcases vb.uk b u with e | ⟨xs, e⟩
        · exact .inl e
        · exact .inr ⟨xs, k9.get e z⟩
    generalize upd H8 x (.ins CV dx [("ship_here", .ref sh), ("coming", .ref lc), ("holding", .ref hd), ("bell_now", .int ((n + 1 : Nat) : Int)), ("station_by", .ref ds), ("was_at", .ref dt), ("told_now", .ref t8)]) = H9 at k9 hx9 hds9 hdt9 ht9 uk9 ⊢
    have s9 := hid_kp k9 vb.ux
    have vb9 : VoyB CV CH U H9 x ds S (n + 1) (stNext S n st) := ⟨⟨dx, sh, a0, a1, a2, a3, a4, lc, hd, dt, t8, hx9, hds9, sa.mono s9.tk, s9 _ _ hlc, ho.sub s9, ht9⟩, vb.ux, uk9⟩
    have t9 := k9.tk
    obtain ⟨r', xr, er, hr9, ihr⟩ := (hir.mono ((sb.tk).trans t9)).tup_inv
    cases er
    have hxl : xr.length = S.roll.length := by rw [ihr.length, List.length_map]
    have hs9 := t9 _ _ (sb _ _ hs)
    refine ⟨_, rfl, r, rfl, ⟨_, .of hr9⟩, fun D hD => ?_⟩
    refine lc_pure (n := S.roll.length) (hxl ▸ walk_tup (K := K) (a := r) (xs := xr)) (fun j H v => ∀ h, S.roll[j]? = some h → Im H v (dCell (h.name, lookS (thereOf S n st) h.name))) (fun _ => true) hD (by omega) (fun j H H' v h t p hp => (h p hp).mono t) (fun H2 k2 => SqT.of (k2.tup hr9)) ?_ ?_
    · rintro j z H10 H11 hj k10 ⟨rfl, hz⟩ Post Skip hP hS
      obtain ⟨D', hD', hi⟩ := ihr.get hz
      obtain ⟨h, hh, rfl⟩ := map_getQ hD'
      obtain ⟨e2, sk, rfl, he2, _⟩ := im_hand.mp (hi.mono k10.tk)
      refine ⟨rfl, _, rfl, e2, _, _, _, rfl, rfl, .of he2, atI_nat (j := 0) rfl, _, rfl, e2, _, _, _, rfl, rfl, .of he2, atI_nat (j := 0) rfl, _, rfl, _, rfl, h.name, dt, s, thereOf S n st, rfl, k10.get0 hdt9, k10.get0 hs9, fun H12 p12 k12 hp12 ip => ?_⟩
      refine ⟨by show 2 ≤ sizeLine; decide, fun p13 hp13 => ?_⟩
      refine hP rfl _ _ (k12.then_new hp13) fun h' h1 => ?_
      rw [hh] at h1; cases h1
      exact .tup upd_same (.cons (.str _) (.cons (ip.mono (tk_new hp13)) .nil))
    · intro H10 acc k10 hacc hp
      rw [filter_true] at hp
      have hpp : Paired (fun h v => Im H10 v (dCell (h.name, lookS (thereOf S n st) h.name))) S.roll acc := by
        refine paired_of_get (by rw [← hp.length]; simp) fun i p v h1 h2 => ?_
        obtain ⟨j, hj, f⟩ := WS.Paired.get_r hp h2
        rw [range_getElem? (List.getElem?_eq_some_iff.mp h1).1] at hj
        cases hj
        exact f p h1
      have hrow := ImAll.of_paired (f := fun h : Hand => dCell (h.name, lookS (thereOf S n st) h.name)) hpp
      refine ⟨D, acc, rfl, .inl ⟨.of hacc, fun pr hpr => ?_⟩⟩
      have k11 := k10.then_new hpr (o := .tup acc)
      refine q _ pr (k9.trans k11.up) (vb9.k0 k11) ?_
      refine .tup upd_same ?_
      have := hrow.mono (tk_new hpr (o := .tup acc))
      unfold rowOf
      rw [List.map_map]
      exact this
end
end WS
set_option Elab.async false
set_option linter.all false
set_option maxRecDepth 100000
set_option maxHeartbeats 4000000
namespace WS
open PySem PySem.Spec PyProof.Rows L2 LamX
theorem hold_off {CH : Addr} {H G : Hp} {hd x C dx : Addr} {fs : List (Str × V)} {roll : List Hand} (h : HoldO CH H hd roll) (k : ∀ b o, H b = some o → b ≠ x → G b = some o) (hx : H x = some (.ins C dx fs)) (ne : hd ≠ x) : HoldO CH G hd roll := by
  have tk : TK H G := fun b xs e => k b _ e (fun z => by rw [z, hx] at e; cases e)
  obtain ⟨dx', d1, lb, lw, d2, d3, l3, n, h1, ⟨vs, h2, h2'⟩, h3, h4, h5⟩ := h.ex
  exact ⟨dx', d1, lb, lw, d2, d3, l3, n, k _ _ h1 ne, ⟨vs, h2.mono tk, k _ _ h2' (fun z => by rw [z, hx] at h2'; cases h2')⟩, k _ _ h3 (fun z => by rw [z, hx] at h3; cases h3), k _ _ h4 (fun z => by rw [z, hx] at h4; cases h4), k _ _ h5 (fun z => by rw [z, hx] at h5; cases h5)⟩
section
variable {P : Program} {w : World} {K : PySem.W.Frag} {mg : Str → Option Value} {base : Heap} {CM CH CV LP : Addr}
theorem tab_new {H : Hp} {P p : Addr} {q : Str} {o : HO} (t : TabS H P q) (h : H p = none) : TabS (upd H p o) P q := WS.TabS.kp t (Kp.new h (S := fun _ => False)) (fun _ _ _ z => z.elim)
theorem tab_k0 {H H' : Hp} {P : Addr} {q : Str} (t : TabS H P q) (k : K0 H H') : TabS H' P q := WS.TabS.kp t k (fun _ _ _ z => z.elim)
theorem tab_ins {H H' : Hp} {P x C dx : Addr} {fs : List (Str × V)} {q : Str} (t : TabS H P q) (k : Kp (fun b => b = x) H H') (h : H x = some (.ins C dx fs)) : TabS H' P q := WS.TabS.kp t k (fun b o e z => by
  subst z
  rw [h] at e
  cases e
  exact ⟨(fun _ z => by cases z), (fun _ z => by cases z)⟩)
def spVoyageInit (CV CH PT : Addr) : Sp := fun vs H Q _ => ∃ (x dx sh a0 a1 a2 a3 a4 pg : Addr) (S : Ship), vs = [.ref x, .ref sh, .ref pg] ∧ H x = some (.ins CV dx []) ∧ ShipAt H sh a0 a1 a2 a3 a4 S ∧ ShipOk S ∧ H pg = some (.tup []) ∧ TabS H PT QT ∧
  ∀ (H' : Hp) (ds : Addr), KpN (fun b => b = x) H H' → TabS H' PT QT → VoyB CV CH (XD x ds) H' x ds S 0 [] → NT (H ds) → Q .non H'
abbrev n_Voyage_init : List Str := ["self", "ship", "pages"]
theorem sc_Voyage_init : FnScope n_Voyage_init ["self", "ship", "pages"] (C8.fnScope s_Voyage_init) := ⟨rfl, rfl, rfl, by decide +kernel, rfl, by decide +kernel, by decide +kernel⟩
theorem mak_Voyage (T : Txt K mg CM CH CV LP) {PT : Addr} (h : HasInit K mg "Voyage" CV "Voyage.__init__" s_Voyage_init ["self", "ship", "pages"]) (c_in_order : C8.Cal P w K mg base 1 "in_order" (spInOrder PT) []) (c_Holding : C8.Mak P w K mg base 2 "Holding" CH (spHoldingInit CH) []) (c_come_to : C8.Met P w K mg base 2 CV "come_to" (spComeTo CV CH) []) :
    C8.Mak P w K mg base 4 "Voyage" CV (spVoyageInit CV CH PT) [] := by
  refine mkMak h sc_Voyage_init (fun vs H Q E hh => ?_) (fun fa cdv Ar outer s H vs Q E hr hh => ?_)
  · obtain ⟨x, dx, sh, a0, a1, a2, a3, a4, pg, S, rfl, _⟩ := hh
    rfl
  · obtain ⟨x, dx, sh, a0, a1, a2, a3, a4, pg, S, rfl, hx, sa, ok, hpg, hT, q⟩ := hh
    refine ⟨_, (pss_cons (ps_fld (pv 0) (pv 1) rfl)
      (pss_cons (ps_fld (pv 0) (pe_callTy (call_lstK (K := K) rfl) (by rfl) T.m_list (by decide +kernel) (pa_cons (C8.pe_c c_in_order hr (by decide) rfl (pa_cons (pv 2) pa_nil)) pa_nil)) rfl)
      (pss_cons (ps_fld (pv 0) (C8.pe_mk c_Holding hr (by decide) rfl (pa_cons (pv 1) pa_nil)) rfl)
      (pss_cons (ps_fld (pv 0) pe_int rfl)
      (pss_cons (ps_fld (pv 0) pe_dnewK rfl)
      (pss_cons (ps_fld (pv 0) pe_dnewK rfl)
      (pss_cons (ps_fld (pv 0) (pe_tup (pa_cons (pe_tup pa_nil) (pa_cons (pe_tup pa_nil) (pa_cons (pe_tup pa_nil) (pa_cons (pe_tup pa_nil) pa_nil))))) rfl)
      (pss_one (ps_expr (C8.pe_mt0 c_come_to hr (by decide) (pv 0))))))))))), ?_⟩
    -- ship_here
    refine ⟨_, rfl, _, rfl, x, CV, dx, _, rfl, hx, T.clV, T.nV _ (by simp), by show 0 < 1000; decide, ?_⟩
    have kx1 : Kp (fun b => b = x) H (upd H x (.ins CV dx (putF "ship_here" (.ref sh) []))) := .set rfl hx (fun _ z => by cases z) (fun _ z => by cases z)
    have hx1 : upd H x (.ins CV dx (putF "ship_here" (.ref sh) [])) x = some (.ins CV dx [("ship_here", .ref sh)]) := upd_same
    generalize upd H x (.ins CV dx (putF "ship_here" (.ref sh) [])) = G1 at kx1 hx1 ⊢
    have hT1 := tab_ins hT kx1 hx
    -- coming
    refine ⟨_, rfl, pg, rfl, kx1.tup hpg, hT1, fun H2 p kn hT2 hp => ?_⟩
    refine ⟨p, [], rfl, .inr (.of hp), fun lc hlc => ?_⟩
    have kn2 : KpN (fun b => b = x) H (upd H2 lc (.lst [])) := (kx1.n.trans (kn.mono fun _ z => z.elim)).trans (Kp.new hlc).n
    have hT2 := tab_new hT2 hlc (o := .lst [])
    have hx2 : upd H2 lc (.lst []) x = some (.ins CV dx [("ship_here", .ref sh)]) := by
      have := kn.get hx1 (fun z => z) (fun _ z => by cases z)
      rw [upd_ne (ne_of_none this hlc)]; exact this
    have hlc2 : upd H2 lc (.lst []) lc = some (.lst []) := upd_same
    have nlc : lc ≠ x := fun z => by
      have e := hlc2
      rw [z] at e hx2
      rw [hx2] at e; cases e
    generalize upd H2 lc (.lst []) = H3 at kn2 hT2 hx2 hlc2 ⊢
    refine ⟨_, rfl, x, CV, dx, _, rfl, hx2, T.clV, T.nV _ (by simp), by show 1 < 1000; decide, ?_⟩
    have kx3 : Kp (fun b => b = x) H3 (upd H3 x (.ins CV dx (putF "coming" (.ref lc) [("ship_here", .ref sh)]))) := .set rfl hx2 (fun _ z => by cases z) (fun _ z => by cases z)
    have hx3 : upd H3 x (.ins CV dx (putF "coming" (.ref lc) [("ship_here", .ref sh)])) x = some (.ins CV dx [("ship_here", .ref sh), ("coming", .ref lc)]) := upd_same
    have hlc3 : upd H3 x (.ins CV dx (putF "coming" (.ref lc) [("ship_here", .ref sh)])) lc = some (.lst []) := by rw [upd_ne nlc]; exact hlc2
    generalize upd H3 x (.ins CV dx (putF "coming" (.ref lc) [("ship_here", .ref sh)])) = G3 at kx3 hx3 hlc3 ⊢
    have kn3 := kn2.trans kx3.n
    have hT3 := tab_ins hT2 kx3 hx2
    have sa3 := sa.mono kn3.tk
    -- holding
    refine ⟨_, rfl, fun hd hdx h1 h2 ne => ?_⟩
    have kh : K0 G3 (upd (upd G3 hdx (.own hd)) hd (.ins CH hdx [])) := (Kp.new h2).then_new (by rw [upd_ne ne.symm]; exact h1)
    have hhd : upd (upd G3 hdx (.own hd)) hd (.ins CH hdx []) hd = some (.ins CH hdx []) := upd_same
    have nhd : hd ≠ x := (ne_of_none hx3 h1).symm
    generalize upd (upd G3 hdx (.own hd)) hd (.ins CH hdx []) = H4 at kh hhd ⊢
    refine ⟨hd, hdx, sh, a0, a1, a2, a3, a4, S, rfl, hhd, sa3.mono kh.tk, ok, fun H5 k5 ho => ⟨rfl, ?_⟩⟩
    have k35 : K0 G3 H5 := (kh.up.trans k5).drop fun b o e z => by
      subst z
      rw [h1] at e; cases e
    refine ⟨_, rfl, x, CV, dx, _, rfl, k35.get0 hx3, T.clV, T.nV _ (by simp), by show 2 < 1000; decide, ?_⟩
    have hx5 := k35.get0 hx3
    have kx5 : Kp (fun b => b = x) H5 (upd H5 x (.ins CV dx (putF "holding" (.ref hd) [("ship_here", .ref sh), ("coming", .ref lc)]))) := .set rfl hx5 (fun _ z => by cases z) (fun _ z => by cases z)
    have ho5 : HoldO CH (upd H5 x (.ins CV dx (putF "holding" (.ref hd) [("ship_here", .ref sh), ("coming", .ref lc)]))) hd S.roll := hold_off ho (fun b o e n => by rw [upd_ne n]; exact e) hx5 nhd
    have hx6 : upd H5 x (.ins CV dx (putF "holding" (.ref hd) [("ship_here", .ref sh), ("coming", .ref lc)])) x = some (.ins CV dx [("ship_here", .ref sh), ("coming", .ref lc), ("holding", .ref hd)]) := upd_same
    have hlc6 : upd H5 x (.ins CV dx (putF "holding" (.ref hd) [("ship_here", .ref sh), ("coming", .ref lc)])) lc = some (.lst []) := by rw [upd_ne nlc]; exact k35.get0 hlc3
    generalize upd H5 x (.ins CV dx (putF "holding" (.ref hd) [("ship_here", .ref sh), ("coming", .ref lc)])) = G6 at kx5 ho5 hx6 hlc6 ⊢
    have kn6 := (kn3.trans (k35.n.mono fun _ z => z.elim)).trans kx5.n
    have hT6 := tab_ins (tab_k0 hT3 k35) kx5 hx5
    -- bell_now
    refine ⟨_, rfl, x, CV, dx, _, rfl, hx6, T.clV, T.nV _ (by simp), by show 3 < 1000; decide, ?_⟩
    have kx7 : Kp (fun b => b = x) G6 (upd G6 x (.ins CV dx (putF "bell_now" (.int 0) [("ship_here", .ref sh), ("coming", .ref lc), ("holding", .ref hd)]))) := .set rfl hx6 (fun _ z => by cases z) (fun _ z => by cases z)
    have hx7 : upd G6 x (.ins CV dx (putF "bell_now" (.int 0) [("ship_here", .ref sh), ("coming", .ref lc), ("holding", .ref hd)])) x = some (.ins CV dx [("ship_here", .ref sh), ("coming", .ref lc), ("holding", .ref hd), ("bell_now", .int 0)]) := upd_same
    generalize upd G6 x (.ins CV dx (putF "bell_now" (.int 0) [("ship_here", .ref sh), ("coming", .ref lc), ("holding", .ref hd)])) = G7 at kx7 hx7 ⊢
    -- station_by
    intro ds hds0
    have nds : ds ≠ x := (ne_of_none hx7 hds0).symm
    refine ⟨_, rfl, x, CV, dx, _, rfl, by rw [upd_ne nds.symm]; exact hx7, T.clV, T.nV _ (by simp), by show 4 < 1000; decide, ?_⟩
    have kx8 : Kp (fun b => b = x) G7 (upd (upd G7 ds (.dK [])) x (.ins CV dx (putF "station_by" (.ref ds) [("ship_here", .ref sh), ("coming", .ref lc), ("holding", .ref hd), ("bell_now", .int 0)]))) := (Kp.new hds0).then_set rfl (by rw [upd_ne nds.symm]; exact hx7) (fun _ z => by cases z) (fun _ z => by cases z)
    have hx8 : upd (upd G7 ds (.dK [])) x (.ins CV dx (putF "station_by" (.ref ds) [("ship_here", .ref sh), ("coming", .ref lc), ("holding", .ref hd), ("bell_now", .int 0)])) x = some (.ins CV dx [("ship_here", .ref sh), ("coming", .ref lc), ("holding", .ref hd), ("bell_now", .int 0), ("station_by", .ref ds)]) := upd_same
    have hds8 : upd (upd G7 ds (.dK [])) x (.ins CV dx (putF "station_by" (.ref ds) [("ship_here", .ref sh), ("coming", .ref lc), ("holding", .ref hd), ("bell_now", .int 0)])) ds = some (.dK []) := by rw [upd_ne nds, upd_same]
    generalize upd (upd G7 ds (.dK [])) x (.ins CV dx (putF "station_by" (.ref ds) [("ship_here", .ref sh), ("coming", .ref lc), ("holding", .ref hd), ("bell_now", .int 0)])) = G8 at kx8 hx8 hds8 ⊢
    -- was_at
    intro dw hdw0
    have ndw : dw ≠ x := (ne_of_none hx8 hdw0).symm
    refine ⟨_, rfl, x, CV, dx, _, rfl, by rw [upd_ne ndw.symm]; exact hx8, T.clV, T.nV _ (by simp), by show 5 < 1000; decide, ?_⟩
    have kx9 : Kp (fun b => b = x) G8 (upd (upd G8 dw (.dK [])) x (.ins CV dx (putF "was_at" (.ref dw) [("ship_here", .ref sh), ("coming", .ref lc), ("holding", .ref hd), ("bell_now", .int 0), ("station_by", .ref ds)]))) := (Kp.new hdw0).then_set rfl (by rw [upd_ne ndw.symm]; exact hx8) (fun _ z => by cases z) (fun _ z => by cases z)
    have hx9 : upd (upd G8 dw (.dK [])) x (.ins CV dx (putF "was_at" (.ref dw) [("ship_here", .ref sh), ("coming", .ref lc), ("holding", .ref hd), ("bell_now", .int 0), ("station_by", .ref ds)])) x = some (.ins CV dx [("ship_here", .ref sh), ("coming", .ref lc), ("holding", .ref hd), ("bell_now", .int 0), ("station_by", .ref ds), ("was_at", .ref dw)]) := upd_same
    generalize upd (upd G8 dw (.dK [])) x (.ins CV dx (putF "was_at" (.ref dw) [("ship_here", .ref sh), ("coming", .ref lc), ("holding", .ref hd), ("bell_now", .int 0), ("station_by", .ref ds)])) = G9 at kx9 hx9 ⊢
    -- told_now
    refine ⟨Nat.zero_le _, fun u1 hu1 => ⟨Nat.zero_le _, fun u2 hu2 => ⟨Nat.zero_le _, fun u3 hu3 => ⟨Nat.zero_le _, fun u4 hu4 => ?_⟩⟩⟩⟩
    refine ⟨by show 4 ≤ sizeLine; decide, fun t0 ht0 => ?_⟩
    have k10 : K0 G9 (upd (upd (upd (upd (upd G9 u1 (.tup [])) u2 (.tup [])) u3 (.tup [])) u4 (.tup [])) t0 (.tup [.ref u1, .ref u2, .ref u3, .ref u4])) := ((((Kp.new hu1).then_new hu2).then_new hu3).then_new hu4).then_new ht0
    generalize upd (upd (upd (upd (upd G9 u1 (.tup [])) u2 (.tup [])) u3 (.tup [])) u4 (.tup [])) t0 (.tup [.ref u1, .ref u2, .ref u3, .ref u4]) = H10 at k10 ⊢
    refine ⟨_, rfl, x, CV, dx, _, rfl, k10.get0 hx9, T.clV, T.nV _ (by simp), by show 6 < 1000; decide, ?_⟩
    have kx11 : Kp (fun b => b = x) G9 (upd H10 x (.ins CV dx (putF "told_now" (.ref t0) [("ship_here", .ref sh), ("coming", .ref lc), ("holding", .ref hd), ("bell_now", .int 0), ("station_by", .ref ds), ("was_at", .ref dw)]))) := k10.up.then_set rfl (k10.get0 hx9) (fun _ z => by cases z) (fun _ z => by cases z)
    have hx11 : upd H10 x (.ins CV dx (putF "told_now" (.ref t0) [("ship_here", .ref sh), ("coming", .ref lc), ("holding", .ref hd), ("bell_now", .int 0), ("station_by", .ref ds), ("was_at", .ref dw)])) x = some (.ins CV dx [("ship_here", .ref sh), ("coming", .ref lc), ("holding", .ref hd), ("bell_now", .int 0), ("station_by", .ref ds), ("was_at", .ref dw), ("told_now", .ref t0)]) := upd_same
    generalize upd H10 x (.ins CV dx (putF "told_now" (.ref t0) [("ship_here", .ref sh), ("coming", .ref lc), ("holding", .ref hd), ("bell_now", .int 0), ("station_by", .ref ds), ("was_at", .ref dw)])) = G11 at kx11 hx11 ⊢
    have k6b : Kp (fun b => b = x) G6 G11 := ((kx7.trans kx8).trans kx9).trans kx11
    have ho11 : HoldO CH G11 hd S.roll := hold_off ho5 (fun b o e n => k6b.get e n) hx6 nhd
    -- come_to
    refine ⟨_, rfl, x, dx, _, rfl, hx11, rfl, x, dx, sh, lc, hd, ds, dw, t0, 0, S.roll, rfl, hx11, k6b.get hlc6 nlc, ho11, ok.r12, ok.rn, ok.rs, fun H12 t k12 ht nt => ?_⟩
    have hx12 := k12.get0 hx11
    have kx13 : Kp (fun b => b = x) G6 (upd H12 x (.ins CV dx [("ship_here", .ref sh), ("coming", .ref lc), ("holding", .ref hd), ("bell_now", .int 0), ("station_by", .ref ds), ("was_at", .ref dw), ("told_now", .ref t)])) := (k6b.trans k12.up).then_set rfl hx12 (fun _ z => by cases z) (fun _ z => by cases z)
    have kn13 := kn6.trans kx13.n
    have hds0' : G6 ds = none := by
      have := kx7.fr ds hds0
      exact this
    have hds12 : H12 ds = some (.dK []) := k12.get0 (kx11.get (kx9.get hds8 nds) nds)
    have keep : ∀ b o, G6 b = some o → b ≠ x → hid (upd H12 x (.ins CV dx [("ship_here", .ref sh), ("coming", .ref lc), ("holding", .ref hd), ("bell_now", .int 0), ("station_by", .ref ds), ("was_at", .ref dw), ("told_now", .ref t)])) (XD x ds) b = some o := fun b o e n => by
      rw [hid_eq (by rintro (z | z); exact n z; rw [z, hds0'] at e; cases e)]
      exact kx13.get e n
    have keep2 : ∀ b o, H12 b = some o → b ≠ x → b ≠ ds → hid (upd H12 x (.ins CV dx [("ship_here", .ref sh), ("coming", .ref lc), ("holding", .ref hd), ("bell_now", .int 0), ("station_by", .ref ds), ("was_at", .ref dw), ("told_now", .ref t)])) (XD x ds) b = some o := fun b o e h1 h2 => by
      rw [hid_eq (by rintro (z | z); exact h1 z; exact h2 z), upd_ne h1]
      exact e
    refine q _ ds kn13 (tab_ins hT6 kx13 hx6) ⟨⟨dx, sh, a0, a1, a2, a3, a4, lc, hd, dw, t, upd_same, by rw [upd_ne nds]; exact hds12, ?_, keep _ _ hlc6 nlc, hold_off ho5 keep hx6 nhd,
      told_tk ht (fun b xs e => keep2 b _ e (fun z => by rw [z, hx12] at e; cases e) (fun z => by rw [z, hds12] at e; cases e)) fun w e => keep2 w _ e (fun z => by rw [z, hx12] at e; cases e) (fun z => by rw [z, hds12] at e; cases e)⟩, fun _ z => z, fun _ z => .inl z⟩ (kn6.fr ds (.inl hds0'))
    refine (sa.mono kn6.tk).mono fun b xs e => keep b _ e fun z => ?_
    rw [z, hx6] at e; cases e
end
end WS
set_option Elab.async false
set_option linter.all false
set_option maxRecDepth 100000
set_option maxHeartbeats 4000000
namespace WS
open PySem PySem.Spec PyProof.Rows L2 LamX
noncomputable def stAt (S : Ship) : Nat → List (Str × Str)
  | 0 => []
  | n + 1 => stNext S n (stAt S n)
noncomputable def rowAt (S : Ship) (n : Nat) : List (Str × Option Str) := rowOf S n (stAt S n)
def dStn (st : List (Str × Str)) : PyData := .tuple ((sortPS st).map encPS)
theorem stAt_ok (S : Ship) : ∀ n, StOk S (stAt S n)
  | 0 => ⟨by simp [stAt], by simp [stAt]⟩
  | n + 1 => stNext_ok (stAt_ok S n)
theorem KpN.drop {S T : Addr → Prop} {H H1 : Hp} (a : KpN T H H1) (h : ∀ b o, H b = some o → (∀ ps, o ≠ .tbl ps) → T b → S b) : KpN S H H1 := ⟨fun c o e q n => a.k c o e (fun t => q (h c o e n t)) n, a.fr⟩
theorem tab_xd {CV CH : Addr} {U : Addr → Prop} {H H' : Hp} {x ds : Addr} {S : Ship} {n : Nat} {st : List (Str × Str)} {P : Addr} {q : Str} (t : TabS H P q) (k : Kp (XD x ds) H H') (v : VoyB CV CH U H x ds S n st) : TabS H' P q := WS.TabS.kp t k (fun b o e z => by
  obtain ⟨dx, sh, a0, a1, a2, a3, a4, lc, hd, dw, tt, h1, h2, _⟩ := v.ex
  rcases z with rfl | rfl
  · rw [h1] at e; cases e
    exact ⟨(fun _ z => by cases z), (fun _ z => by cases z)⟩
  · rw [h2] at e; cases e
    exact ⟨(fun _ z => by cases z), (fun _ z => by cases z)⟩)
theorem tab_lst {H H' : Hp} {P p : Addr} {xs : List V} {q : Str} (t : TabS H P q) (k : Kp (fun b => b = p) H H') (h : H p = some (.lst xs)) : TabS H' P q := WS.TabS.kp t k (fun b o e z => by
  subst z
  rw [h] at e
  cases e
  exact ⟨(fun _ z => by cases z), (fun _ z => by cases z)⟩)
/-- a new voyage forgets nothing -/
theorem voyN {H H1 H2 H3 : Hp} {x ds : Addr} (k0 : K0 H H1) (hx : H x = none) (k1 : KpN (fun b => b = x) H1 H2) (hds : NT (H1 ds)) (k2 : KpN (XD x ds) H2 H3) : KpN (fun _ => False) H H3 := by
  refine KpN.drop (T := XD x ds) (((KpN.mono k0.n fun _ z => z.elim).trans (KpN.mono k1 fun _ z => .inl z)).trans k2) fun b o e nt z => ?_
  rcases z with rfl | rfl
  · rw [hx] at e; cases e
  · rcases hds with h | ⟨ps, h⟩
    · rw [k0.get0 e] at h; cases h
    · rw [k0.get0 e] at h
      exact nt ps (Option.some.inj h)
section
variable {P : Program} {w : World} {K : PySem.W.Frag} {mg : Str → Option Value} {base : Heap} {CM CH CV LP : Addr}
/-! ### stations_there -/
def spStationsThere (CV CH : Addr) : Sp := fun vs H Q _ => ∃ (x ds : Addr) (S : Ship) (n : Nat) (st : List (Str × Str)), vs = [.ref x] ∧ VoyO CV CH H x ds S n st ∧ ShipOk S ∧ StOk S st ∧
  ∀ (H' : Hp) (p : Addr), K0 H H' → Im H' (.ref p) (dStn st) → Q (.ref p) H'
abbrev n_stations_there : List Str := ["voyage", "name"]
theorem sc_stations_there : FnScope n_stations_there ["voyage"] (C8.fnScope s_stations_there) := ⟨rfl, rfl, rfl, by decide +kernel, rfl, by decide +kernel, by decide +kernel⟩
theorem cal_stations_there (T : Txt K mg CM CH CV LP) (h : HasDef K mg "stations_there" s_stations_there ["voyage"]) : C8.Cal P w K mg base 1 "stations_there" (spStationsThere CV CH) [] := by
  refine mkCal h sc_stations_there (fun vs H Q E hh => ?_) (fun fa cdv Ar outer s H vs Q E hr hh => ?_)
  · obtain ⟨x, ds, S, n, st, rfl, _⟩ := hh
    rfl
  · obtain ⟨x, ds, S, n, st, rfl, vo, ok, so, q⟩ := hh
    refine ⟨_, (pss_one (ps_ret (pe_callTy (call_tupK (K := K) rfl) (by rfl) T.m_tuple (by decide +kernel) (pa_cons (pe_lc (own := [("name", 1)]) (g := (gName 1)) (tt := tYes) rfl sc_stations_there.nd (pi_list (pe_callB (call_sortedD rfl) (by rfl) T.m_sorted (by decide +kernel) (pa_cons (pe_fldK (K := K) rfl (pv 0) rfl) pa_nil))) (blkOk_by (own := [("name", 1)]) (N := n_stations_there) (sc := C8.fnScope s_stations_there) (by decide +kernel)) (fun _ _ _ _ _ => (pg_name (i := 1) sc_stations_there.nd rfl (loc_by rfl))) (fun _ _ _ _ _ => pts_nil) (fun _ _ _ _ _ => (pe_tup (pa_cons (pv 1) (pa_cons (pe_dget (hu_of hr) (pe_fldK (K := K) rfl (pv 0) rfl) (pv 1) (fun _ _ => rfl)) pa_nil))))) pa_nil)))), ?_⟩
    obtain ⟨dx, sh, a0, a1, a2, a3, a4, lc, hd, dw, t, hx, sa, hlc, ho, hds, htd⟩ := vo.ex
    have l12 := ok.r12
    have ls := so.len
    refine ⟨_, rfl, x, CV, dx, _, .ref ds, rfl, hx, T.clV, T.nV _ (by simp), rfl, ds, _, st.map (·.1), rfl, .of hds, dkPS_keys st, by rw [List.length_map]; omega, fun ys p hy1 hy2 hp => ?_⟩
    have k1 : K0 H (upd H p (.lst (ys.map V.str))) := .new hp
    have hp1 : upd H p (.lst (ys.map V.str)) p = some (.lst (ys.map V.str)) := upd_same
    generalize upd H p (.lst (ys.map V.str)) = H1 at k1 hp1 ⊢
    have hyl : ys.length = st.length := by rw [hy1.length_eq, List.length_map]
    refine ⟨p, rfl, ⟨_, .of hp1⟩, fun D hD => ?_⟩
    refine lc_pure (n := (ys.map V.str).length) (walk_list (K := K)) (fun j H v => ∀ k, ys[j]? = some k → Im H v (encPS (k, (lookS st k).getD Str.empty))) (fun _ => true) hD (by rw [List.length_map]; omega) (fun j H H' v h t k hk => (h k hk).mono t) (fun H2 k2 => SqL.of (k2.get0 hp1)) ?_ ?_
    · rintro j z H2 H3 hj k2 ⟨rfl, hz⟩ Post Skip hP hS
      obtain ⟨k, hk, rfl⟩ := map_getQ hz
      have hmem : k ∈ st.map (·.1) := hy1.mem_iff.mp (List.mem_of_getElem? hk)
      obtain ⟨q0, hq0, e0⟩ := List.mem_map.mp hmem
      have hl : lookS st k = some q0.2 := lookS_mem so.nd (by rw [← e0]; exact hq0)
      have hds2 := (k1.trans k2).get0 hds
      have g := DGet.k (k := Sum.inr k) hds2
      rw [valV_dkPS, hl] at g
      refine ⟨rfl, _, rfl, _, rfl, x, CV, dx, _, .ref ds, rfl, (k1.trans k2).get0 hx, T.clV, T.nV _ (by simp), rfl, _, rfl, ds, .str q0.2, rfl, g, by show 2 ≤ sizeLine; decide, fun pt hpt => ?_⟩
      refine hP rfl _ _ (.new hpt) fun k' hk' => ?_
      rw [hk] at hk'; cases hk'
      rw [hl]
      exact .tup upd_same (.cons (.str _) (.cons (.str _) .nil))
    · intro H2 acc k2 hacc hpd
      rw [filter_true, List.length_map] at hpd
      have hpp : Paired (fun k v => Im H2 v (encPS (k, (lookS st k).getD Str.empty))) ys acc := by
        refine paired_of_get (by rw [← hpd.length]; simp) fun i p v h1 h2 => ?_
        obtain ⟨j, hj, f⟩ := WS.Paired.get_r hpd h2
        rw [range_getElem? (List.getElem?_eq_some_iff.mp h1).1] at hj
        cases hj
        exact f p h1
      have himm := ImAll.of_paired (f := fun k : Str => encPS (k, (lookS st k).getD Str.empty)) hpp
      refine ⟨D, acc, rfl, .inl ⟨.of hacc, fun pr hpr => ?_⟩⟩
      refine q _ pr ((k1.trans k2).then_new hpr) (.tup upd_same ?_)
      rw [sortPS_keys so.nd hy1 hy2, List.map_map]
      exact himm.mono (tk_new hpr)
/-! ### come_so_far -/
def VArgs (H : Hp) (sh pg PT : Addr) (S : Ship) : Prop := (∃ a0 a1 a2 a3 a4, ShipAt H sh a0 a1 a2 a3 a4 S) ∧ ShipOk S ∧ H pg = some (.tup []) ∧ TabS H PT QT
def spComeSoFar (CV CH PT : Addr) : Sp := fun vs H Q _ => ∃ (sh pg : Addr) (S : Ship) (n : Nat), vs = [.ref sh, .ref pg, .int (n : Nat)] ∧ VArgs H sh pg PT S ∧ n ≤ 1000 ∧
  ∀ (H' : Hp) (x ds : Addr), KpN (fun _ => False) H H' → TabS H' PT QT → VoyB CV CH (XD x ds) H' x ds S n (stAt S n) → Q (.ref x) H'
abbrev n_come_so_far : List Str := ["ship", "pages", "bell", "voyage", "turn"]
theorem sc_come_so_far : FnScope n_come_so_far ["ship", "pages", "bell"] (C8.fnScope s_come_so_far) := ⟨rfl, rfl, rfl, by decide +kernel, rfl, by decide +kernel, by decide +kernel⟩
theorem cal_come_so_far (T : Txt K mg CM CH CV LP) {PT : Addr} (h : HasDef K mg "come_so_far" s_come_so_far ["ship", "pages", "bell"]) (c_Voyage : C8.Mak P w K mg base 4 "Voyage" CV (spVoyageInit CV CH PT) []) (c_go_on : C8.Met P w K mg base 8 CV "go_on" (spGoOn CV CH) []) : C8.Cal P w K mg base 9 "come_so_far" (spComeSoFar CV CH PT) [] := by
  refine mkCal h sc_come_so_far (fun vs H Q E hh => ?_) (fun fa cdv Ar outer s H vs Q E hr hh => ?_)
  · obtain ⟨sh, pg, S, n, rfl, _⟩ := hh
    rfl
  · obtain ⟨sh, pg, S, n, rfl, ⟨⟨a0, a1, a2, a3, a4, sa⟩, ok, hpg, hT⟩, hn, q⟩ := hh
    refine ⟨_, (pss_cons (ps_set (i := 3) sc_come_so_far.nd rfl (loc_by rfl) (C8.pe_mk c_Voyage hr (by decide) rfl (pa_cons (pv 0) (pa_cons (pv 1) pa_nil))))
      (pss_cons (ps_for PassesOwn.never rfl (pi_range1 rfl T.m_range (pa_cons (pv 2) pa_nil)) (pg_name (i := 4) sc_come_so_far.nd rfl (loc_by rfl)) (pss_one (ps_expr (C8.pe_mt0 c_go_on hr (by decide) (pv 3)))))
      (pss_one (ps_ret (pv 3))))), ?_⟩
    refine ⟨_, rfl, _, rfl, fun x dx hx hdx ne => ?_⟩
    have k0 : K0 H (upd (upd H dx (.own x)) x (.ins CV dx [])) := (Kp.new hdx).then_new (by rw [upd_ne ne.symm]; exact hx)
    have hx0 : upd (upd H dx (.own x)) x (.ins CV dx []) x = some (.ins CV dx []) := upd_same
    generalize upd (upd H dx (.own x)) x (.ins CV dx []) = H1 at k0 hx0 ⊢
    refine ⟨x, dx, sh, a0, a1, a2, a3, a4, pg, S, rfl, hx0, sa.mono k0.tk, ok, k0.get0 hpg, tab_k0 hT k0, fun H2 ds k1 hT2 v2 hds => ⟨rfl, ?_⟩⟩
    refine ⟨_, rfl, _, rfl, by omega, by omega, ?_⟩
    rw [Int.toNat_natCast]
    refine for_range (lo := 0) (n := n) (fun i σ H' => ∃ x4, σ = [some (.ref sh), some (.ref pg), some (.int (n : Nat)), some (.ref x), x4] ∧ KpN (XD x ds) H2 H' ∧ TabS H' PT QT ∧ VoyB CV CH (XD x ds) H' x ds S i (stAt S i)) ⟨none, rfl, .refl _, hT2, v2⟩ ?_ ?_
    · rintro i σ H' hi ⟨x4, rfl, k, hT', v'⟩
      obtain ⟨dx', sh', _, _, _, _, _, _, _, _, _, hx', _⟩ := v'.ex
      refine ⟨_, rfl, x, dx', _, rfl, hx', rfl, x, ds, _, S, i, _, rfl, v', ok, stAt_ok S i, fun H3 p k3 v3 _ => ?_⟩
      exact ⟨_, rfl, k.trans k3.n, tab_xd hT' k3 v', v3⟩
    · rintro σ H' ⟨x4, rfl, k, hT', v'⟩
      exact ⟨_, rfl, q H' x ds (voyN k0 hx k1 hds k) hT' v'⟩
/-! ### posted -/
noncomputable def dRows (S : Ship) (n : Nat) : PyData := .tuple ((List.range n).map fun i => dRow (rowAt S i))
def spPosted (PT : Addr) : Sp := fun vs H Q _ => ∃ (sh pg : Addr) (S : Ship) (n : Nat), vs = [.ref sh, .ref pg, .int (n : Nat)] ∧ VArgs H sh pg PT S ∧ n ≤ 1000 ∧
  ∀ (H' : Hp) (p : Addr), KpN (fun _ => False) H H' → TabS H' PT QT → Im H' (.ref p) (dRows S n) → Q (.ref p) H'
abbrev n_posted : List Str := ["ship", "pages", "bells", "voyage", "found", "turn"]
theorem sc_posted : FnScope n_posted ["ship", "pages", "bells"] (C8.fnScope s_posted) := ⟨rfl, rfl, rfl, by decide +kernel, rfl, by decide +kernel, by decide +kernel⟩
theorem cal_posted (T : Txt K mg CM CH CV LP) {PT : Addr} (h : HasDef K mg "posted" s_posted ["ship", "pages", "bells"]) (c_Voyage : C8.Mak P w K mg base 4 "Voyage" CV (spVoyageInit CV CH PT) []) (c_go_on : C8.Met P w K mg base 8 CV "go_on" (spGoOn CV CH) []) : C8.Cal P w K mg base 9 "posted" (spPosted PT) [] := by
  refine mkCal h sc_posted (fun vs H Q E hh => ?_) (fun fa cdv Ar outer s H vs Q E hr hh => ?_)
  · obtain ⟨sh, pg, S, n, rfl, _⟩ := hh
    rfl
  · obtain ⟨sh, pg, S, n, rfl, ⟨⟨a0, a1, a2, a3, a4, sa⟩, ok, hpg, hT⟩, hn, q⟩ := hh
    refine ⟨_, (pss_cons (ps_set (i := 3) sc_posted.nd rfl (loc_by rfl) (C8.pe_mk c_Voyage hr (by decide) rfl (pa_cons (pv 0) (pa_cons (pv 1) pa_nil))))
      (pss_cons (ps_set (i := 4) sc_posted.nd rfl (loc_by rfl) (pe_lst pa_nil))
      (pss_cons (ps_for PassesOwn.never rfl (pi_range1 rfl T.m_range (pa_cons (pv 2) pa_nil)) (pg_name (i := 5) sc_posted.nd rfl (loc_by rfl)) (pss_one (ps_expr (pe_bm PySem.F.plainAttrs_list PySem.F.slot_list_append PySem.F.type_list_append mt_append (pv 4) (pa_cons (C8.pe_mt0 c_go_on hr (by decide) (pv 3)) pa_nil)))))
      (pss_one (ps_ret (pe_callTy (call_tupK (K := K) rfl) (by rfl) T.m_tuple (by decide +kernel) (pa_cons (pv 4) pa_nil))))))), ?_⟩
    refine ⟨_, rfl, _, rfl, fun x dx hx hdx ne => ?_⟩
    have k0 : K0 H (upd (upd H dx (.own x)) x (.ins CV dx [])) := (Kp.new hdx).then_new (by rw [upd_ne ne.symm]; exact hx)
    have hx0 : upd (upd H dx (.own x)) x (.ins CV dx []) x = some (.ins CV dx []) := upd_same
    generalize upd (upd H dx (.own x)) x (.ins CV dx []) = H1 at k0 hx0 ⊢
    refine ⟨x, dx, sh, a0, a1, a2, a3, a4, pg, S, rfl, hx0, sa.mono k0.tk, ok, k0.get0 hpg, tab_k0 hT k0, fun H2 ds k1 hT2 v2 hds => ⟨rfl, ?_⟩⟩
    refine ⟨Nat.zero_le _, fun p hp => ?_⟩
    refine ⟨_, rfl, _, rfl, by omega, by omega, ?_⟩
    rw [Int.toNat_natCast]
    obtain ⟨_, _, _, _, _, _, _, _, _, _, _, hxx, hdd, _⟩ := v2.ex
    have npx : ¬ XD x ds p := by
      rintro (z | z)
      · rw [← z, hp] at hxx; cases hxx
      · rw [← z, hp] at hdd; cases hdd
    refine for_range (lo := 0) (n := n) (fun i σ H' => ∃ x5 acc, σ = [some (.ref sh), some (.ref pg), some (.int (n : Nat)), some (.ref x), some (.ref p), x5] ∧ KpN (XD x ds) H2 H' ∧ TabS H' PT QT ∧ VoyB CV CH (fun b => XD x ds b ∨ b = p) H' x ds S i (stAt S i) ∧
      H' p = some (.lst acc) ∧ acc.length = i ∧ ImAll H' acc ((List.range i).map fun i => dRow (rowAt S i))) ⟨none, [], rfl, (Kp.new hp).n, tab_new hT2 hp, v2.off hp, upd_same, rfl, .nil⟩ ?_ ?_
    · rintro i σ H' hi ⟨x5, acc, rfl, k, hT', v', hp', hal, him⟩
      obtain ⟨dx', sh', _, _, _, _, _, _, _, _, _, hx', _⟩ := v'.ex
      refine ⟨_, rfl, tyL hp', _, rfl, x, dx', _, rfl, hx', rfl, x, ds, _, S, i, _, rfl, v', ok, stAt_ok S i, fun H3 pr k3 v3 ir => ?_⟩
      have hp3 := k3.get hp' npx
      refine ⟨p, acc, .ref pr, rfl, rfl, hp3, lt_line (by omega), ?_⟩
      have k4 : Kp (fun b => b = p) H3 (upd H3 p (.lst (acc ++ [.ref pr]))) := .set rfl hp3 (fun _ z => by cases z) (fun _ z => by cases z)
      refine ⟨_, acc ++ [.ref pr], rfl, ?_, tab_lst (tab_xd hT' k3 v') k4 hp3, v3.kp k4 (fun b z => .inr z) (fun z => npx (.inl z.symm)) (fun z => npx (.inr z.symm)) (fun b _ z => ⟨acc ++ [.ref pr], by rw [z]; exact upd_same⟩), upd_same, by simp [hal], ?_⟩
      · have hpn : NT (H2 p) := .inl hp
        exact (k.trans k3.n).mut hpn
      · rw [List.range_succ, List.map_append]
        exact (him.mono (k3.tk.trans k4.tk)).append (.cons (ir.mono k4.tk) .nil)
    · rintro σ H' ⟨x5, acc, rfl, k, hT', v', hp', hal, him⟩
      refine ⟨_, rfl, p, acc, rfl, .inl ⟨.of hp', fun l hl => ?_⟩⟩
      exact q _ l (voyN k0 hx k1 hds (k.trans (Kp.new hl).n)) (tab_new hT' hl) (.tup upd_same (him.mono (tk_new hl)))
/-! ### stations -/
def spStations (PT : Addr) : Sp := fun vs H Q _ => ∃ (sh pg : Addr) (S : Ship) (n : Nat), vs = [.ref sh, .ref pg, .int (n : Nat)] ∧ VArgs H sh pg PT S ∧ n ≤ 1000 ∧
  ∀ (H' : Hp) (p : Addr), KpN (fun _ => False) H H' → TabS H' PT QT → Im H' (.ref p) (dStn (stAt S n)) → Q (.ref p) H'
abbrev n_stations : List Str := ["ship", "pages", "bell"]
theorem sc_stations : FnScope n_stations ["ship", "pages", "bell"] (C8.fnScope s_stations) := ⟨rfl, rfl, rfl, by decide +kernel, rfl, by decide +kernel, by decide +kernel⟩
theorem cal_stations {PT : Addr} (h : HasDef K mg "stations" s_stations ["ship", "pages", "bell"]) (c_come_so_far : C8.Cal P w K mg base 9 "come_so_far" (spComeSoFar CV CH PT) []) (c_stations_there : C8.Cal P w K mg base 1 "stations_there" (spStationsThere CV CH) []) : C8.Cal P w K mg base 10 "stations" (spStations PT) [] := by
  refine mkCal h sc_stations (fun vs H Q E hh => ?_) (fun fa cdv Ar outer s H vs Q E hr hh => ?_)
  · obtain ⟨sh, pg, S, n, rfl, _⟩ := hh
    rfl
  · obtain ⟨sh, pg, S, n, rfl, va, hn, q⟩ := hh
    refine ⟨_, (pss_one (ps_ret (C8.pe_c c_stations_there hr (by decide) rfl (pa_cons (C8.pe_c c_come_so_far hr (by decide) rfl (pa_cons (pv 0) (pa_cons (pv 1) (pa_cons (pv 2) pa_nil)))) pa_nil)))), ?_⟩
    exact ⟨_, rfl, _, rfl, _, rfl, sh, pg, S, n, rfl, va, hn, fun H1 x ds k1 hT1 v1 => ⟨x, ds, S, n, _, rfl, v1.voy, va.2.1, stAt_ok S n, fun H2 p k2 ip => q H2 p (k1.trans k2.n) (tab_k0 hT1 k2) ip⟩⟩
/-! ### all_stations -/
def spAllStations (PT : Addr) : Sp := fun vs H Q _ => ∃ (sh pg : Addr) (S : Ship) (n : Nat), vs = [.ref sh, .ref pg, .int (n : Nat)] ∧ VArgs H sh pg PT S ∧ n ≤ 1000 ∧
  ∀ (H' : Hp) (p : Addr) (acc : List V), KpN (fun _ => False) H H' → TabS H' PT QT → H' p = some (.lst acc) → ImAll H' acc ((List.range n).map fun i => dStn (stAt S i)) → Q (.ref p) H'
abbrev n_all_stations : List Str := ["ship", "pages", "bells", "voyage", "found", "turn"]
theorem sc_all_stations : FnScope n_all_stations ["ship", "pages", "bells"] (C8.fnScope s_all_stations) := ⟨rfl, rfl, rfl, by decide +kernel, rfl, by decide +kernel, by decide +kernel⟩
theorem cal_all_stations (T : Txt K mg CM CH CV LP) {PT : Addr} (h : HasDef K mg "all_stations" s_all_stations ["ship", "pages", "bells"]) (c_Voyage : C8.Mak P w K mg base 4 "Voyage" CV (spVoyageInit CV CH PT) []) (c_go_on : C8.Met P w K mg base 8 CV "go_on" (spGoOn CV CH) []) (c_stations_there : C8.Cal P w K mg base 1 "stations_there" (spStationsThere CV CH) []) :
    C8.Cal P w K mg base 9 "all_stations" (spAllStations PT) [] := by
  refine mkCal h sc_all_stations (fun vs H Q E hh => ?_) (fun fa cdv Ar outer s H vs Q E hr hh => ?_)
  · obtain ⟨sh, pg, S, n, rfl, _⟩ := hh
    rfl
  · obtain ⟨sh, pg, S, n, rfl, ⟨⟨a0, a1, a2, a3, a4, sa⟩, ok, hpg, hT⟩, hn, q⟩ := hh
    refine ⟨_, (pss_cons (ps_set (i := 3) sc_all_stations.nd rfl (loc_by rfl) (C8.pe_mk c_Voyage hr (by decide) rfl (pa_cons (pv 0) (pa_cons (pv 1) pa_nil))))
      (pss_cons (ps_set (i := 4) sc_all_stations.nd rfl (loc_by rfl) (pe_lst pa_nil))
      (pss_cons (ps_for PassesOwn.never rfl (pi_range1 rfl T.m_range (pa_cons (pv 2) pa_nil)) (pg_name (i := 5) sc_all_stations.nd rfl (loc_by rfl)) (pss_cons (ps_expr (pe_bm PySem.F.plainAttrs_list PySem.F.slot_list_append PySem.F.type_list_append mt_append (pv 4) (pa_cons (C8.pe_c c_stations_there hr (by decide) rfl (pa_cons (pv 3) pa_nil)) pa_nil)))
      (pss_one (ps_expr (C8.pe_mt0 c_go_on hr (by decide) (pv 3))))))
      (pss_one (ps_ret (pv 4)))))), ?_⟩
    refine ⟨_, rfl, _, rfl, fun x dx hx hdx ne => ?_⟩
    have k0 : K0 H (upd (upd H dx (.own x)) x (.ins CV dx [])) := (Kp.new hdx).then_new (by rw [upd_ne ne.symm]; exact hx)
    have hx0 : upd (upd H dx (.own x)) x (.ins CV dx []) x = some (.ins CV dx []) := upd_same
    generalize upd (upd H dx (.own x)) x (.ins CV dx []) = H1 at k0 hx0 ⊢
    refine ⟨x, dx, sh, a0, a1, a2, a3, a4, pg, S, rfl, hx0, sa.mono k0.tk, ok, k0.get0 hpg, tab_k0 hT k0, fun H2 ds k1 hT2 v2 hds => ⟨rfl, ?_⟩⟩
    refine ⟨Nat.zero_le _, fun p hp => ?_⟩
    refine ⟨_, rfl, _, rfl, by omega, by omega, ?_⟩
    rw [Int.toNat_natCast]
    obtain ⟨_, _, _, _, _, _, _, _, _, _, _, hxx, hdd, _⟩ := v2.ex
    have npx : ¬ XD x ds p := by
      rintro (z | z)
      · rw [← z, hp] at hxx; cases hxx
      · rw [← z, hp] at hdd; cases hdd
    refine for_range (lo := 0) (n := n) (fun i σ H' => ∃ x5 acc, σ = [some (.ref sh), some (.ref pg), some (.int (n : Nat)), some (.ref x), some (.ref p), x5] ∧ KpN (XD x ds) H2 H' ∧ TabS H' PT QT ∧ VoyB CV CH (fun b => XD x ds b ∨ b = p) H' x ds S i (stAt S i) ∧
      H' p = some (.lst acc) ∧ acc.length = i ∧ ImAll H' acc ((List.range i).map fun i => dStn (stAt S i))) ⟨none, [], rfl, (Kp.new hp).n, tab_new hT2 hp, v2.off hp, upd_same, rfl, .nil⟩ ?_ ?_
    · rintro i σ H' hi ⟨x5, acc, rfl, k, hT', v', hp', hal, him⟩
      refine ⟨_, rfl, tyL hp', _, rfl, x, ds, S, i, _, rfl, v'.voy, ok, stAt_ok S i, fun H3 pr k3 ir => ?_⟩
      have hp3 := k3.get0 hp'
      refine ⟨p, acc, .ref pr, rfl, rfl, hp3, lt_line (by omega), ?_⟩
      have k4 : Kp (fun b => b = p) H3 (upd H3 p (.lst (acc ++ [.ref pr]))) := .set rfl hp3 (fun _ z => by cases z) (fun _ z => by cases z)
      have v4 := (v'.k0 k3).kp k4 (fun b z => .inr z) (fun z => npx (.inl z.symm)) (fun z => npx (.inr z.symm)) (fun b _ z => ⟨acc ++ [.ref pr], by rw [z]; exact upd_same⟩)
      obtain ⟨dx', sh', _, _, _, _, _, _, _, _, _, hx', _⟩ := v4.ex
      have hT4 := tab_lst (tab_k0 hT' k3) k4 hp3
      refine ⟨_, rfl, x, dx', _, rfl, hx', rfl, x, ds, _, S, i, _, rfl, v4, ok, stAt_ok S i, fun H5 p5 k5 v5 _ => ?_⟩
      refine ⟨_, acc ++ [.ref pr], rfl, ?_, tab_xd hT4 k5 v4, v5, k5.get upd_same npx, by simp [hal], ?_⟩
      · have hpn : NT (H2 p) := .inl hp
        exact ((k.trans (k3.n.mono fun _ z => z.elim)).mut hpn).trans k5.n
      · rw [List.range_succ, List.map_append]
        exact (him.mono ((k3.tk.trans k4.tk).trans k5.tk)).append (.cons (ir.mono (k4.tk.trans k5.tk)) .nil)
    · rintro σ H' ⟨x5, acc, rfl, k, hT', v', hp', hal, him⟩
      exact ⟨_, rfl, q _ p acc (voyN k0 hx k1 hds k) hT' hp' him⟩
end
end WS
set_option Elab.async false
set_option linter.all false
set_option maxRecDepth 100000
set_option maxHeartbeats 2000000
namespace WS
open PySem PySem.Spec PyProof.Rows L2 LamX
/-! ### begins as data -/
abbrev BK : Type := List Nat × List (Str × Str)
def dBeg (b : BK) : PyData := .tuple [dN b.1, .tuple (b.2.map encPS)]
theorem toNKs_map {α : Type} (f : α → PyData) : ∀ l : List α, toNKs (l.map f) = l.map fun a => toNK (f a)
  | [] => rfl
  | a :: l => by
    show toNK (f a) :: toNKs (l.map f) = _
    rw [toNKs_map f l]; rfl
theorem toNK_dN (l : List Nat) : toNK (dN l) = .tup (l.map fun i => .num (i : Nat)) := by
  unfold dN
  show NestedKey.tup (toNKs _) = _
  rw [toNKs_map]; rfl
theorem toNK_beg (x : BK) : toNK (dBeg x) = .tup [.tup (x.1.map fun i => .num (i : Nat)), .tup (x.2.map fun q => .tup [.text q.1, .text q.2])] := by
  show NestedKey.tup [toNK (dN x.1), .tup (toNKs (x.2.map encPS))] = _
  rw [toNK_dN, toNKs_map]; rfl
theorem map_inj {α β : Type} {f : α → β} (hf : ∀ a b, f a = f b → a = b) : ∀ {l m : List α}, l.map f = m.map f → l = m
  | [], [], _ => rfl
  | [], _ :: _, h => by simp at h
  | _ :: _, [], h => by simp at h
  | a :: l, b :: m, h => by
    rw [List.map_cons, List.map_cons] at h
    injection h with h1 h2
    rw [hf a b h1, map_inj hf h2]
theorem toNK_beg_inj {x y : BK} (h : toNK (dBeg x) = toNK (dBeg y)) : x = y := by
  rw [toNK_beg, toNK_beg] at h
  injection h with h
  injection h with h1 h2
  injection h2 with h2 _
  injection h1 with h1
  injection h2 with h2
  refine Prod.ext (map_inj (fun a b e => ?_) h1) (map_inj (fun a b e => ?_) h2)
  · injection e with e; omega
  · injection e with e
    injection e with e1 e2
    injection e2 with e2 _
    injection e1 with e1
    injection e2 with e2
    exact Prod.ext e1 e2
theorem nk_depth_map {α : Type} (f : α → NestedKey) (n : Nat) (h : ∀ a, (f a).depth ≤ n) : ∀ l : List α, NestedKey.depthAll (l.map f) ≤ n
  | [] => Nat.zero_le _
  | a :: l => by
    show max (f a).depth (NestedKey.depthAll (l.map f)) ≤ n
    have := nk_depth_map f n h l
    have := h a
    omega
theorem beg_ok (x : BK) : KeyOk (dBeg x) := by
  refine ⟨⟨_, rfl⟩, ?_⟩
  rw [toNK_beg]
  have h1 := nk_depth_map (fun i : Nat => NestedKey.num (i : Nat)) 1 (fun a => by simp [NestedKey.depth]) x.1
  have h2 := nk_depth_map (fun q : Str × Str => NestedKey.tup [.text q.1, .text q.2]) 2 (fun a => by
    simp [NestedKey.depth, NestedKey.depthAll]) x.2
  simp only [NestedKey.depth, NestedKey.depthAll]
  omega
theorem eqvAll_map {α : Type} [DecidableEq α] (f : α → PyData) (h : ∀ a b, PyData.eqv (f a) (f b) = decide (a = b)) : ∀ l m : List α, PyData.eqvAll (l.map f) (m.map f) = decide (l = m)
  | [], [] => rfl
  | [], _ :: _ => rfl
  | _ :: _, [] => rfl
  | a :: l, b :: m => by
    show (PyData.eqv (f a) (f b) && PyData.eqvAll (l.map f) (m.map f)) = _
    rw [h, eqvAll_map f h l m, ← Bool.decide_and]
    simp
theorem eqv_int (a b : Int) : PyData.eqv (.int a) (.int b) = decide (a = b) := by
  show (a == b) = decide (a = b)
  by_cases h : a = b <;> simp [h]
theorem eqv_str (a b : Str) : PyData.eqv (.str a) (.str b) = decide (a = b) := by
  show (a == b) = decide (a = b)
  by_cases h : a = b <;> simp [h]
theorem eqv_dN (l m : List Nat) : PyData.eqv (dN l) (dN m) = decide (l = m) := by
  show PyData.eqvAll _ _ = _
  refine eqvAll_map (fun i : Nat => PyData.int (i : Nat)) (fun a b => ?_) l m
  rw [eqv_int]
  by_cases h : a = b
  · simp [h]
  · rw [decide_eq_false h, decide_eq_false (by omega)]
theorem eqv_enc (a b : Str × Str) : PyData.eqv (encPS a) (encPS b) = decide (a = b) := by
  show (PyData.eqv (.str a.1) (.str b.1) && (PyData.eqv (.str a.2) (.str b.2) && true)) = _
  rw [eqv_str, eqv_str, Bool.and_true, ← Bool.decide_and]
  by_cases h : a = b
  · subst h; simp
  · rw [decide_eq_false h, decide_eq_false fun z => h (Prod.ext z.1 z.2)]
theorem eqv_ps (l m : List (Str × Str)) : PyData.eqv (.tuple (l.map encPS)) (.tuple (m.map encPS)) = decide (l = m) := by
  show PyData.eqvAll _ _ = _
  exact eqvAll_map encPS eqv_enc l m
theorem eqv_beg (x y : BK) : PyData.eqv (dBeg x) (dBeg y) = decide (x = y) := by
  show (PyData.eqv (dN x.1) (dN y.1) && (PyData.eqv (.tuple (x.2.map encPS)) (.tuple (y.2.map encPS)) && true)) = _
  rw [eqv_dN, eqv_ps, Bool.and_true, ← Bool.decide_and]
  by_cases h : x = y
  · subst h; simp
  · rw [decide_eq_false h, decide_eq_false fun z => h (Prod.ext z.1 z.2)]
/-! ### the first that comes again -/
def lookB (B : Nat → BK) (i : Nat) : Option Nat := (List.range i).find? fun j => decide (B j = B i)
def roundAt (B : Nat → BK) : Nat → Nat → Option (Nat × Nat)
  | 0, _ => none
  | f + 1, i => match lookB B i with
    | some j => some (j, i - j)
    | none => roundAt B f (i + 1)
def dRound : Option (Nat × Nat) → PyData
  | some (j, d) => .tuple [.str "round", .int (j : Nat), .int (d : Nat)]
  | none => .tuple [.str "open"]
theorem lookK_beg (B : Nat → BK) (A : Nat → Addr) (i : Nat) (x : BK) : lookK ((List.range i).map fun j => (dBeg (B j), A j, ((j : Nat) : Int))) (dBeg x) = ((List.range i).find? fun j => decide (B j = x)).map fun j => ((j : Nat) : Int) := by
  unfold lookK
  rw [List.find?_map, Option.map_map]
  have : ((fun k : PyData × Addr × Int => decide (toNK k.1 = toNK (dBeg x))) ∘ fun j : Nat => (dBeg (B j), A j, ((j : Nat) : Int))) = fun j => decide (B j = x) := by
    funext j
    show decide (toNK (dBeg (B j)) = toNK (dBeg x)) = decide (B j = x)
    by_cases h : B j = x
    · simp [h]
    · rw [decide_eq_false h, decide_eq_false fun z => h (toNK_beg_inj z)]
  rw [this]
  rfl
/-! ### the dict of begins is no code object -/
theorem nko_ne {P : Program} {w : World} {d : Addr} {ks : List (PyData × Addr × Int)} {q : Str} : NKO P w d ks ≠ CodeO d q := by
  intro h
  unfold NKO CodeO at h
  injection h with h
  have t : Tok := default
  have e := congrFun h { objs := Array.replicate (d + 1) ⟨.none, none, .fields #[.none, .str q t], #[]⟩ }
  have hg : Heap.get? { objs := Array.replicate (d + 1) ⟨.none, none, .fields #[.none, .str q t], #[]⟩ } d = some ⟨.none, none, .fields #[.none, .str q t], #[]⟩ := by
    unfold Heap.get?
    have : (Array.replicate (d + 1) (⟨.none, none, .fields #[.none, .str q t], #[]⟩ : Obj))[d]? = some ⟨.none, none, .fields #[.none, .str q t], #[]⟩ := by simp
    rw [this]
  have r : ∃ (oc : Obj) (vs : Array Value) (t' : Tok), Heap.get? { objs := Array.replicate (d + 1) ⟨.none, none, .fields #[.none, .str q t], #[]⟩ } d = some oc ∧ oc.data = .fields vs ∧ vs[1]? = some (.str q t') := ⟨_, _, t, hg, rfl, rfl⟩
  have l := e.mpr r
  obtain ⟨_, ys, _, o, es, ep, ho, _, hd, _⟩ := l
  rw [hg] at ho
  cases ho
  cases hd
theorem tab_nk {Pr : Program} {w : World} {H H' : Hp} {P d : Addr} {q : Str} {ks : List (PyData × Addr × Int)} (t : TabS H P q) (k : Kp (fun b => b = d) H H') (h : H d = some (NKO Pr w d ks)) : TabS H' P q := by
  obtain ⟨ps, h1, h2, h3⟩ := t
  refine ⟨ps, k.get h1 (fun z => by rw [z, h] at h1; cases h1), h2, fun pos cv hc => ?_⟩
  obtain ⟨c, e1, e2⟩ := h3 pos cv hc
  refine ⟨c, e1, k.get e2 fun z => ?_⟩
  rw [z, h] at e2
  exact nko_ne (Option.some.inj e2)
end WS
set_option Elab.async false
set_option linter.all false
set_option maxRecDepth 100000
set_option maxHeartbeats 4000000
namespace WS
open PySem PySem.Spec PyProof.Rows L2 LamX
def nb (S : Ship) : Nat := S.day.sum.toNat
noncomputable def bkS (S : Ship) (k : Nat) : BK := (ordAt S.turn k, sortPS (stAt S (nb S * k)))
theorem nb_eq {S : Ship} (ok : ShipOk S) : ((nb S : Nat) : Int) = S.day.sum := Int.toNat_of_nonneg (by have := ok.d0; omega)
theorem getAll {H : Hp} {α : Type} {f : α → PyData} {l : List α} {vs : List V} {i : Nat} {a : α} (h : ImAll H vs (l.map f)) (e : l[i]? = some a) : ∃ v, vs[i]? = some v ∧ Im H v (f a) :=
  h.getD (i := i) (by rw [List.getElem?_map, e]; rfl)
theorem imref {H : Hp} {v : V} {ds : List PyData} (h : Im H v (.tuple ds)) : ∃ a, v = .ref a := by
  obtain ⟨a, _, rfl, _⟩ := h.tup_inv
  exact ⟨a, rfl⟩
section
variable {P : Program} {w : World} {K : PySem.W.Frag} {mg : Str → Option Value} {base : Heap} {CM CH CV LP : Addr}
def SArgs (H : Hp) (sh PT : Addr) (S : Ship) : Prop := (∃ a0 a1 a2 a3 a4, ShipAt H sh a0 a1 a2 a3 a4 S) ∧ ShipOk S ∧ TabS H PT QT
def spDayBegins (PT : Addr) : Sp := fun vs H Q _ => ∃ (sh : Addr) (S : Ship) (most : Nat), vs = [.ref sh, .int (most : Nat)] ∧ SArgs H sh PT S ∧ most ≤ 10 ∧
  ∀ (H' : Hp) (p : Addr) (acc : List V), KpN (fun _ => False) H H' → TabS H' PT QT → H' p = some (.lst acc) → ImAll H' acc ((List.range (most + 1)).map fun k => dBeg (bkS S k)) → Q (.ref p) H'
abbrev n_day_begins : List Str := ["ship", "most", "bells", "found", "day"]
theorem sc_day_begins : FnScope n_day_begins ["ship", "most"] (C8.fnScope s_day_begins) := ⟨rfl, rfl, rfl, by decide +kernel, rfl, by decide +kernel, by decide +kernel⟩
theorem cal_day_begins (T : Txt K mg CM CH CV LP) {PT : Addr} (h : HasDef K mg "day_begins" s_day_begins ["ship", "most"]) (c_bells_in : C8.Cal P w K mg base 1 "bells_in" spBellsIn []) (c_all_stations : C8.Cal P w K mg base 9 "all_stations" (spAllStations PT) []) (c_order_at : C8.Cal P w K mg base 4 "order_at" spOrderAt []) :
    C8.Cal P w K mg base 10 "day_begins" (spDayBegins PT) [] := by
  refine mkCal h sc_day_begins (fun vs H Q E hh => ?_) (fun fa cdv Ar outer s H vs Q E hr hh => ?_)
  · obtain ⟨sh, S, n, rfl, _⟩ := hh
    rfl
  · obtain ⟨sh, S, n, rfl, ⟨⟨a0, a1, a2, a3, a4, sa⟩, ok, hT⟩, hn, q⟩ := hh
    refine ⟨_, (pss_cons (ps_set (i := 2) sc_day_begins.nd rfl (loc_by rfl) (C8.pe_c c_bells_in hr (by decide) rfl (pa_cons (pe_ix (ix_tupK (K := K) rfl) (pv 0) pe_int (fun _ _ => rfl)) pa_nil)))
      (pss_cons (ps_set (i := 3) sc_day_begins.nd rfl (loc_by rfl) (C8.pe_c c_all_stations hr (by decide) rfl (pa_cons (pv 0) (pa_cons (pe_tup pa_nil) (pa_cons (pe_op op_add (pe_op op_mul (pv 2) (pv 1)) pe_int) pa_nil)))))
      (pss_one (ps_ret (pe_lc (own := [("day", 4)]) (g := (gName 4)) (tt := tYes) rfl sc_day_begins.nd (pi_range1 rfl T.m_range (pa_cons (pe_op op_add (pv 1) pe_int) pa_nil)) (blkOk_by (own := [("day", 4)]) (N := n_day_begins) (sc := C8.fnScope s_day_begins) (by decide +kernel)) (fun _ _ _ _ _ => (pg_name (i := 4) sc_day_begins.nd rfl (loc_by rfl))) (fun _ _ _ _ _ => pts_nil) (fun _ _ _ _ _ => (pe_tup (pa_cons (C8.pe_c c_order_at hr (by decide) rfl (pa_cons (pe_ix (ix_tupK (K := K) rfl) (pv 0) pe_int (fun _ _ => rfl)) (pa_cons (pv 4) pa_nil))) (pa_cons (pe_ix (ix_listK (K := K) rfl) (pv 3) (pe_op op_mul (pv 2) (pv 4)) (fun _ _ => rfl)) pa_nil))))))))), ?_⟩
    have d60 := ok.d60
    have d0 := ok.d0
    have enb := nb_eq ok
    have nb60 : nb S ≤ 60 := by omega
    have hm : nb S * n ≤ 600 := Nat.le_trans (Nat.mul_le_mul nb60 hn) (by omega)
    refine ⟨_, rfl, sh, _, _, _, rfl, rfl, .of sa.s, atI_nat (j := 0) rfl, a0, S.day, rfl, sa.d, ?_⟩
    refine ⟨_, rfl, Nat.zero_le _, fun pg hpg => ?_⟩
    have kp := Kp.new (S := fun _ => False) hpg (o := .tup [])
    refine ⟨_, rfl, _, rfl, _, _, rfl, rfl, .inl ⟨by omega, by omega⟩, _, _, rfl, rfl, ?_⟩
    have earg : S.day.sum * (n : Nat) + 1 = ((nb S * n + 1 : Nat) : Int) := by rw [← enb]; push_cast; rfl
    refine ⟨sh, pg, S, nb S * n + 1, by rw [← earg]; rfl, ⟨⟨a0, a1, a2, a3, a4, sa.mono kp.tk⟩, ok, upd_same, tab_new hT hpg⟩, by omega, fun H1 p acc k1 hT1 hp1 him => ?_⟩
    have sa1 := sa.mono (kp.tk.trans k1.tk)
    refine ⟨_, rfl, _, _, rfl, rfl, _, rfl, by omega, by omega, fun D hD => ?_⟩
    have e1 : ((n : Nat) : Int) + 1 = ((n + 1 : Nat) : Int) := by push_cast; rfl
    rw [e1, Int.toNat_natCast]
    refine lc_pure (n := n + 1) (walk_range (lo := 0)) (fun j H v => Im H v (dBeg (bkS S j))) (fun _ => true) hD (by omega) (fun j H H' v h t => h.mono t) (fun H2 k2 => trivial) ?_ ?_
    · rintro j x H2 H3 hj k2 ⟨rfl, hx⟩ Post Skip hP hS
      obtain rfl : x = V.int (j : Nat) := by rw [hx]; simp
      refine ⟨rfl, ?_⟩
      have sa2 := sa1.mono k2.tk
      refine ⟨_, rfl, sh, _, _, _, rfl, rfl, .of sa2.s, atI_nat (j := 1) rfl, _, rfl, a1, S.turn, j, rfl, sa2.t, ok.tok, fun H4 pe k4 hpe => ?_⟩
      have hjn : nb S * j ≤ nb S * n := Nat.mul_le_mul_left _ (by omega)
      obtain ⟨vs, hvs, ivs⟩ := getAll him (i := nb S * j) (a := nb S * j) (range_getElem? (by omega))
      have k24 := k2.trans k4
      refine ⟨_, rfl, _, rfl, _, rfl, _, _, rfl, rfl, .inl ⟨by omega, by omega⟩, p, acc, _, vs, rfl, rfl, .of (k24.get0 hp1), ?_, by show 2 ≤ sizeLine; decide, fun pt hpt => ?_⟩
      · rw [← enb]
        have e2 : ((nb S : Nat) : Int) * ((j : Nat) : Int) = ((nb S * j : Nat) : Int) := by push_cast; rfl
        rw [e2]
        exact atI_nat hvs
      · refine hP rfl _ _ (k4.then_new hpt) (.tup upd_same (.cons (im_dN.mpr ⟨pe, rfl, by rw [upd_ne (ne_of_none hpe hpt)]; exact hpe⟩) (.cons (ivs.mono (k24.tk.trans (tk_new hpt))) .nil)))
    · intro H2 acc2 k2 hacc hp
      rw [filter_true] at hp
      refine q H2 D acc2 (KpN.trans (KpN.trans kp.n k1) k2.n) (tab_k0 hT1 k2) hacc (ImAll.of_paired hp)
/-! ### comes_round -/
def spComesRound (PT : Addr) : Sp := fun vs H Q _ => ∃ (sh : Addr) (S : Ship) (most : Nat), vs = [.ref sh, .int (most : Nat)] ∧ SArgs H sh PT S ∧ most ≤ 10 ∧
  ∀ (H' : Hp) (p : Addr), KpN (fun _ => False) H H' → TabS H' PT QT → Im H' (.ref p) (dRound (roundAt (bkS S) (most + 1) 0)) → Q (.ref p) H'
abbrev n_comes_round : List Str := ["ship", "most", "seen", "day", "begin"]
theorem sc_comes_round : FnScope n_comes_round ["ship", "most"] (C8.fnScope s_comes_round) := ⟨rfl, rfl, rfl, by decide +kernel, rfl, by decide +kernel, by decide +kernel⟩
theorem cal_comes_round (T : Txt K mg CM CH CV LP) {PT : Addr} (h : HasDef K mg "comes_round" s_comes_round ["ship", "most"]) (c_day_begins : C8.Cal P w K mg base 10 "day_begins" (spDayBegins PT) []) : C8.Cal P w K mg base 11 "comes_round" (spComesRound PT) [] := by
  refine mkCal h sc_comes_round (fun vs H Q E hh => ?_) (fun fa cdv Ar outer s H vs Q E hr hh => ?_)
  · obtain ⟨sh, S, n, rfl, _⟩ := hh
    rfl
  · obtain ⟨sh, S, n, rfl, ⟨⟨a0, a1, a2, a3, a4, sa⟩, ok, hT⟩, hn, q⟩ := hh
    have hu64 := hu64_of hr
    refine ⟨_, (pss_cons (ps_set (i := 2) sc_comes_round.nd rfl (loc_by rfl) pe_dnewNK)
      (pss_cons (ps_for PassesOwn.never rfl (pi_enum rfl T.m_enumerate (pa_cons (C8.pe_c c_day_begins hr (by decide) rfl (pa_cons (pv 0) (pa_cons (pv 1) pa_nil))) pa_nil)) (pg_tup rfl (pgs_cons (pg_name (i := 3) sc_comes_round.nd rfl (loc_by rfl)) (pgs_cons (pg_name (i := 4) sc_comes_round.nd rfl (loc_by rfl)) pgs_nil))) (pss_cons (ps_if (pt_cmpR (op_inNK hu64) (pv 4) (pv 2) (by rfl)) (pss_one (ps_ret (pe_tup (pa_cons pe_str (pa_cons (pe_ix (ix_NK hu64) (pv 2) (pv 4) (fun _ _ => rfl)) (pa_cons (pe_op op_sub (pv 3) (pe_ix (ix_NK hu64) (pv 2) (pv 4) (fun _ _ => rfl))) pa_nil)))))) pss_nil)
      (pss_one (ps_asg (pv 3) (pg_sub (pv 2) (pv 4) (set_NK hu64))))))
      (pss_one (ps_ret (pe_tup (pa_cons pe_str pa_nil)))))), ?_⟩
    intro d hd
    have kd := Kp.new (S := fun _ => False) hd (o := NKO P w d [])
    have hd1 : upd H d (NKO P w d []) d = some (NKO P w d []) := upd_same
    have hT0 := tab_new hT hd (o := NKO P w d [])
    have hdH := hd
    have sa0 := sa.mono kd.tk
    refine ⟨_, rfl, _, rfl, sh, S, n, rfl, ⟨⟨a0, a1, a2, a3, a4, sa0⟩, ok, hT0⟩, hn, fun H1 p acc k1 hT1 hp1 him => ?_⟩
    have hd2 : H1 d = some (NKO P w d []) := k1.get hd1 (fun z => z) (fun _ z => by cases z)
    have kn1 : KpN (fun _ => False) H H1 := KpN.trans kd.n k1
    have hal : acc.length = n + 1 := by rw [him.length]; simp
    have hacc : ∀ j, j < n + 1 → ∃ a, acc[j]? = some (.ref a) ∧ refOf (acc.getD j .non) = a ∧ Im H1 (.ref a) (dBeg (bkS S j)) := fun j hj => by
      obtain ⟨v, hv, iv⟩ := getAll him (range_getElem? hj)
      obtain ⟨a, rfl⟩ := imref (ds := _) iv
      exact ⟨a, hv, by rw [List.getD_eq_getElem?_getD, hv]; rfl, iv⟩
    have npd : p ≠ d := fun z => by rw [z, hd2] at hp1; cases hp1
    refine ⟨p, acc, rfl, .of hp1, ?_⟩
    generalize hR : roundAt (bkS S) (n + 1) 0 = R at q
    refine for_it (walk_enum (K := K) (a := p) (xs := acc)) (fun i σ H' => ∃ x3 x4, σ = [some (.ref sh), some (.int (n : Nat)), some (.ref d), x3, x4] ∧ Kp (fun b => b = d) H1 H' ∧
      SeenAt P w H' d ((List.range i).map fun j => (dBeg (bkS S j), refOf (acc.getD j .non), ((j : Nat) : Int))) ∧ R = roundAt (bkS S) (n + 1 - i) i) ⟨none, none, rfl, .refl _, ⟨hd2, fun k hk => by simp at hk⟩, hR.symm⟩ ?_ ?_ ?_
    · rintro i σ H' hi ⟨x3, x4, rfl, k, _⟩
      exact .of (k.get hp1 npd)
    · rintro i v σ H2 H3 hi ⟨x3, x4, rfl, k, se, er⟩ ⟨T0, x, y, rfl, hT0', rfl, hx, hy⟩
      cases hx
      have hy : acc[i]? = some y := hy
      rw [hal] at hi
      obtain ⟨a, ha, ra, ia⟩ := hacc i hi
      rw [ha] at hy
      cases hy
      have k3 : Kp (fun b => b = d) H1 (upd H2 T0 (.tup [.int (i : Nat), .ref a])) := k.then_new hT0'
      have se3 : SeenAt P w (upd H2 T0 (.tup [.int (i : Nat), .ref a])) d ((List.range i).map fun j => (dBeg (bkS S j), refOf (acc.getD j .non), ((j : Nat) : Int))) := se.mono (tk_new hT0') (by rw [upd_ne (ne_of_none se.at_ hT0')]; exact se.at_)
      have ia3 := ia.mono k3.tk
      refine ⟨T0, _, rfl, .of upd_same, rfl, _, _, rfl, _, _, rfl, rfl, ?_⟩
      generalize upd H2 T0 (.tup [.int (i : Nat), .ref a]) = H4 at k3 se3 ia3 ⊢
      have lk := lookK_beg (bkS S) (fun j => refOf (acc.getD j .non)) i (bkS S i)
      have hni : n + 1 - i = (n + 1 - (i + 1)) + 1 := by omega
      rw [hni, roundAt] at er
      have elb : (List.range i).find? (fun j => decide (bkS S j = bkS S i)) = lookB (bkS S) i := rfl
      rw [elb] at lk
      refine ⟨_, rfl, _, rfl, a, d, _, _, rfl, rfl, se3, ia3, beg_ok _, _, rfl, ?_⟩
      rw [lk]
      cases hl : lookB (bkS S) i with
      | some j =>
        rw [hl] at er lk
        refine if_true_of rfl ?_
        have hji : j < i := by
          have := List.mem_of_find?_eq_some hl
          exact List.mem_range.mp this
        refine ⟨_, rfl, _, rfl, d, a, _, _, _, rfl, rfl, se3, ia3, beg_ok _, lk, _, rfl, _, rfl, _, rfl, d, a, _, _, _, rfl, rfl, se3, ia3, beg_ok _, lk, _, _, rfl, rfl, by show 3 ≤ sizeLine; decide, fun pt hpt => ?_⟩
        have kk : KpN (fun _ => False) H (upd H4 pt (.tup [.str "round", .int (j : Nat), .int ((i : Nat) - (j : Nat))])) := by
          refine KpN.drop (T := fun b => b = d) (((KpN.mono kn1 fun _ z => z.elim).trans k3.n).then_new hpt) fun b o e _ z => ?_
          subst z
          rw [hdH] at e; cases e
        refine q _ pt kk (tab_new (tab_nk hT1 k3 hd2) hpt) ?_
        rw [er]
        have e2 : ((i : Nat) : Int) - ((j : Nat) : Int) = ((i - j : Nat) : Int) := by omega
        have fin : Im (upd H4 pt (.tup [.str "round", .int ((j : Nat) : Int), .int (((i : Nat) : Int) - ((j : Nat) : Int))])) (.ref pt) (.tuple [.str "round", .int ((j : Nat) : Int), .int (((i : Nat) : Int) - ((j : Nat) : Int))]) := .tup upd_same (.cons (.str _) (.cons (.int _) (.cons (.int _) .nil)))
        show Im _ _ (.tuple [.str "round", .int ((j : Nat) : Int), .int ((i - j : Nat) : Int)])
        rw [← e2]
        exact fin
      | none =>
        rw [hl] at er lk
        refine if_false_of rfl ?_
        refine ⟨_, rfl, _, rfl, _, rfl, d, a, _, _, _, rfl, rfl, rfl, se3, ia3, beg_ok _, lk, by simp; omega, ?_⟩
        have hd4 := se3.at_
        have k5 : Kp (fun b => b = d) H1 (upd H4 d (NKO P w d (((List.range i).map fun j => (dBeg (bkS S j), refOf (acc.getD j .non), ((j : Nat) : Int))) ++ [(dBeg (bkS S i), a, ((i : Nat) : Int))]))) := k3.then_set rfl hd4 (fun _ z => by cases z) (fun _ z => by cases z)
        refine ⟨_, _, rfl, k5, ?_, er⟩
        rw [List.range_succ, List.map_append, List.map_singleton, ra]
        have t5 : TK H4 (upd H4 d (NKO P w d (((List.range i).map fun j => (dBeg (bkS S j), refOf (acc.getD j .non), ((j : Nat) : Int))) ++ [(dBeg (bkS S i), a, ((i : Nat) : Int))]))) := tk_set hd4 (fun _ z => by cases z)
        refine ⟨upd_same, fun k hk => ?_⟩
        rcases List.mem_append.mp hk with hk | hk
        · exact ⟨(se3.keys k hk).1.mono t5, (se3.keys k hk).2⟩
        · rw [List.mem_singleton] at hk
          subst hk
          exact ⟨ia3.mono t5, beg_ok _⟩
    · rintro σ H2 ⟨x3, x4, rfl, k, se, er⟩
      rw [hal, Nat.sub_self] at er
      refine ⟨by show 1 ≤ sizeLine; decide, fun pt hpt => ?_⟩
      have kk : KpN (fun _ => False) H (upd H2 pt (.tup [.str "open"])) := by
        refine KpN.drop (T := fun b => b = d) (((KpN.mono kn1 fun _ z => z.elim).trans k.n).then_new hpt) fun b o e _ z => ?_
        subst z
        rw [hdH] at e; cases e
      refine q _ pt kk (tab_new (tab_nk hT1 k hd2) hpt) ?_
      rw [er]
      exact .tup upd_same (.cons (.str _) .nil)
end
end WS
set_option Elab.async false
set_option linter.all false
set_option maxRecDepth 100000
set_option maxHeartbeats 4000000
namespace WS
open PySem PySem.Spec PyProof.Rows L2 LamX
/-- the law's hand: what is left of the cell, the seed, how many were drawn -/
def HandAt (H : Hp) (hd : Addr) (n : Nat) : Prop := ∃ a b c : Int, H hd = some (.lst [.int a, .int b, .int c]) ∧ 0 ≤ a ∧ 0 ≤ b ∧ b < 4611686018427387904 ∧ 0 ≤ c ∧ c ≤ n
theorem HandAt.mono {H : Hp} {hd : Addr} {n m : Nat} (h : HandAt H hd n) (l : n ≤ m) : HandAt H hd m := by
  obtain ⟨a, b, c, h1, h2, h3, h4, h5, h6⟩ := h
  exact ⟨a, b, c, h1, h2, h3, h4, h5, by omega⟩
theorem HandAt.keep {H H' : Hp} {hd : Addr} {n : Nat} {S : Addr → Prop} (h : HandAt H hd n) (k : Kp S H H') (s : ¬ S hd) : HandAt H' hd n := by
  obtain ⟨a, b, c, h1, h2⟩ := h
  exact ⟨a, b, c, k.get h1 s, h2⟩
theorem HandAt.at_ {H : Hp} {hd : Addr} {n : Nat} (h : HandAt H hd n) : ∃ xs, H hd = some (.lst xs) := by
  obtain ⟨a, b, c, h1, h2⟩ := h
  exact ⟨_, h1⟩
def primes : List Int := [2147483647, 2147483629, 2147483587, 2147483579, 2147483563, 2147483549, 2147483543, 2147483497]
section
variable {P : Program} {w : World} {K : PySem.W.Frag} {mg : Str → Option Value} {base : Heap} {CM CH CV LP : Addr}
/-! ### _law_hand -/
def sp_hand : Sp := fun vs H Q _ => ∃ (a : Addr) (ns : List Int), vs = [.ref a, .int 0] ∧ SqL K H a (ns.map V.int) ∧ ns.length ≤ 63 ∧ ∀ (H' : Hp) (hd : Addr), K0 H H' → H hd = none → HandAt H' hd 0 → Q (.ref hd) H'
abbrev n__law_hand : List Str := ["_law_script", "_law_k", "_law_cell"]
theorem sc__law_hand : FnScope n__law_hand ["_law_script", "_law_k"] (C8.fnScope s__law_hand) := ⟨rfl, rfl, rfl, by decide +kernel, rfl, by decide +kernel, by decide +kernel⟩
theorem cal__law_hand (T : Txt K mg CM CH CV LP) (h : HasDef K mg "_law_hand" s__law_hand ["_law_script", "_law_k"]) : C8.Cal P w K mg base 1 "_law_hand" (sp_hand (K := K)) [] := by
  refine mkCal h sc__law_hand (fun vs H Q E hh => ?_) (fun fa cdv Ar outer s H vs Q E hr hh => ?_)
  · obtain ⟨a, ns, rfl, _⟩ := hh
    rfl
  · obtain ⟨a, ns, rfl, ha, hl, q⟩ := hh
    refine ⟨_, (C8.pss_cut (ps_set (i := 2) sc__law_hand.nd rfl (loc_by rfl) (pe_ifExp (pt_cmpR op_lt (pv 1) (pe_callB (call_lenK (K := K) rfl) (by rfl) T.m_len (by decide +kernel) (pa_cons (pv 0) pa_nil)) (nomark _)) (pe_ix (ix_listK (K := K) rfl) (pv 0) (pv 1) (fun _ _ => rfl)) pe_int))
      (pss_one (ps_ret (pe_lst (pa_cons (pe_op op_mul (pe_op op_mod (pv 2) (pe_op op_mulW (pe_op op_pow pe_int pe_int) (pe_op op_pow pe_int pe_int))) (pe_callTy call_int1 (by rfl) T.m_int (by decide +kernel) (pa_cons (pe_cmpR op_ge (pv 2) (pe_op op_pow pe_int pe_int) (nomark _)) pa_nil))) (pa_cons (pe_op op_add (pe_op op_add (pe_op op_mod (pv 2) pe_int) (pe_op op_mul pe_int (pv 1))) pe_int) (pa_cons pe_int pa_nil))))))), ?_⟩
    refine ⟨fun σ' H' => H' = H ∧ ∃ x : Int, σ' = [some (.ref a), some (.int 0), some (.int x)], ?_, ?_⟩
    · refine ⟨_, rfl, _, rfl, a, _, rfl, .inl ha, _, _, rfl, rfl, _, rfl, ?_⟩
      cases ns with
      | nil => exact if_false_of rfl ⟨rfl, 0, rfl⟩
      | cons z ns =>
        refine if_true_of (by simp) ?_
        exact ⟨_, rfl, _, rfl, a, _, _, _, rfl, rfl, ha, atI_nat (j := 0) rfl, rfl, z, rfl⟩
    · rintro σ' H' ⟨rfl, x, rfl⟩
      have p0 : (0 : Int) < 10 ^ (45 : Nat) * 10 ^ (45 : Nat) := by decide
      refine ⟨_, rfl, _, _, rfl, rfl, ⟨by decide, by decide, by decide⟩, _, _, rfl, rfl, ⟨by decide, by decide, by decide⟩, _, _, rfl, rfl, (by unfold CMulW; decide +kernel), _, _, rfl, rfl, p0, ?_⟩
      refine ⟨_, rfl, _, _, rfl, rfl, ⟨by decide, by decide, by decide⟩, _, _, rfl, rfl, .inr ⟨_, rfl, ?_⟩⟩
      have m0 : 0 ≤ x % (10 ^ (45 : Nat) * 10 ^ (45 : Nat)) := Int.emod_nonneg _ (by decide)
      have n0 : 0 ≤ x % 2305843009213693951 := Int.emod_nonneg _ (by decide)
      have n1 : x % 2305843009213693951 < 2305843009213693951 := Int.emod_lt_of_pos _ (by decide)
      refine ⟨_, _, rfl, rfl, .inr (by split <;> decide), _, rfl, _, _, rfl, rfl, (by show (0 : Int) < 2305843009213693951; decide), _, rfl, _, _, rfl, rfl, .inl ⟨by decide, by decide⟩, _, _, rfl, rfl, _, _, rfl, rfl, by show 3 ≤ sizeLine; decide, fun hd hhd => ?_⟩
      refine q _ hd (.new hhd) hhd ⟨_, _, _, upd_same, ?_, by omega, by omega, by decide, by decide⟩
      split
      · simp; exact m0
      · simp
end
end WS
set_option Elab.async false
set_option linter.all false
set_option maxRecDepth 100000
set_option maxHeartbeats 4000000
namespace WS
open PySem PySem.Spec PyProof.Rows L2 LamX
section
variable {P : Program} {w : World} {K : PySem.W.Frag} {mg : Str → Option Value} {base : Heap} {CM CH CV LP : Addr}
/-! ### _law_take -/
def sp_take : Sp := fun vs H Q _ => ∃ (hd : Addr) (many : Int) (n : Nat), vs = [.ref hd, .int many] ∧ HandAt H hd n ∧ n ≤ 1000000 ∧ 1 ≤ many ∧ many ≤ 1000 ∧
  ∀ (H' : Hp) (r : Int), Kp (fun b => b = hd) H H' → HandAt H' hd (n + 1) → 0 ≤ r → r < many → Q (.int r) H'
abbrev n__law_take : List Str := ["_law_hand_here", "_law_many", "_law_digit", "_law_primes", "_law_prime", "_law_drawn"]
theorem sc__law_take : FnScope n__law_take ["_law_hand_here", "_law_many"] (C8.fnScope s__law_take) := ⟨rfl, rfl, rfl, by decide +kernel, rfl, by decide +kernel, by decide +kernel⟩
theorem cal__law_take (T : Txt K mg CM CH CV LP) (h : HasDef K mg "_law_take" s__law_take ["_law_hand_here", "_law_many"]) : C8.Cal P w K mg base 1 "_law_take" sp_take [] := by
  refine mkCal h sc__law_take (fun vs H Q E hh => ?_) (fun fa cdv Ar outer s H vs Q E hr hh => ?_)
  · obtain ⟨hd, many, n, rfl, _⟩ := hh
    rfl
  · obtain ⟨hd, many, n, rfl, ⟨a, b, c, hH, a0, b0, b1, c0, c1⟩, hn, m1, m2, q⟩ := hh
    refine ⟨_, (pss_cons (ps_if (pt_cmpR op_gt (pe_ix (ix_listK (K := K) rfl) (pv 0) pe_int (fun _ _ => rfl)) pe_int (nomark _)) (pss_cons (ps_set (i := 2) sc__law_take.nd rfl (loc_by rfl) (pe_op op_mod (pe_ix (ix_listK (K := K) rfl) (pv 0) pe_int (fun _ _ => rfl)) (pv 1)))
      (pss_cons (ps_asg (pe_op op_fdiv (pe_ix (ix_listK (K := K) rfl) (pv 0) pe_int (fun _ _ => rfl)) (pv 1)) (pg_sub (pv 0) pe_int set_list))
      (pss_one (ps_ret (pv 2))))) pss_nil)
      (pss_cons (ps_asg (pe_op op_add (pe_ix (ix_listK (K := K) rfl) (pv 0) pe_int (fun _ _ => rfl)) pe_int) (pg_sub (pv 0) pe_int set_list))
      (pss_cons (ps_set (i := 3) sc__law_take.nd rfl (loc_by rfl) (pe_lst (pa_cons pe_int (pa_cons pe_int (pa_cons pe_int (pa_cons pe_int (pa_cons pe_int (pa_cons pe_int (pa_cons pe_int (pa_cons pe_int pa_nil))))))))))
      (pss_cons (ps_set (i := 4) sc__law_take.nd rfl (loc_by rfl) (pe_ix (ix_listK (K := K) rfl) (pv 3) (pe_op op_mod (pe_ix (ix_listK (K := K) rfl) (pv 0) pe_int (fun _ _ => rfl)) pe_int) (fun _ _ => rfl)))
      (pss_cons (ps_set (i := 5) sc__law_take.nd rfl (loc_by rfl) (pe_op op_mod (pe_op op_pow (pe_op op_add (pe_ix (ix_listK (K := K) rfl) (pv 0) pe_int (fun _ _ => rfl)) (pe_op op_mul pe_int (pe_ix (ix_listK (K := K) rfl) (pv 0) pe_int (fun _ _ => rfl)))) pe_int) (pv 4)))
      (pss_one (ps_ret (pe_op op_mod (pe_op op_fdiv (pe_op op_mod (pe_op op_mul (pv 5) (pe_op op_add (pe_op op_mod (pv 5) pe_int) (pe_ix (ix_listK (K := K) rfl) (pv 0) pe_int (fun _ _ => rfl)))) (pv 4)) pe_int) (pv 1))))))))), ?_⟩
    by_cases ha : 0 < a
    · refine st_yes (ans_gt (val_ixL (i := 0) (v := .int a) (val_var rfl) val_c hH rfl) (decide_eq_true ha)) ?_
      refine ⟨_, rfl, hd, _, _, _, rfl, rfl, .of hH, atI_nat (j := 0) rfl, _, rfl, _, _, rfl, rfl, (by show 0 < many; omega), ?_⟩
      refine ⟨_, rfl, hd, _, _, _, rfl, rfl, .of hH, atI_nat (j := 0) rfl, _, rfl, _, _, rfl, rfl, ⟨by omega, by omega⟩, _, rfl, hd, _, _, 0, rfl, rfl, hH, ixNn (by show 0 < 3; decide), ?_⟩
      refine ⟨_, rfl, q _ _ (.set rfl hH (fun _ z => by cases z) (fun _ z => by cases z)) ⟨a / many, b, c, upd_same, Int.ediv_nonneg a0 (by omega), b0, b1, c0, by omega⟩ (Int.emod_nonneg _ (by omega)) (Int.emod_lt_of_pos _ (by omega))⟩
    · refine st_no (ans_gt (val_ixL (i := 0) (v := .int a) (val_var rfl) val_c hH rfl) (decide_eq_false ha)) ?_
      refine ⟨_, rfl, hd, _, _, _, rfl, rfl, .of hH, atI_nat (j := 2) rfl, _, _, rfl, rfl, _, rfl, hd, _, _, 2, rfl, rfl, hH, ixNn (by show 2 < 3; decide), ?_⟩
      have k1 : Kp (fun b => b = hd) H (upd H hd (.lst [.int a, .int b, .int (c + 1)])) := .set rfl hH (fun _ z => by cases z) (fun _ z => by cases z)
      have h1 : upd H hd (.lst [.int a, .int b, .int (c + 1)]) hd = some (.lst [.int a, .int b, .int (c + 1)]) := upd_same
      show tSeq _ _ _ _ _
      refine ⟨by show 8 ≤ sizeLine; decide, fun pr hpr => ?_⟩
      change upd H hd (.lst [.int a, .int b, .int (c + 1)]) pr = none at hpr
      have k2 := k1.then_new hpr (o := .lst (primes.map V.int))
      have hpr2 : upd (upd H hd (.lst [.int a, .int b, .int (c + 1)])) pr (.lst (primes.map V.int)) pr = some (.lst (primes.map V.int)) := upd_same
      have h2 : upd (upd H hd (.lst [.int a, .int b, .int (c + 1)])) pr (.lst (primes.map V.int)) hd = some (.lst [.int a, .int b, .int (c + 1)]) := by rw [upd_ne (ne_of_none h1 hpr)]; exact h1
      show tSeq _ _ _ _ (upd (upd H hd (.lst [.int a, .int b, .int (c + 1)])) pr (.lst (primes.map V.int)))
      generalize upd (upd H hd (.lst [.int a, .int b, .int (c + 1)])) pr (.lst (primes.map V.int)) = H2 at k2 hpr2 h2 ⊢
      have hi : ((c + 1) % 8).toNat < primes.length := by
        have : 0 ≤ (c + 1) % 8 := Int.emod_nonneg _ (by decide)
        have : (c + 1) % 8 < 8 := Int.emod_lt_of_pos _ (by decide)
        show _ < 8
        omega
      have ei : ((c + 1) % 8) = (((c + 1) % 8).toNat : Int) := by
        have : 0 ≤ (c + 1) % 8 := Int.emod_nonneg _ (by decide)
        omega
      have hg := map_int_get hi
      have hmem : primes.getD ((c + 1) % 8).toNat 0 ∈ primes := by
        rw [List.getD_eq_getElem?_getD, List.getElem?_eq_getElem hi]
        exact List.getElem_mem hi
      have hpos : ∀ z ∈ primes, 0 < z ∧ z < 4294967296 := by decide
      obtain ⟨p0, p1⟩ := hpos _ hmem
      generalize primes.getD ((c + 1) % 8).toNat 0 = pm at hg p0 p1
      refine ⟨_, rfl, _, rfl, hd, _, _, _, rfl, rfl, .of h2, atI_nat (j := 2) rfl, _, _, rfl, rfl, (by show (0 : Int) < 8; decide), pr, _, _, .int pm, rfl, rfl, .of hpr2, ?_, ?_⟩
      · show atI _ ((c + 1) % 8) = _
        rw [ei]
        exact atI_nat hg
      refine ⟨_, rfl, hd, _, _, _, rfl, rfl, .of h2, atI_nat (j := 1) rfl, _, rfl, hd, _, _, _, rfl, rfl, .of h2, atI_nat (j := 2) rfl, _, _, rfl, rfl, .inl ⟨by decide, by decide⟩, _, _, rfl, rfl, _, _, rfl, rfl, ⟨by decide, by decide, by omega⟩, _, rfl, _, _, rfl, rfl, p0, ?_⟩
      have d0 : 0 ≤ (b + 7919 * (c + 1)) ^ (Int.toNat 5) % pm := Int.emod_nonneg _ (by omega)
      have d1 : (b + 7919 * (c + 1)) ^ (Int.toNat 5) % pm < pm := Int.emod_lt_of_pos _ p0
      refine ⟨_, rfl, _, rfl, _, _, rfl, rfl, (by show (0 : Int) < 1009; decide), _, rfl, hd, _, _, _, rfl, rfl, .of h2, atI_nat (j := 2) rfl, _, _, rfl, rfl, _, _, rfl, rfl, .inl ⟨by omega, by omega⟩, _, rfl, _, _, rfl, rfl, p0, _, _, rfl, rfl, ⟨by decide, by decide⟩, _, rfl, _, _, rfl, rfl, (by show 0 < many; omega), ?_⟩
      exact q _ _ k2 ⟨a, b, c + 1, h2, a0, b0, b1, by omega, by omega⟩ (Int.emod_nonneg _ (by omega)) (Int.emod_lt_of_pos _ (by omega))
end
end WS
set_option Elab.async false
set_option linter.all false
set_option maxRecDepth 100000
set_option maxHeartbeats 4000000
namespace WS
open PySem PySem.Spec PyProof.Rows L2 LamX
section
variable {X : Cx} {K : PySem.W.Frag} {o e : Expr} {es : List Expr} {to : TE} {t : TA} {name : Str} {apos cpos : Pos} {T id : String} {r : V → List V → Hp → VK → Prop}
theorem pe_bmK (hK : X.K = K) (pa : PlainAttrs T) (slot : Slot T name id) (hty : typeOf (.builtin id) = pure (.type "method_descriptor")) (hm : MtR X id r) (ho : PE X o to) (ha : PA X (e :: es) t)
    (hbase : attributeBase o name X.env (eval o X.env) = eval o X.env := by rfl)
    (hfew : ((backTo cpos (starEach (e :: es) X.env)).all (fun x => !x.1) && (backToKw cpos (keywordEach [] X.env)).all (fun x => x.1.isSome)
      && decide ((e :: es).length + ([] : List Keyword).length + (if ([] : List Keyword).isEmpty then 0 else 1) < 30)) = true := by rfl)
    (hline : (apos.endLine == cpos.line) = true := by rfl) (hs : starEach (e :: es) X.env = (false, eval e X.env) :: starEach es X.env := by rfl) (hplain : (backTo cpos (starEach es X.env)).any (·.1) = false := by rfl) :
    PE X (.Call (.Attribute o name apos) (e :: es) [] cpos) (tBM K T r to t) := hK ▸ pe_bm pa slot hty hm ho ha hbase hfew hline hs hplain
end
theorem atI_int {α : Type} {xs : List α} {r : Int} {v : α} (r0 : 0 ≤ r) (h : xs[r.toNat]? = some v) : atI xs r = some v := by
  obtain ⟨k, rfl⟩ := Int.eq_ofNat_of_zero_le r0
  exact atI_nat (by simpa using h)
section
variable {P : Program} {w : World} {K : PySem.W.Frag} {mg : Str → Option Value} {base : Heap} {CM CH CV LP : Addr}
/-! ### _law_of -/
/-- what may be drawn from -/
def Some_ (H : Hp) (hd : Addr) (x v : V) : Prop := (∃ p xs, x = .ref p ∧ H p = some (.lst xs) ∧ v ∈ xs) ∨ ∃ (z : Str) (c : Nat), x = .str z ∧ c ∈ z.cps.toList ∧ v = .str ⟨#[c]⟩
def sp_of : Sp := fun vs H Q _ => ∃ (hd : Addr) (x : V) (n : Nat), vs = [.ref hd, x] ∧ HandAt H hd n ∧ n ≤ 1000000 ∧
  ((∃ p xs, x = .ref p ∧ p ≠ hd ∧ H p = some (.lst xs) ∧ xs ≠ [] ∧ xs.length ≤ 1000) ∨ ∃ z : Str, x = .str z ∧ z.length ≠ 0 ∧ z.length ≤ 1000) ∧
  ∀ (H' : Hp) (v : V), Kp (fun b => b = hd) H H' → HandAt H' hd (n + 1) → Some_ H hd x v → Q v H'
abbrev n__law_of : List Str := ["_law_hand_here", "_law_some"]
theorem sc__law_of : FnScope n__law_of ["_law_hand_here", "_law_some"] (C8.fnScope s__law_of) := ⟨rfl, rfl, rfl, by decide +kernel, rfl, by decide +kernel, by decide +kernel⟩
theorem cal__law_of (T : Txt K mg CM CH CV LP) (h : HasDef K mg "_law_of" s__law_of ["_law_hand_here", "_law_some"]) (c__law_take : C8.Cal P w K mg base 1 "_law_take" sp_take []) : C8.Cal P w K mg base 2 "_law_of" sp_of [] := by
  refine mkCal h sc__law_of (fun vs H Q E hh => ?_) (fun fa cdv Ar outer s H vs Q E hr hh => ?_)
  · obtain ⟨hd, x, n, rfl, _⟩ := hh
    rfl
  · obtain ⟨hd, x, n, rfl, ha, hn, hx, q⟩ := hh
    refine ⟨_, (pss_one (ps_ret (pe_ix (ix_seqK (K := K) rfl) (pv 1) (C8.pe_c c__law_take hr (by decide) rfl (pa_cons (pv 0) (pa_cons (pe_callB call_len (by rfl) T.m_len (by decide +kernel) (pa_cons (pv 1) pa_nil)) pa_nil))) (fun _ _ => rfl)))), ?_⟩
    rcases hx with ⟨p, xs, rfl, np, hp, ne, hl⟩ | ⟨z, rfl, z0, z1⟩
    · have l0 : 0 < xs.length := List.length_pos_iff.mpr ne
      refine ⟨_, rfl, _, rfl, _, rfl, .ref p, xs.length, rfl, .inl ⟨xs, .of hp, rfl⟩, hd, _, n, rfl, ha, hn, by omega, by omega, fun H1 r k1 h1 r0 r1 => ?_⟩
      have hr' : r = (r.toNat : Int) := by omega
      have hlt : r.toNat < xs.length := by omega
      refine .inl ⟨p, xs, r, xs[r.toNat], rfl, rfl, .of (k1.get hp np), atI_int r0 (List.getElem?_eq_getElem hlt), q _ _ k1 h1 (.inl ⟨p, xs, rfl, hp, List.getElem_mem hlt⟩)⟩
    · refine ⟨_, rfl, _, rfl, _, rfl, .str z, z.length, rfl, ⟨le_line (by omega), rfl⟩, hd, _, n, rfl, ha, hn, by omega, by omega, fun H1 r k1 h1 r0 r1 => ?_⟩
      have hr' : r = (r.toNat : Int) := by omega
      have hlt : r.toNat < z.cps.toList.length := by
        have : z.length = z.cps.toList.length := by simp [Str.length]
        omega
      refine .inr (.inr ⟨z, r, z.cps.toList[r.toNat], rfl, rfl, le_line (by omega), atI_int r0 (List.getElem?_eq_getElem hlt), q _ _ k1 h1 (.inr ⟨z, _, rfl, List.getElem_mem hlt, rfl⟩)⟩)
/-! ### _law_order -/
def sp_order : Sp := fun vs H Q _ => ∃ (hd sp : Addr) (xs : List V) (n : Nat), vs = [.ref hd, .ref sp] ∧ HandAt H hd n ∧ n ≤ 100000 ∧ sp ≠ hd ∧ H sp = some (.lst xs) ∧ xs.length ≤ 100 ∧
  ∀ (H' : Hp) (p : Addr) (ys : List V), Kp (fun b => b = hd) H H' → H p = none → H' p = some (.lst ys) → ys.Perm xs → HandAt H' hd (n + xs.length) → Q (.ref p) H'
abbrev n__law_order : List Str := ["_law_hand_here", "_law_some", "_law_left", "_law_k"]
theorem sc__law_order : FnScope n__law_order ["_law_hand_here", "_law_some"] (C8.fnScope s__law_order) := ⟨rfl, rfl, rfl, by decide +kernel, rfl, by decide +kernel, by decide +kernel⟩
theorem erase_perm {α : Type} {l : List α} {k : Nat} {y : α} (h : l[k]? = some y) : (y :: l.eraseIdx k).Perm l := by
  induction l generalizing k with
  | nil => simp at h
  | cons a l ih =>
    cases k with
    | zero => simp at h; subst h; simp
    | succ k =>
      have h : l[k]? = some y := by simpa using h
      show (y :: a :: l.eraseIdx k).Perm (a :: l)
      exact (List.Perm.swap a y _).trans ((ih h).cons a)
theorem cal__law_order (T : Txt K mg CM CH CV LP) (h : HasDef K mg "_law_order" s__law_order ["_law_hand_here", "_law_some"]) (c__law_take : C8.Cal P w K mg base 1 "_law_take" sp_take []) : C8.Cal P w K mg base 2 "_law_order" sp_order [] := by
  refine mkCal h sc__law_order (fun vs H Q E hh => ?_) (fun fa cdv Ar outer s H vs Q E hr hh => ?_)
  · obtain ⟨hd, sp, xs, n, rfl, _⟩ := hh
    rfl
  · obtain ⟨hd, sp, xs, n, rfl, ha, hn, ns, hsp, l100, q⟩ := hh
    refine ⟨_, (pss_cons (ps_set (i := 2) sc__law_order.nd rfl (loc_by rfl) (pe_callTy (call_lstK (K := K) rfl) (by rfl) T.m_list (by decide +kernel) (pa_cons (pv 1) pa_nil)))
      (pss_one (ps_ret (pe_lc (own := [("_law_k", 3)]) (g := (gName 3)) (tt := tYes) rfl sc__law_order.nd (pi_range1 rfl T.m_range (pa_cons (pe_callB (call_lenK (K := K) rfl) (by rfl) T.m_len (by decide +kernel) (pa_cons (pv 1) pa_nil)) pa_nil)) (blkOk_by (own := [("_law_k", 3)]) (N := n__law_order) (sc := C8.fnScope s__law_order) (by decide +kernel)) (fun _ _ _ _ _ => (pg_name (i := 3) sc__law_order.nd rfl (loc_by rfl))) (fun _ _ _ _ _ => pts_nil) (fun _ _ _ _ _ => (pe_bmK (K := K) rfl PySem.F.plainAttrs_list PySem.F.slot_list_pop PySem.F.type_list_pop mt_popAt (pv 2) (pa_cons (C8.pe_c c__law_take hr (by decide) rfl (pa_cons (pv 0) (pa_cons (pe_callB (call_lenK (K := K) rfl) (by rfl) T.m_len (by decide +kernel) (pa_cons (pv 2) pa_nil)) pa_nil))) pa_nil))))))), ?_⟩
    obtain ⟨hxs, hhd⟩ := ha.at_
    refine ⟨_, rfl, sp, xs, rfl, .inl (.of hsp), fun l hl => ?_⟩
    have nl : l ≠ hd := (ne_of_none hhd hl).symm
    have k0 : K0 H (upd H l (.lst xs)) := .new hl
    have hl1 : upd H l (.lst xs) l = some (.lst xs) := upd_same
    have ha1 := ha.keep k0 (fun z => z)
    have hsp1 := k0.get0 hsp
    generalize upd H l (.lst xs) = H1 at k0 hl1 ha1 hsp1 ⊢
    refine ⟨_, rfl, sp, xs, rfl, .inl (.of hsp1), _, rfl, by omega, by omega, fun D hD => ?_⟩
    rw [Int.toNat_natCast]
    have nDl : D ≠ l := (ne_of_none hl1 hD).symm
    have nDh : D ≠ hd := by
      obtain ⟨ys, hh1⟩ := ha1.at_
      exact (ne_of_none hh1 hD).symm
    refine lc_it (n := xs.length) (walk_range (lo := 0)) (fun i H2 => i ≤ xs.length ∧ Kp (fun b => b = hd ∨ b = l) H1 H2 ∧ HandAt H2 hd (n + i) ∧ ∃ acc rest, H2 D = some (.lst acc) ∧ H2 l = some (.lst rest) ∧ acc.length = i ∧ (acc ++ rest).Perm xs)
      ⟨Nat.zero_le _, .new hD, ha1.keep (Kp.new hD (S := fun _ => False)) (fun z => z), [], xs, upd_same, by rw [upd_ne nDl.symm]; exact hl1, rfl, .refl _⟩ (fun _ _ _ _ => trivial) ?_ ?_
    · rintro i x H2 H3 hi ⟨_, k, ha2, acc, rest, hD2, hl2, hal, hpm⟩ ⟨rfl, hx⟩
      have hlen : acc.length + rest.length = xs.length := by rw [← List.length_append]; exact hpm.length_eq
      refine ⟨rfl, ?_⟩
      refine ⟨_, rfl, tyL hl2, _, rfl, _, rfl, l, rest, rfl, .inl (.of hl2), hd, _, n + i, rfl, ha2, by omega, by omega, by omega, fun H4 r k4 ha4 r0 r1 => ?_⟩
      have hl4 := k4.get hl2 nl
      have hlt : r.toNat < rest.length := by omega
      have hry := List.getElem?_eq_getElem hlt
      refine ⟨l, rest, r, r.toNat, rest[r.toNat], rfl, rfl, hl4, by omega, by omega, seqIndex_of r0 (by omega), hry, ?_⟩
      have hD4 := k4.get hD2 nDh
      refine ⟨acc, by rw [upd_ne nDl]; exact hD4, lt_line (by omega), by omega, ?_, ?_, acc ++ [rest[r.toNat]], rest.eraseIdx r.toNat, upd_same, by rw [upd_ne nDl.symm, upd_same], by simp [hal], ?_⟩
      · exact ((k.trans (k4.mono fun _ z => .inl z)).then_set (.inr rfl) hl4 (fun _ z => by cases z) (fun _ z => by cases z)).mut hD
      · refine HandAt.keep (HandAt.keep ha4 (Kp.set (S := fun b => b = l) rfl hl4 (fun _ z => by cases z) (fun _ z => by cases z)) (fun z => nl z.symm)) (Kp.set (S := fun b => b = D) rfl (by rw [upd_ne nDl]; exact hD4) (fun _ z => by cases z) (fun _ z => by cases z)) (fun z => nDh z.symm)
      · rw [List.append_assoc]
        exact (List.Perm.append_left acc (erase_perm hry)).trans hpm
    · rintro H2 ⟨_, k, ha2, acc, rest, hD2, hl2, hal, hpm⟩
      have hlen : acc.length + rest.length = xs.length := by rw [← List.length_append]; exact hpm.length_eq
      have hr0 : rest = [] := List.length_eq_zero_iff.mp (by omega)
      subst hr0
      rw [List.append_nil] at hpm
      refine q H2 D acc ((k0.up.trans k).drop fun b o e z => ?_) (k0.fr _ hD) hD2 hpm ha2
      rcases z with rfl | rfl
      · rfl
      · rw [hl] at e; cases e
end
end WS
set_option Elab.async false
set_option linter.all false
set_option maxRecDepth 100000
set_option maxHeartbeats 4000000
namespace WS
open PySem PySem.Spec PyProof.Rows L2 LamX
def okc (c : Nat) : Prop := 97 ≤ c ∧ c ≤ 122
structure okS (s : Str) : Prop where
  l : s.length ≤ 6
  c : ∀ c ∈ s.cps.toList, okc c
theorem len_toList (s : Str) : s.length = s.cps.toList.length := by simp [Str.length]
theorem app_toList (a b : Str) : (a ++ b).cps.toList = a.cps.toList ++ b.cps.toList := by
  show (a.cps ++ b.cps).toList = _
  simp
theorem join_ok : ∀ (cs : List Nat), (∀ c ∈ cs, okc c) → (∀ c ∈ (Str.join "" (cs.map fun c => (⟨#[c]⟩ : Str))).cps.toList, okc c) ∧ (Str.join "" (cs.map fun c => (⟨#[c]⟩ : Str))).cps.toList.length = cs.length
  | [], _ => ⟨fun c h => by simp [Str.join, Str.empty] at h, rfl⟩
  | [c], h => ⟨fun d hd => by
      have : d = c := by simpa [Str.join] using hd
      rw [this]; exact h c (by simp), rfl⟩
  | c :: c2 :: cs, h => by
    obtain ⟨h1, h2⟩ := join_ok (c2 :: cs) fun d hd => h d (List.mem_cons_of_mem _ hd)
    have e : Str.join "" ((c :: c2 :: cs).map fun c => (⟨#[c]⟩ : Str)) = (⟨#[c]⟩ : Str) ++ ("" : Str) ++ Str.join "" ((c2 :: cs).map fun c => (⟨#[c]⟩ : Str)) := rfl
    rw [e]
    have e0 : (("" : Str)).cps.toList = [] := rfl
    constructor
    · intro d hd
      rw [app_toList, app_toList, e0] at hd
      simp only [List.append_nil, List.mem_append] at hd
      rcases hd with hd | hd
      · have : d = c := by simpa using hd
        rw [this]; exact h c (by simp)
      · exact h1 d hd
    · rw [app_toList, app_toList, e0, List.length_append, List.length_append, h2]
      simp
      omega
theorem ones_sum (cs : List Nat) : ((cs.map fun c => (⟨#[c]⟩ : Str)).map (·.length)).sum = cs.length := by
  induction cs with
  | nil => rfl
  | cons c cs ih =>
    simp only [List.map_cons, List.sum_cons, ih, List.length_cons]
    show 1 + _ = _
    omega
theorem ones_of : ∀ {vs : List V}, (∀ v ∈ vs, ∃ c : Nat, v = .str ⟨#[c]⟩ ∧ okc c) → ∃ cs : List Nat, vs = (cs.map fun c => (⟨#[c]⟩ : Str)).map V.str ∧ ∀ c ∈ cs, okc c
  | [], _ => ⟨[], rfl, fun _ h => by simp at h⟩
  | v :: vs, h => by
    obtain ⟨c, rfl, hc⟩ := h v (List.mem_cons_self ..)
    obtain ⟨cs, rfl, hcs⟩ := ones_of fun x hx => h x (List.mem_cons_of_mem _ hx)
    exact ⟨c :: cs, rfl, fun d hd => by
      rcases List.mem_cons.mp hd with rfl | hd
      · exact hc
      · exact hcs d hd⟩
/-- the first five signs -/
def five (z : Str) : Str := cutS z none (some 5)
theorem five_ok {z : Str} (h : ∀ c ∈ z.cps.toList, okc c) : (five z).cps.toList.length ≤ 5 ∧ ∀ c ∈ (five z).cps.toList, okc c := by
  unfold five cutS
  have e : HT.sIx z.length z.length (some 5) ≤ 5 := by
    rw [show (5 : Int) = ((5 : Nat) : Int) from rfl, HT.sIx_nat]
    omega
  constructor
  · simp only [List.length_take]
    omega
  · intro c hc
    simp only at hc
    exact h c (List.mem_of_mem_drop (List.mem_of_mem_take hc))
theorem inV_str (x : Str) (ss : List Str) : inV (.str x) (ss.map V.str) = decide (x ∈ ss) := by
  unfold inV
  rw [List.any_map]
  induction ss with
  | nil => rfl
  | cons y ss ih =>
    rw [List.any_cons, ih]
    show ((y == x) || _) = _
    by_cases e : y = x
    · subst e; simp
    · have : (y == x) = false := by simp [e]
      rw [this, Bool.false_or]
      by_cases h : x ∈ ss
      · rw [decide_eq_true h, decide_eq_true (List.mem_cons_of_mem _ h)]
      · rw [decide_eq_false h, decide_eq_false]
        intro z
        rcases List.mem_cons.mp z with z | z
        · exact e z.symm
        · exact h z
def letters : Str := "abcdefghijklmnopqrstuvwxyz"
theorem letters_ok : ∀ c ∈ letters.cps.toList, okc c := by unfold okc; decide +kernel
theorem letters_len : letters.cps.size = 26 := by decide +kernel
theorem letters_nodup : letters.cps.toList.Nodup := by decide +kernel
theorem letters_length : letters.length = 26 := letters_len
/-- a sign that is free -/
theorem free_ex {base : Str} {ss : List Str} (h : ss.length ≤ 25) : ∃ i, i < 26 ∧ base ++ (⟨#[letters.cps.toList.getD i 0]⟩ : Str) ∉ ss := by
  by_cases z : ∃ i, i < 26 ∧ base ++ (⟨#[letters.cps.toList.getD i 0]⟩ : Str) ∉ ss
  · exact z
  · exfalso
    have hall : ∀ x ∈ (letters.cps.toList.map fun c => base ++ (⟨#[c]⟩ : Str)), x ∈ ss := by
      intro x hx
      obtain ⟨c, hc, rfl⟩ := List.mem_map.mp hx
      obtain ⟨i, hi⟩ := List.getElem?_of_mem hc
      have hlt : i < letters.cps.toList.length := (List.getElem?_eq_some_iff.mp hi).1
      have h26 : letters.cps.toList.length = 26 := by simpa using letters_len
      by_cases q : base ++ (⟨#[c]⟩ : Str) ∈ ss
      · exact q
      · refine absurd ⟨i, by omega, ?_⟩ z
        rw [List.getD_eq_getElem?_getD, hi]
        exact q
    have hnd : (letters.cps.toList.map fun c => base ++ (⟨#[c]⟩ : Str)).Nodup := by
      have := letters_nodup
      rw [List.nodup_iff_pairwise_ne] at this ⊢
      rw [List.pairwise_map]
      refine this.imp fun {a b} hab e => hab ?_
      have := congrArg (fun s : Str => s.cps.toList) e
      simp only [app_toList] at this
      have := List.append_cancel_left this
      simpa using this
    have := length_le_of_sub hnd hall
    have h26 : letters.cps.toList.length = 26 := by simpa using letters_len
    rw [List.length_map, h26] at this
    omega
theorem flat_strs' (l : List Str) : (l.map V.str).all flatV = true := flat_strs l
section
variable {P : Program} {w : World} {K : PySem.W.Frag} {mg : Str → Option Value} {base : Heap} {CM CH CV LP : Addr}
/-! ### _law_names -/
def sp_names : Sp := fun vs H Q _ => ∃ (hd : Addr) (m n : Nat), vs = [.ref hd, .int (m : Nat)] ∧ HandAt H hd n ∧ n ≤ 100000 ∧ m ≤ 7 ∧
  ∀ (H' : Hp) (p : Addr) (ss : List Str), Kp (fun b => b = hd) H H' → H p = none → H' p = some (.lst (ss.map V.str)) → ss.length = m → ss.Nodup → (∀ s ∈ ss, okS s) → HandAt H' hd (n + 7 * m) → Q (.ref p) H'
abbrev n__law_names : List Str := ["_law_hand_here", "_law_many", "_law_letters", "_law_found", "_law_k", "_law_long", "_law_name", "_law_j", "_law_free", "_law_sign"]
theorem sc__law_names : FnScope n__law_names ["_law_hand_here", "_law_many"] (C8.fnScope s__law_names) := ⟨rfl, rfl, rfl, by decide +kernel, rfl, by decide +kernel, by decide +kernel⟩
theorem cal__law_names (T : Txt K mg CM CH CV LP) (h : HasDef K mg "_law_names" s__law_names ["_law_hand_here", "_law_many"]) (c__law_of : C8.Cal P w K mg base 2 "_law_of" sp_of []) : C8.Cal P w K mg base 3 "_law_names" sp_names [] := by
  refine mkCal h sc__law_names (fun vs H Q E hh => ?_) (fun fa cdv Ar outer s H vs Q E hr hh => ?_)
  · obtain ⟨hd, m, n, rfl, _⟩ := hh
    rfl
  · obtain ⟨hd, m, n, rfl, ha, hn, hm, q⟩ := hh
    refine ⟨_, (pss_cons (ps_asg (pe_tup (pa_cons pe_str (pa_cons (pe_lst pa_nil) pa_nil))) (pg_tup rfl (pgs_cons (pg_name (i := 2) sc__law_names.nd rfl (loc_by rfl)) (pgs_cons (pg_name (i := 3) sc__law_names.nd rfl (loc_by rfl)) pgs_nil))))
      (pss_cons (ps_for PassesOwn.never rfl (pi_range1 rfl T.m_range (pa_cons (pv 1) pa_nil)) (pg_name (i := 4) sc__law_names.nd rfl (loc_by rfl)) (pss_cons (ps_set (i := 5) sc__law_names.nd rfl (loc_by rfl) (C8.pe_c c__law_of hr (by decide) rfl (pa_cons (pv 0) (pa_cons (pe_lst (pa_cons pe_int (pa_cons pe_int (pa_cons pe_int (pa_cons pe_int (pa_cons pe_int (pa_cons pe_int pa_nil))))))) pa_nil))))
      (pss_cons (ps_set (i := 6) sc__law_names.nd rfl (loc_by rfl) (pe_join pe_str (pe_lc (own := [("_law_j", 7)]) (g := (gName 7)) (tt := tYes) rfl sc__law_names.nd (pi_range1 rfl T.m_range (pa_cons (pv 5) pa_nil)) (blkOk_by (own := [("_law_j", 7)]) (N := n__law_names) (sc := C8.fnScope s__law_names) (by decide +kernel)) (fun _ _ _ _ _ => (pg_name (i := 7) sc__law_names.nd rfl (loc_by rfl))) (fun _ _ _ _ _ => pts_nil) (fun _ _ _ _ _ => (C8.pe_c c__law_of hr (by decide) rfl (pa_cons (pv 0) (pa_cons (pv 2) pa_nil)))))))
      (pss_cons (ps_setLc (i := 8) (own := [("_law_sign", 9)]) (g := (gName 9)) (tt := _) rfl sc__law_names.nd rfl rfl (sw_true rfl rfl rfl (by decide +kernel)) (pi_str (pv 2)) (blkOk_by (own := [("_law_sign", 9)]) (N := n__law_names) (sc := C8.fnScope s__law_names) (by decide +kernel)) (fun _ _ _ _ _ => (pg_name (i := 9) sc__law_names.nd rfl (loc_by rfl))) (fun _ _ _ _ _ => (pts_one (pt_cmpR (op_notInK (K := K) rfl) (pe_op op_add_str (pe_slice sl_str (pv 6) po_none (po_some pe_int)) (pv 9)) (pv 3) (by rfl)))) (fun _ _ _ _ _ => (pe_op op_add_str (pe_slice sl_str (pv 6) po_none (po_some pe_int)) (pv 9))))
      (pss_one (ps_expr (pe_bm PySem.F.plainAttrs_list PySem.F.slot_list_append PySem.F.type_list_append mt_append (pv 3) (pa_cons (pe_ifExp (pt_cmpR (op_notInK (K := K) rfl) (pv 6) (pv 3) (by rfl)) (pv 6) (pe_ix (ix_listK (K := K) rfl) (pv 8) pe_int (fun _ _ => rfl))) pa_nil))))))))
      (pss_one (ps_ret (pv 3))))), ?_⟩
    obtain ⟨hxs, hhd⟩ := ha.at_
    refine ⟨Nat.zero_le _, fun p hp => ?_⟩
    have nph : p ≠ hd := (ne_of_none hhd hp).symm
    refine ⟨by show 2 ≤ sizeLine; decide, fun pt hpt => ?_⟩
    refine ⟨pt, _, rfl, .of upd_same, rfl, _, _, rfl, _, _, rfl, rfl, ?_⟩
    have k0 : K0 H (upd (upd H p (.lst [])) pt (.tup [.str letters, .ref p])) := (Kp.new hp).then_new hpt
    have hp0 : upd (upd H p (.lst [])) pt (.tup [.str letters, .ref p]) p = some (.lst []) := by rw [upd_ne (ne_of_none upd_same hpt), upd_same]
    have ha0 := ha.keep k0 (fun z => z)
    show tSeq _ _ _ _ (upd (upd H p (.lst [])) pt (.tup [.str letters, .ref p]))
    generalize upd (upd H p (.lst [])) pt (.tup [.str letters, .ref p]) = H1 at k0 hp0 ha0 ⊢
    refine ⟨_, rfl, _, rfl, by omega, by omega, ?_⟩
    rw [Int.toNat_natCast]
    refine for_range (lo := 0) (n := m) (fun i σ H2 => ∃ x4 x5 x6 x7 x8 x9 ss, σ = [some (.ref hd), some (.int (m : Nat)), some (.str letters), some (.ref p), x4, x5, x6, x7, x8, x9] ∧ Kp (fun b => b = hd ∨ b = p) H1 H2 ∧ HandAt H2 hd (n + 7 * i) ∧
      H2 p = some (.lst (ss.map V.str)) ∧ ss.length = i ∧ ss.Nodup ∧ ∀ s ∈ ss, okS s) ⟨none, none, none, none, none, none, [], rfl, .refl _, ha0, hp0, rfl, by simp, fun s h => by simp at h⟩ ?_ ?_
    · rintro i σ H2 hi ⟨x4, x5, x6, x7, x8, x9, ss, rfl, k, ha2, hp2, hsl, hnd, hok⟩
      -- long
      refine ⟨_, rfl, by show 6 ≤ sizeLine; decide, fun L hL => ?_⟩
      obtain ⟨hxs2, hhd2⟩ := ha2.at_
      have nLh : L ≠ hd := (ne_of_none hhd2 hL).symm
      have kL : K0 H2 (upd H2 L (.lst [.int 1, .int 1, .int 2, .int 3, .int 5, .int 6])) := .new hL
      refine ⟨hd, .ref L, n + 7 * i, rfl, ha2.keep kL (fun z => z), by omega, .inl ⟨L, _, rfl, nLh, upd_same, by simp, by decide⟩, fun H3 v k3 ha3 sv => ?_⟩
      have hv : ∃ l : Nat, v = .int (l : Nat) ∧ l ≤ 6 := by
        rcases sv with ⟨p', xs, e1, e2, e3⟩ | ⟨z, c, e, _⟩
        · cases e1
          rw [upd_same] at e2
          cases e2
          simp only [List.mem_cons, List.not_mem_nil, or_false] at e3
          rcases e3 with rfl | rfl | rfl | rfl | rfl | rfl
          · exact ⟨1, rfl, by omega⟩
          · exact ⟨1, rfl, by omega⟩
          · exact ⟨2, rfl, by omega⟩
          · exact ⟨3, rfl, by omega⟩
          · exact ⟨5, rfl, by omega⟩
          · exact ⟨6, rfl, by omega⟩
        · cases e
      obtain ⟨l, rfl, hl6⟩ := hv
      have k23 : Kp (fun b => b = hd) H2 H3 := kL.up.trans k3
      have hp3 := k23.get hp2 nph
      -- name
      refine ⟨⟨_, rfl⟩, _, rfl, _, rfl, by omega, by omega, fun D hD => ?_⟩
      rw [Int.toNat_natCast]
      obtain ⟨hxs3, hhd3⟩ := ha3.at_
      have nDh : D ≠ hd := (ne_of_none hhd3 hD).symm
      refine lc_gen (n := l) (walk_range (lo := 0)) (fun b => b = hd) (fun j H => HandAt H hd (n + 7 * i + 1 + j)) (fun _ _ v => ∃ c : Nat, v = .str ⟨#[c]⟩ ∧ okc c) (fun _ => true) hD nDh (by omega) (ha3.keep (Kp.new hD (S := fun _ => False)) (fun z => z)) (fun j H acc acc' h hDa => HandAt.keep h (Kp.set (S := fun b => b = D) rfl hDa (fun _ z => by cases z) (fun _ z => by cases z)) (fun z => nDh z.symm)) (fun _ _ _ _ h _ => h) (fun _ _ _ _ _ => trivial) ?_ ?_
      · rintro j x H4 H5 hj k4 ha4 ⟨rfl, hx⟩ Post Skip hP hS
        refine ⟨rfl, ?_⟩
        refine ⟨_, rfl, _, rfl, hd, .str letters, _, rfl, ha4, by omega, .inr ⟨letters, rfl, by rw [letters_length]; decide, by rw [letters_length]; decide⟩, fun H6 v k6 ha6 sv => ?_⟩
        refine hP rfl _ _ k6 ha6 ?_
        rcases sv with ⟨p', xs, e1, _⟩ | ⟨z, c, e, hc, rfl⟩
        · cases e1
        · cases e
          exact ⟨c, rfl, letters_ok c hc⟩
      intro H4 acc k4 ha4 hacc hpd
      rw [filter_true] at hpd
      obtain ⟨cs, rfl, hcs⟩ := ones_of (vs := acc) fun v hv => by
        obtain ⟨j, hj⟩ := List.getElem?_of_mem hv
        obtain ⟨_, _, h⟩ := WS.Paired.get_r hpd hj
        exact h
      have hcl : cs.length = l := by
        have := hpd.length
        simpa using this.symm
      refine ⟨_, D, _, rfl, rfl, .inl (.of hacc), ?_, ?_⟩
      · rw [ones_sum]
        have : (("" : Str)).length = 0 := rfl
        rw [this]; omega
      rw [show ∀ ys : List Str, Txt.join (Str.ofString "") ys = Str.join (Str.ofString "") ys from fun ys => StrLaws.glued_eq_join _ ys]
      obtain ⟨jc, jl⟩ := join_ok cs hcs
      have hnameok : okS (Str.join "" (cs.map fun c => (⟨#[c]⟩ : Str))) := ⟨by rw [len_toList, jl]; omega, jc⟩
      have e0 : (Str.join "" (cs.map fun c => (⟨#[c]⟩ : Str))) = Str.join (Str.ofString "") (cs.map fun c => (⟨#[c]⟩ : Str)) := rfl
      rw [e0] at hnameok
      generalize Str.join (Str.ofString "") (cs.map fun c => (⟨#[c]⟩ : Str)) = nm at hnameok ⊢
      have hp4 := k4.get hp3 nph
      have ha4 := ha4.mono (m := n + 7 * (i + 1)) (by omega)
      have k24 := k23.trans k4
      obtain ⟨fl, fc⟩ := five_ok hnameok.c
      -- free
      refine ⟨_, rfl, letters, rfl, fun D2 hD2 => ?_⟩
      have nD2p : D2 ≠ p := (ne_of_none hp4 hD2).symm
      have hcat : ∀ c : Nat, (five nm).length + (⟨#[c]⟩ : Str).length ≤ sizeLine := fun c => le_line (by
        rw [len_toList]
        show _ + 1 ≤ _
        omega)
      have h26 : letters.cps.toList.length = 26 := by simpa using letters_len
      refine lc_pure (n := letters.cps.size) walk_str (fun j _ v => v = .str (five nm ++ ⟨#[letters.cps.toList.getD j 0]⟩)) (fun j => !decide (five nm ++ (⟨#[letters.cps.toList.getD j 0]⟩ : Str) ∈ ss)) hD2 (by rw [letters_len]; decide) (fun _ _ _ _ h _ => h) (fun _ _ => trivial) ?_ ?_
      · rintro j x H5 H6 hj k5 ⟨rfl, c, hc, rfl⟩ Post Skip hP hS
        have hcj : letters.cps.toList.getD j 0 = c := by
          rw [List.getD_eq_getElem?_getD, Array.getElem?_toList, hc]; rfl
        rw [hcj] at hP hS
        have hp5 := k5.get0 hp4
        refine ⟨rfl, ?_⟩
        refine ⟨_, rfl, _, rfl, nm, rfl, le_line (by have := hnameok.l; omega), _, rfl, _, _, rfl, rfl, hcat c, _, rfl, p, _, rfl, .inl (.of hp5), rfl, flat_strs ss, _, rfl, ?_⟩
        rw [if_pos rfl]
        have einV := inV_str (five nm ++ ⟨#[c]⟩) ss
        have einV : inV (.str (cutS nm none (some 5) ++ ⟨#[c]⟩)) (ss.map V.str) = decide (five nm ++ (⟨#[c]⟩ : Str) ∈ ss) := einV
        cases hd' : decide (five nm ++ (⟨#[c]⟩ : Str) ∈ ss) with
        | true =>
          refine if_false_of (by rw [einV, hd']; rfl) ?_
          exact hS (by rw [hd']; rfl) _ (.refl _)
        | false =>
          refine if_true_of (by rw [einV, hd']; rfl) ?_
          refine ⟨_, rfl, _, rfl, nm, rfl, le_line (by have := hnameok.l; omega), _, rfl, _, _, rfl, rfl, hcat c, ?_⟩
          exact hP (by rw [hd']; rfl) _ _ (.refl _) rfl
      intro H5 acc2 k5 hacc2 hpd2
      have hp5 := k5.get0 hp4
      have ha5 := ha4.keep k5 (fun z => z)
      -- append
      have fin : ∀ s' : Str, okS s' → s' ∉ ss → ∃ y4 y5 y6 y7 y8 y9, ∃ ss' : List Str, ([some (.ref hd), some (.int (m : Nat)), some (.str letters), some (.ref p), some (.int (0 + (i : Nat))), some (.int (l : Nat)), some (.str nm), x7, some (.ref D2), x9] : L2.St) = [some (.ref hd), some (.int (m : Nat)), some (.str letters), some (.ref p), y4, y5, y6, y7, y8, y9] ∧
          Kp (fun b => b = hd ∨ b = p) H1 (upd H5 p (.lst (ss.map V.str ++ [.str s']))) ∧ HandAt (upd H5 p (.lst (ss.map V.str ++ [.str s']))) hd (n + 7 * (i + 1)) ∧ upd H5 p (.lst (ss.map V.str ++ [.str s'])) p = some (.lst (ss'.map V.str)) ∧ ss'.length = i + 1 ∧ ss'.Nodup ∧ ∀ s ∈ ss', okS s := by
        intro s' h1 h2
        refine ⟨_, _, _, _, _, _, ss ++ [s'], rfl, (k.trans ((k24.mono fun _ z => .inl z).trans k5.up)).then_set (.inr rfl) hp5 (fun _ z => by cases z) (fun _ z => by cases z), ha5.keep (Kp.set (S := fun b => b = p) rfl hp5 (fun _ z => by cases z) (fun _ z => by cases z)) (fun z => nph z.symm), by rw [upd_same]; simp, by simp [hsl], ?_, ?_⟩
        · refine List.nodup_append.mpr ⟨hnd, by simp, fun a ha b hb e => ?_⟩
          rw [List.mem_singleton] at hb
          subst hb e
          exact h2 ha
        · intro s hs
          rcases List.mem_append.mp hs with hs | hs
          · exact hok s hs
          · rw [List.mem_singleton] at hs
            rw [hs]; exact h1
      refine ⟨_, rfl, tyL hp5, _, rfl, _, rfl, p, _, rfl, .inl (.of hp5), rfl, flat_strs ss, _, rfl, ?_⟩
      rw [if_pos rfl, inV_str]
      by_cases hmem : nm ∈ ss
      · refine if_false_of (by simp [hmem]) ?_
        obtain ⟨j, hj, hfree⟩ := free_ex (base := five nm) (ss := ss) (by omega)
        have hne : acc2 ≠ [] := fun z => by
          rw [z] at hpd2
          have hl := hpd2.length
          have : j ∈ (List.range letters.cps.size).filter (fun j => !decide (five nm ++ (⟨#[letters.cps.toList.getD j 0]⟩ : Str) ∈ ss)) := by
            rw [List.mem_filter, List.mem_range, letters_len]
            exact ⟨hj, by show (!decide (five nm ++ (⟨#[letters.cps.toList.getD j 0]⟩ : Str) ∈ ss)) = true; rw [decide_eq_false hfree]; rfl⟩
          have := List.length_pos_of_mem this
          rw [hl] at this
          exact absurd this (Nat.lt_irrefl 0)
        obtain ⟨v, hv⟩ : ∃ v, acc2[0]? = some v := by
          cases acc2 with
          | nil => exact absurd rfl hne
          | cons v _ => exact ⟨v, rfl⟩
        obtain ⟨j0, hj0, rfl⟩ := WS.Paired.get_r hpd2 hv
        have hm0 := List.mem_filter.mp (List.mem_of_getElem? hj0)
        rw [List.mem_range, letters_len] at hm0
        refine ⟨_, rfl, D2, acc2, _, _, rfl, rfl, .of hacc2, atI_nat (j := 0) hv, ?_⟩
        refine ⟨p, _, _, rfl, rfl, hp5, lt_line (by simp; omega), ?_⟩
        refine fin _ ⟨?_, ?_⟩ (fun z => by
          have h2 : (!decide (five nm ++ (⟨#[letters.cps.toList.getD j0 0]⟩ : Str) ∈ ss)) = true := hm0.2
          rw [decide_eq_true z] at h2
          cases h2)
        · rw [len_toList, app_toList, List.length_append]
          show _ + 1 ≤ 6
          omega
        · intro c hc
          rw [app_toList, List.mem_append] at hc
          rcases hc with hc | hc
          · exact fc c hc
          · have : c = letters.cps.toList.getD j0 0 := by simpa using hc
            rw [this, List.getD_eq_getElem?_getD, List.getElem?_eq_getElem (by omega)]
            exact letters_ok _ (List.getElem_mem _)
      · refine if_true_of (by simp [hmem]) ?_
        refine ⟨_, rfl, p, _, _, rfl, rfl, hp5, lt_line (by simp; omega), ?_⟩
        exact fin nm hnameok hmem
    · rintro σ H2 ⟨x4, x5, x6, x7, x8, x9, ss, rfl, k, ha2, hp2, hsl, hnd, hok⟩
      refine ⟨_, rfl, q H2 p ss ((k0.up.trans k).drop fun b o e z => ?_) hp hp2 hsl hnd hok ha2⟩
      rcases z with rfl | rfl
      · rfl
      · rw [hp] at e; cases e
end
end WS
set_option Elab.async false
set_option linter.all false
set_option maxRecDepth 100000
set_option maxHeartbeats 4000000
namespace WS
open PySem PySem.Spec PyProof.Rows L2 LamX
structure PlaceW (p : Place) : Prop where
  ok : PlaceOk p
  n : okS p.name
  s : okS p.skill
structure HandW (h : Hand) : Prop where
  ok : HandOk h
  n : okS h.name
  s : ∀ s ∈ h.skills, okS s
theorem of_lit {hd : Addr} {n : Nat} {ns : List Int} {H : Hp} {Q : VK} {E : XK} (ha : HandAt H hd n) (hn : n ≤ 1000000) (hne : ns ≠ []) (hl : ns.length ≤ 1000) (q : ∀ (H' : Hp) (i : Int), Kp (fun b => b = hd) H H' → HandAt H' hd (n + 1) → i ∈ ns → Q (.int i) H') :
    (ns.map V.int).length ≤ sizeLine ∧ ∀ p, H p = none → sp_of ([.ref hd, .ref p] ++ []) (upd H p (.lst (ns.map V.int))) Q E := by
  refine ⟨le_line (by simp; omega), fun L hL => ?_⟩
  obtain ⟨hxs, hhd⟩ := ha.at_
  have nL : L ≠ hd := (ne_of_none hhd hL).symm
  have k : K0 H (upd H L (.lst (ns.map V.int))) := .new hL
  refine ⟨hd, .ref L, n, rfl, ha.keep k (fun z => z), hn, .inl ⟨L, _, rfl, nL, upd_same, by simpa using hne, by simp; omega⟩, fun H3 v k3 ha3 sv => ?_⟩
  rcases sv with ⟨p', xs, e1, e2, e3⟩ | ⟨z, c, e, _⟩
  · cases e1
    rw [upd_same] at e2
    cases e2
    obtain ⟨i, hi, rfl⟩ := List.mem_map.mp e3
    exact q H3 i (k.up.trans k3) ha3 hi
  · cases e
theorem of_pool {hd b : Addr} {n : Nat} {ss : List Str} {H : Hp} {Q : VK} {E : XK} (ha : HandAt H hd n) (hn : n ≤ 1000000) (hb : H b = some (.lst (ss.map V.str))) (nb : b ≠ hd) (hne : ss ≠ []) (hl : ss.length ≤ 1000) (q : ∀ (H' : Hp) (s : Str), Kp (fun b => b = hd) H H' → HandAt H' hd (n + 1) → s ∈ ss → Q (.str s) H') :
    sp_of ([.ref hd, .ref b] ++ []) H Q E := by
  refine ⟨hd, .ref b, n, rfl, ha, hn, .inl ⟨b, _, rfl, nb, hb, by simpa using hne, by simp; omega⟩, fun H3 v k3 ha3 sv => ?_⟩
  rcases sv with ⟨p', xs, e1, e2, e3⟩ | ⟨z, c, e, _⟩
  · cases e1
    rw [hb] at e2
    cases e2
    obtain ⟨s, hs, rfl⟩ := List.mem_map.mp e3
    exact q H3 s k3 ha3 hs
  · cases e
section
variable {P : Program} {w : World} {K : PySem.W.Frag} {mg : Str → Option Value} {base : Heap} {CM CH CV LP : Addr}
/-! ### _law_lot -/
def sp_lot : Sp := fun vs H Q _ => ∃ (hd a b : Addr) (ss pool : List Str) (n : Nat), vs = [.ref hd, .ref a, .ref b] ∧ HandAt H hd n ∧ n ≤ 100000 ∧ a ≠ hd ∧ b ≠ hd ∧ H a = some (.lst (ss.map V.str)) ∧ H b = some (.lst (pool.map V.str)) ∧
  ss.length ≤ 7 ∧ pool ≠ [] ∧ pool.length ≤ 7 ∧ (∀ s ∈ ss, okS s) ∧ (∀ s ∈ pool, okS s) ∧
  ∀ (H' : Hp) (p : Addr) (lot : List Place), Kp (fun b => b = hd) H H' → Im H' (.ref p) (dLot lot) → lot.length = ss.length → (∀ p ∈ lot, PlaceW p) → HandAt H' hd (n + 5 * ss.length) → Q (.ref p) H'
abbrev n__law_lot : List Str := ["_law_hand_here", "_law_names_here", "_law_pool", "_law_found", "_law_name", "_law_rank", "_law_steps", "_law_wants"]
theorem sc__law_lot : FnScope n__law_lot ["_law_hand_here", "_law_names_here", "_law_pool"] (C8.fnScope s__law_lot) := ⟨rfl, rfl, rfl, by decide +kernel, rfl, by decide +kernel, by decide +kernel⟩
theorem cal__law_lot (T : Txt K mg CM CH CV LP) (h : HasDef K mg "_law_lot" s__law_lot ["_law_hand_here", "_law_names_here", "_law_pool"]) (c__law_take : C8.Cal P w K mg base 1 "_law_take" sp_take []) (c__law_of : C8.Cal P w K mg base 2 "_law_of" sp_of []) : C8.Cal P w K mg base 3 "_law_lot" sp_lot [] := by
  refine mkCal h sc__law_lot (fun vs H Q E hh => ?_) (fun fa cdv Ar outer s H vs Q E hr hh => ?_)
  · obtain ⟨hd, a, b, ss, pool, n, rfl, _⟩ := hh
    rfl
  · obtain ⟨hd, a, b, ss, pool, n, rfl, ha, hn, na, nb, hss, hpl, l7, pne, p7, oks, okp, q⟩ := hh
    refine ⟨_, (pss_cons (ps_set (i := 3) sc__law_lot.nd rfl (loc_by rfl) (pe_lst pa_nil))
      (pss_cons (ps_for PassesOwn.never rfl (pi_list (pv 1)) (pg_name (i := 4) sc__law_lot.nd rfl (loc_by rfl)) (pss_cons (ps_par (i := 5) (j := 6) rfl sc__law_lot.nd rfl rfl (by decide) rfl rfl (pa_cons (C8.pe_c c__law_take hr (by decide) rfl (pa_cons (pv 0) (pa_cons pe_int pa_nil))) (pa_cons (C8.pe_c c__law_of hr (by decide) rfl (pa_cons (pv 0) (pa_cons (pe_lst (pa_cons pe_int (pa_cons pe_int (pa_cons pe_int (pa_cons pe_int (pa_cons pe_int pa_nil)))))) pa_nil))) pa_nil)) (by rfl))
      (pss_cons (ps_set (i := 7) sc__law_lot.nd rfl (loc_by rfl) (C8.pe_c c__law_of hr (by decide) rfl (pa_cons (pv 0) (pa_cons (pe_lst (pa_cons pe_int (pa_cons pe_int (pa_cons pe_int (pa_cons pe_int (pa_cons pe_int (pa_cons pe_int (pa_cons pe_int pa_nil)))))))) pa_nil))))
      (pss_one (ps_expr (pe_bm PySem.F.plainAttrs_list PySem.F.slot_list_append PySem.F.type_list_append mt_append (pv 3) (pa_cons (pe_tup (pa_cons (pv 4) (pa_cons (C8.pe_c c__law_of hr (by decide) rfl (pa_cons (pv 0) (pa_cons (pv 2) pa_nil))) (pa_cons (pv 5) (pa_cons (pv 6) (pa_cons (pv 7) (pa_cons (C8.pe_c c__law_of hr (by decide) rfl (pa_cons (pv 0) (pa_cons (pe_lst (pa_cons pe_int (pa_cons pe_int (pa_cons pe_int (pa_cons pe_int (pa_cons pe_int pa_nil)))))) pa_nil))) pa_nil))))))) pa_nil)))))))
      (pss_one (ps_ret (pe_callTy (call_tupK (K := K) rfl) (by rfl) T.m_tuple (by decide +kernel) (pa_cons (pv 3) pa_nil)))))), ?_⟩
    obtain ⟨hxs, hhd⟩ := ha.at_
    refine ⟨Nat.zero_le _, fun p hp => ?_⟩
    have nph : p ≠ hd := (ne_of_none hhd hp).symm
    have npa : a ≠ p := ne_of_none hss hp
    have npb : b ≠ p := ne_of_none hpl hp
    have k0 : K0 H (upd H p (.lst [])) := .new hp
    have hp0 : upd H p (.lst []) p = some (.lst []) := upd_same
    have ha0 := ha.keep k0 (fun z => z)
    have hss0 := k0.get0 hss
    have hpl0 := k0.get0 hpl
    show ∃ x : V, _
    generalize upd H p (.lst []) = H1 at k0 hp0 ha0 hss0 hpl0 ⊢
    refine ⟨_, rfl, a, rfl, ⟨_, .of hss0⟩, ?_⟩
    refine for_list (K := K) (xs := ss.map V.str) (fun i σ H2 => ∃ x4 x5 x6 x7 acc lot, σ = [some (.ref hd), some (.ref a), some (.ref b), some (.ref p), x4, x5, x6, x7] ∧ Kp (fun b => b = hd ∨ b = p) H1 H2 ∧ HandAt H2 hd (n + 5 * i) ∧
      H2 p = some (.lst acc) ∧ acc.length = i ∧ lot.length = i ∧ ImAll H2 acc (lot.map dPlace) ∧ ∀ p ∈ lot, PlaceW p) ⟨none, none, none, none, [], [], rfl, .refl _, ha0, hp0, rfl, rfl, .nil, fun s h => by simp at h⟩ ?_ ?_ ?_
    · rintro i σ H2 hi ⟨x4, x5, x6, x7, acc, lot, rfl, k, _⟩
      exact .of (k.get hss0 (by rintro (z | z); exact na z; exact npa z))
    · rintro i v σ H2 hv ⟨x4, x5, x6, x7, acc, lot, rfl, k, ha2, hp2, hal, hll, him, hok⟩
      obtain ⟨nm, hnm, rfl⟩ := map_getQ hv
      have hi : i < ss.length := (List.getElem?_eq_some_iff.mp hnm).1
      refine ⟨_, rfl, hd, 8, n + 5 * i, rfl, ha2, by omega, by omega, by omega, fun H3 rank k3 ha3 r0 r1 => ?_⟩
      refine ⟨_, rfl, of_lit (E := C8.E0) (ns := [0, 1, 2, 7, 7]) ha3 (by omega) (by decide) (by decide) fun H4 steps k4 ha4 hst => ?_⟩
      refine ⟨_, _, rfl, ?_⟩
      refine ⟨_, rfl, of_lit (E := C8.E0) (ns := [1, 1, 1, 2, 2, 0, 3]) ha4 (by omega) (by decide) (by decide) fun H5 many k5 ha5 hmy => ?_⟩
      have k25 := (k3.trans k4).trans k5
      have hp5 := k25.get hp2 nph
      have hpl5 : H5 b = some (.lst (pool.map V.str)) := (k.trans (k25.mono fun _ z => .inl z)).get hpl0 (by rintro (z | z); exact nb z; exact npb z)
      refine ⟨_, rfl, tyL hp5, _, rfl, _, rfl, _, rfl, of_pool (E := C8.E0) ha5 (by omega) hpl5 nb pne (by omega) fun H6 skill k6 ha6 hsk => ?_⟩
      refine ⟨_, rfl, _, rfl, _, rfl, _, rfl, of_lit (E := C8.E0) (ns := [0, 0, 0, 1, 2]) ha6 (by omega) (by decide) (by decide) fun H7 grade k7 ha7 hgr => ?_⟩
      refine ⟨by show 6 ≤ sizeLine; decide, fun pt hpt => ?_⟩
      have k27 := (k25.trans k6).trans k7
      have hp7 := k27.get hp2 nph
      have kt : K0 H7 (upd H7 pt (.tup [.str nm, .str skill, .int rank, .int steps, .int many, .int grade])) := .new hpt
      have hp8 := kt.get0 hp7
      refine ⟨p, acc, .ref pt, rfl, rfl, hp8, lt_line (by omega), ?_⟩
      have k9 : Kp (fun b => b = p) (upd H7 pt (.tup [.str nm, .str skill, .int rank, .int steps, .int many, .int grade])) (upd (upd H7 pt (.tup [.str nm, .str skill, .int rank, .int steps, .int many, .int grade])) p (.lst (acc ++ [.ref pt]))) := .set rfl hp8 (fun _ z => by cases z) (fun _ z => by cases z)
      have kall := k27.tk.trans (kt.tk.trans k9.tk)
      refine ⟨_, _, _, _, acc ++ [.ref pt], lot ++ [⟨nm, skill, rank, steps, many, grade⟩], rfl, ((k.trans (k27.mono fun _ z => .inl z)).trans kt.up).trans (k9.mono fun _ z => .inr z), ((ha7.keep kt (fun z => z)).keep k9 (fun z => nph z.symm)).mono (by omega), upd_same, by simp [hal], by simp [hll], ?_, ?_⟩
      · rw [List.map_append]
        exact (him.mono kall).append (.cons (im_place.mpr ⟨pt, rfl, k9.tk _ _ upd_same⟩) .nil)
      · intro pl hpl'
        rcases List.mem_append.mp hpl' with h | h
        · exact hok pl h
        · rw [List.mem_singleton] at h
          subst h
          have hmy' : 0 ≤ many ∧ many ≤ 4 := by
            simp only [List.mem_cons, List.not_mem_nil, or_false] at hmy
            omega
          have hgr' : 0 ≤ grade ∧ grade ≤ 2 := by
            simp only [List.mem_cons, List.not_mem_nil, or_false] at hgr
            omega
          exact ⟨⟨r0, by show rank ≤ 7; omega, hmy'.1, hmy'.2, hgr'.1, hgr'.2⟩, oks nm (List.mem_of_getElem? hnm), okp skill hsk⟩
    · rintro σ H2 ⟨x4, x5, x6, x7, acc, lot, rfl, k, ha2, hp2, hal, hll, him, hok⟩
      rw [List.length_map] at ha2 hll
      refine ⟨_, rfl, p, acc, rfl, .inl ⟨.of hp2, fun l hl => ?_⟩⟩
      have kl : K0 H2 (upd H2 l (.tup acc)) := .new hl
      refine q _ l lot (((k0.up.trans k).trans kl.up).drop fun b o e z => ?_) (.tup upd_same (him.mono (tk_new hl))) hll hok (ha2.keep kl (fun z => z))
      rcases z with rfl | rfl
      · rfl
      · rw [hp] at e; cases e
/-! ### _law_roll -/
def sp_roll : Sp := fun vs H Q _ => ∃ (hd b : Addr) (m k n : Nat) (pool : List Str), vs = [.ref hd, .int (m : Nat), .ref b, .int (k : Nat)] ∧ HandAt H hd n ∧ n ≤ 10000 ∧ m ≤ 7 ∧ 1 ≤ k ∧ k ≤ 6 ∧ b ≠ hd ∧ H b = some (.lst (pool.map V.str)) ∧ pool.length ≤ 7 ∧ (∀ s ∈ pool, okS s) ∧
  ∀ (H' : Hp) (p : Addr) (roll : List Hand), Kp (fun b => b = hd) H H' → Im H' (.ref p) (dHands roll) → roll.length = m → (roll.map (·.name)).Nodup → sortedS (roll.map (·.name)) = true → (∀ h ∈ roll, HandW h) → HandAt H' hd (n + 16 * m) → Q (.ref p) H'
abbrev n__law_roll : List Str := ["_law_hand_here", "_law_many", "_law_pool", "_law_sections", "_law_found", "_law_name", "_law_rank", "_law_section", "_law_some", "_law_skill"]
theorem sc__law_roll : FnScope n__law_roll ["_law_hand_here", "_law_many", "_law_pool", "_law_sections"] (C8.fnScope s__law_roll) := ⟨rfl, rfl, rfl, by decide +kernel, rfl, by decide +kernel, by decide +kernel⟩
theorem cutV_strs (ss : List Str) (lo hi : Option Int) : ∃ ts : List Str, cutV (ss.map V.str) lo hi = ts.map V.str ∧ ∀ t ∈ ts, t ∈ ss := by
  unfold cutV
  rw [← List.map_drop, ← List.map_take]
  exact ⟨_, rfl, fun t ht => List.mem_of_mem_drop (List.mem_of_mem_take ht)⟩
theorem cal__law_roll (T : Txt K mg CM CH CV LP) (h : HasDef K mg "_law_roll" s__law_roll ["_law_hand_here", "_law_many", "_law_pool", "_law_sections"]) (c__law_take : C8.Cal P w K mg base 1 "_law_take" sp_take []) (c__law_names : C8.Cal P w K mg base 3 "_law_names" sp_names []) : C8.Cal P w K mg base 4 "_law_roll" sp_roll [] := by
  refine mkCal h sc__law_roll (fun vs H Q E hh => ?_) (fun fa cdv Ar outer s H vs Q E hr hh => ?_)
  · obtain ⟨hd, b, m, k, n, pool, rfl, _⟩ := hh
    rfl
  · obtain ⟨hd, b, m, kk, n, pool, rfl, ha, hn, hm, hk1, hk6, nb, hpl, p7, okp, q⟩ := hh
    refine ⟨_, (pss_cons (ps_set (i := 4) sc__law_roll.nd rfl (loc_by rfl) (pe_lst pa_nil))
      (pss_cons (ps_for PassesOwn.never rfl (pi_list (pe_callB cr_sortedS (by rfl) T.m_sorted (by decide +kernel) (pa_cons (C8.pe_c c__law_names hr (by decide) rfl (pa_cons (pv 0) (pa_cons (pv 1) pa_nil))) pa_nil))) (pg_name (i := 5) sc__law_roll.nd rfl (loc_by rfl)) (pss_cons (ps_par (i := 6) (j := 7) rfl sc__law_roll.nd rfl rfl (by decide) rfl rfl (pa_cons (C8.pe_c c__law_take hr (by decide) rfl (pa_cons (pv 0) (pa_cons pe_int pa_nil))) (pa_cons (C8.pe_c c__law_take hr (by decide) rfl (pa_cons (pv 0) (pa_cons (pv 3) pa_nil))) pa_nil)) (by rfl))
      (pss_cons (ps_set (i := 8) sc__law_roll.nd rfl (loc_by rfl) (pe_callB cr_sortedS (by rfl) T.m_sorted (by decide +kernel) (pa_cons (pe_lc (own := [("_law_skill", 9)]) (g := (gName 9)) (tt := _) rfl sc__law_roll.nd (pi_list (pv 2)) (blkOk_by (own := [("_law_skill", 9)]) (N := n__law_roll) (sc := C8.fnScope s__law_roll) (by decide +kernel)) (fun _ _ _ _ _ => (pg_name (i := 9) sc__law_roll.nd rfl (loc_by rfl))) (fun _ _ _ _ _ => (pts_one (pt_cmpR op_gt (C8.pe_c c__law_take hr (by decide) rfl (pa_cons (pv 0) (pa_cons pe_int pa_nil))) pe_int (nomark _)))) (fun _ _ _ _ _ => (pv 9))) pa_nil)))
      (pss_one (ps_expr (pe_bm PySem.F.plainAttrs_list PySem.F.slot_list_append PySem.F.type_list_append mt_append (pv 4) (pa_cons (pe_tup (pa_cons (pv 5) (pa_cons (pv 6) (pa_cons (pe_callTy (call_tupK (K := K) rfl) (by rfl) T.m_tuple (by decide +kernel) (pa_cons (pe_slice (sl_listK (K := K) rfl) (pv 8) po_none (po_some pe_int)) pa_nil)) (pa_cons (pv 7) pa_nil))))) pa_nil)))))))
      (pss_one (ps_ret (pe_callTy (call_tupK (K := K) rfl) (by rfl) T.m_tuple (by decide +kernel) (pa_cons (pv 4) pa_nil)))))), ?_⟩
    obtain ⟨hxs, hhd⟩ := ha.at_
    refine ⟨Nat.zero_le _, fun p hp => ?_⟩
    have nph : p ≠ hd := (ne_of_none hhd hp).symm
    have npb : b ≠ p := ne_of_none hpl hp
    have k0 : K0 H (upd H p (.lst [])) := .new hp
    have hp0 : upd H p (.lst []) p = some (.lst []) := upd_same
    have ha0 := ha.keep k0 (fun z => z)
    have hpl0 := k0.get0 hpl
    show ∃ x : V, _
    generalize upd H p (.lst []) = H1 at k0 hp0 ha0 hpl0 ⊢
    refine ⟨_, rfl, _, rfl, hd, m, n, rfl, ha0, by omega, hm, fun H2 pn ss k2 hpn hpn2 hsl hnd hok ha2 => ?_⟩
    refine ⟨pn, ss, rfl, .of hpn2, by omega, fun ys py hy1 hy2 hpy => ?_⟩
    have k3' : K0 H2 (upd H2 py (.lst (ys.map V.str))) := .new hpy
    have hpy3 : upd H2 py (.lst (ys.map V.str)) py = some (.lst (ys.map V.str)) := upd_same
    have ha3 := ha2.keep k3' (fun z => z)
    have k13 := k2.trans k3'.up
    generalize upd H2 py (.lst (ys.map V.str)) = H3 at k3' hpy3 ha3 k13 ⊢
    have npyh : py ≠ hd := by
      obtain ⟨xs, hh⟩ := ha2.at_
      exact (ne_of_none hh hpy).symm
    have npyp : py ≠ p := (ne_of_none (k2.get hp0 nph) hpy).symm
    have hp3 := k13.get hp0 nph
    have hpl3 := k13.get hpl0 nb
    have hyl : ys.length = m := by rw [hy1.length_eq, hsl]
    refine ⟨py, rfl, ⟨_, .of hpy3⟩, ?_⟩
    refine for_list (K := K) (xs := ys.map V.str) (fun i σ H4 => ∃ x5 x6 x7 x8 x9 acc roll, σ = [some (.ref hd), some (.int (m : Nat)), some (.ref b), some (.int (kk : Nat)), some (.ref p), x5, x6, x7, x8, x9] ∧ Kp (fun b => b = hd ∨ b = p) H3 H4 ∧ HandAt H4 hd (n + 7 * m + 9 * i) ∧
      H4 p = some (.lst acc) ∧ acc.length = i ∧ roll.map (·.name) = ys.take i ∧ ImAll H4 acc (roll.map dHand) ∧ ∀ h ∈ roll, HandW h) ⟨none, none, none, none, none, [], [], rfl, .refl _, ha3, hp3, rfl, by simp, .nil, fun s h => by simp at h⟩ ?_ ?_ ?_
    · rintro i σ H4 hi ⟨x5, x6, x7, x8, x9, acc, roll, rfl, k, _⟩
      exact .of (k.get hpy3 (by rintro (z | z); exact npyh z; exact npyp z))
    · rintro i v σ H4 hv ⟨x5, x6, x7, x8, x9, acc, roll, rfl, k, ha4, hp4, hal, hrl, him, hokr⟩
      obtain ⟨nm, hnm, rfl⟩ := map_getQ hv
      have hi : i < ys.length := (List.getElem?_eq_some_iff.mp hnm).1
      refine ⟨_, rfl, hd, 8, n + 7 * m + 9 * i, rfl, ha4, by omega, by omega, by omega, fun H5 rank k5 ha5 r0 r1 => ?_⟩
      refine ⟨_, rfl, _, rfl, hd, (kk : Nat), n + 7 * m + 9 * i + 1, rfl, ha5, by omega, by omega, by omega, fun H6 sec k6 ha6 s0 s1 => ?_⟩
      refine ⟨_, _, rfl, ?_⟩
      have k46 := k5.trans k6
      have hp6 := k46.get hp4 nph
      have hpl6 : H6 b = some (.lst (pool.map V.str)) := (k.trans (k46.mono fun _ z => .inl z)).get hpl3 (by rintro (z | z); exact nb z; exact npb z)
      refine ⟨_, rfl, b, rfl, ⟨_, .of hpl6⟩, fun D hD => ?_⟩
      obtain ⟨hxs6, hhd6⟩ := ha6.at_
      have nDh : D ≠ hd := (ne_of_none hhd6 hD).symm
      have nDb : b ≠ D := ne_of_none hpl6 hD
      refine lc_it (n := (pool.map V.str).length) (walk_list (K := K)) (fun j H7 => j ≤ pool.length ∧ Kp (fun b => b = hd) H6 H7 ∧ HandAt H7 hd (n + 7 * m + 9 * i + 2 + j) ∧ ∃ ks : List Str, H7 D = some (.lst (ks.map V.str)) ∧ ks.length ≤ j ∧ ∀ s ∈ ks, s ∈ pool)
        ⟨Nat.zero_le _, .new hD, ha6.keep (Kp.new hD (S := fun _ => False)) (fun z => z), [], upd_same, Nat.le_refl _, fun s h => by simp at h⟩ (fun j H7 _ h => SqL.of (h.2.1.get hpl6 nb)) ?_ ?_
      · rintro j z H7 H8 hj ⟨_, k7, ha7, ks, hD7, hkl, hks⟩ ⟨rfl, hz⟩
        obtain ⟨sk, hsk, rfl⟩ := map_getQ hz
        rw [List.length_map] at hj
        refine ⟨rfl, ?_⟩
        refine ⟨_, rfl, hd, 4, _, rfl, ha7, by omega, by omega, by omega, fun H9 r k9 ha9 r0 r1 => ?_⟩
        have hD9 := k9.get hD7 nDh
        refine ⟨_, _, rfl, rfl, _, rfl, ?_⟩
        by_cases hr0 : 0 < r
        · refine if_true_of (decide_eq_true hr0) ?_
          refine ⟨_, rfl, ks.map V.str, hD9, lt_line (by simp; omega), by omega, (k7.trans k9).mut hD, HandAt.keep ha9 (Kp.set (S := fun b => b = D) rfl hD9 (fun _ z => by cases z) (fun _ z => by cases z)) (fun z => nDh z.symm), ks ++ [sk], by rw [upd_same]; simp, by simp; omega, fun s hs => ?_⟩
          rcases List.mem_append.mp hs with h | h
          · exact hks s h
          · rw [List.mem_singleton] at h
            rw [h]; exact List.mem_of_getElem? hsk
        · refine if_false_of (decide_eq_false hr0) ?_
          exact ⟨by omega, k7.trans k9, ha9, ks, hD9, by omega, hks⟩
      rintro H7 ⟨_, k7, ha7, ks, hD7, hkl, hks⟩
      rw [List.length_map] at ha7 hkl
      refine ⟨D, ks, rfl, .of hD7, by omega, fun zs pz hz1 hz2 hpz => ?_⟩
      have k8 : K0 H7 (upd H7 pz (.lst (zs.map V.str))) := .new hpz
      have hpz8 : upd H7 pz (.lst (zs.map V.str)) pz = some (.lst (zs.map V.str)) := upd_same
      have ha8 := ha7.keep k8 (fun z => z)
      have hp8 := k8.get0 (k7.get hp6 nph)
      have k48 := (k46.trans k7).trans k8.up
      generalize upd H7 pz (.lst (zs.map V.str)) = H8 at k8 hpz8 ha8 hp8 k48 ⊢
      obtain ⟨ts, ets, hts⟩ := cutV_strs zs none (some 4)
      refine ⟨_, rfl, tyL hp8, _, rfl, _, rfl, _, rfl, _, rfl, pz, _, rfl, .of hpz8, fun pc hpc => ?_⟩
      rw [ets]
      refine ⟨pc, _, rfl, .inl ⟨.of upd_same, fun pt hpt => ?_⟩⟩
      refine ⟨_, rfl, by show 4 ≤ sizeLine; decide, fun ph hph => ?_⟩
      have k9 : K0 H8 (upd (upd (upd H8 pc (.lst (ts.map V.str))) pt (.tup (ts.map V.str))) ph (.tup [.str nm, .int rank, .ref pt, .int sec])) := ((Kp.new hpc).then_new hpt).then_new hph
      have hpt9 : upd (upd (upd H8 pc (.lst (ts.map V.str))) pt (.tup (ts.map V.str))) ph (.tup [.str nm, .int rank, .ref pt, .int sec]) pt = some (.tup (ts.map V.str)) := by rw [upd_ne (ne_of_none upd_same hph), upd_same]
      have hph9 : upd (upd (upd H8 pc (.lst (ts.map V.str))) pt (.tup (ts.map V.str))) ph (.tup [.str nm, .int rank, .ref pt, .int sec]) ph = some (.tup [.str nm, .int rank, .ref pt, .int sec]) := upd_same
      generalize upd (upd (upd H8 pc (.lst (ts.map V.str))) pt (.tup (ts.map V.str))) ph (.tup [.str nm, .int rank, .ref pt, .int sec]) = H9 at k9 hpt9 hph9 ⊢
      have hp9 := k9.get0 hp8
      refine ⟨p, acc, .ref ph, rfl, rfl, hp9, lt_line (by omega), ?_⟩
      have kx : Kp (fun b => b = p) H9 (upd H9 p (.lst (acc ++ [.ref ph]))) := .set rfl hp9 (fun _ z => by cases z) (fun _ z => by cases z)
      have kall := k48.tk.trans (k9.tk.trans kx.tk)
      refine ⟨_, _, _, _, _, acc ++ [.ref ph], roll ++ [⟨nm, rank, ts, sec⟩], rfl, ((k.trans (k48.mono fun _ z => .inl z)).trans k9.up).trans (kx.mono fun _ z => .inr z), ((ha8.keep k9 (fun z => z)).keep kx (fun z => nph z.symm)).mono (by omega), upd_same, by simp [hal], ?_, ?_, ?_⟩
      · rw [List.map_append, hrl, List.take_succ, hnm]; rfl
      · rw [List.map_append]
        exact (him.mono kall).append (.cons (im_hand.mpr ⟨ph, pt, rfl, kx.tk _ _ hph9, kx.tk _ _ hpt9⟩) .nil)
      · intro h0 hh
        rcases List.mem_append.mp hh with hh | hh
        · exact hokr h0 hh
        · rw [List.mem_singleton] at hh
          subst hh
          exact ⟨⟨r0, by show rank ≤ 7; omega⟩, hok nm (hy1.mem_iff.mp (List.mem_of_getElem? hnm)), fun s hs => okp s (hks s (hz1.mem_iff.mp (hts s hs)))⟩
    · rintro σ H4 ⟨x5, x6, x7, x8, x9, acc, roll, rfl, k, ha4, hp4, hal, hrl, him, hokr⟩
      rw [List.length_map] at ha4 hrl
      rw [List.take_length] at hrl
      have hrm : roll.length = m := by
        have := congrArg List.length hrl
        simpa [hyl] using this
      refine ⟨_, rfl, p, acc, rfl, .inl ⟨.of hp4, fun l hl => ?_⟩⟩
      have kl : K0 H4 (upd H4 l (.tup acc)) := .new hl
      refine q _ l roll ((((k0.up.trans (k13.mono fun _ z => .inl z)).trans k).trans kl.up).drop fun b o e z => ?_) (.tup upd_same (him.mono (tk_new hl))) hrm (by rw [hrl]; exact hy1.nodup_iff.mpr hnd) (by rw [hrl]; exact hy2) hokr ((ha4.keep kl (fun z => z)).mono (by omega))
      rcases z with rfl | rfl
      · rfl
      · rw [hp] at e; cases e
end
end WS
set_option Elab.async false
set_option linter.all false
set_option maxRecDepth 100000
set_option maxHeartbeats 2000000
namespace WS
open PySem PySem.Spec PyProof.Rows L2
/-! ### every order of a range is a turn -/
def insAll (x : Nat) : List Nat → List (List Nat)
  | [] => [[x]]
  | y :: l => (x :: y :: l) :: (insAll x l).map (y :: ·)
def perms : List Nat → List (List Nat)
  | [] => [[]]
  | x :: l => (perms l).flatMap (insAll x)
theorem mem_insAll (x : Nat) : ∀ (a b : List Nat), a ++ x :: b ∈ insAll x (a ++ b)
  | [], [] => by simp [insAll]
  | [], y :: b => by simp [insAll]
  | y :: a, b => by
    show y :: (a ++ x :: b) ∈ (x :: y :: (a ++ b)) :: (insAll x (a ++ b)).map (y :: ·)
    exact List.mem_cons_of_mem _ (List.mem_map.mpr ⟨_, mem_insAll x a b, rfl⟩)
theorem mem_perms : ∀ {l t : List Nat}, t.Perm l → t ∈ perms l
  | [], t, h => by rw [List.perm_nil.mp h]; simp [perms]
  | x :: l, t, h => by
    obtain ⟨a, b, rfl⟩ := List.append_of_mem (h.mem_iff.mpr (List.mem_cons_self ..) : x ∈ t)
    have h2 : (a ++ b).Perm l := (List.perm_middle.symm.trans h).cons_inv
    rw [perms, List.mem_flatMap]
    exact ⟨a ++ b, mem_perms h2, mem_insAll x a b⟩
def turnB (t : List Nat) : Bool :=
  decide (1 ≤ t.length) && (decide (t.length ≤ 6) && (t.all (fun x => decide (x < t.length)) && ((List.range t.length).all (fun i => cycEnd t i 6 i) && ((cycs t).all (fun c => decide (1 ≤ c.length) && decide (c.length ≤ 7)) && (decide (0 < roundOf t) && (decide (roundOf t ≤ 1000) &&
    (decide (ordIt t (roundOf t) = List.range t.length) && (List.range (roundOf t)).all (fun j => decide (j = 0) || !decide (ordIt t j = List.range t.length)))))))))
theorem turn_of {t : List Nat} (h : turnB t = true) : TurnOk t := by
  unfold turnB at h
  simp only [Bool.and_eq_true, decide_eq_true_eq, List.all_eq_true, Bool.or_eq_true, Bool.not_eq_true', decide_eq_false_iff_not, List.mem_range] at h
  obtain ⟨h1, h2, h3, h4, h5, h6, h7, h8, h9⟩ := h
  refine ⟨h1, h2, h3, h4, h5, h6, h7, h8, fun j j0 j1 e => ?_⟩
  rcases h9 j j1 with z | z
  · omega
  · exact z e
theorem turns_all : ∀ k ∈ [1, 2, 3, 4, 5, 6], (perms (List.range k)).all turnB = true := by decide +kernel
theorem turn_ok {k : Nat} {t : List Nat} (h1 : 1 ≤ k) (h6 : k ≤ 6) (p : t.Perm (List.range k)) : TurnOk t := by
  refine turn_of ?_
  have := turns_all k (by
    have : k = 1 ∨ k = 2 ∨ k = 3 ∨ k = 4 ∨ k = 5 ∨ k = 6 := by omega
    rcases this with h | h | h | h | h | h <;> subst h <;> simp)
  exact List.all_eq_true.mp this t (mem_perms p)
end WS
set_option Elab.async false
set_option linter.all false
set_option maxRecDepth 100000
set_option maxHeartbeats 4000000
namespace WS
open PySem PySem.Spec PyProof.Rows L2 LamX
def gS : V → Str
  | .str s => s
  | _ => Str.empty
def gN : V → Nat
  | .int i => i.toNat
  | _ => 0
theorem perm_map {α : Type} {f : α → V} {g : V → α} {ys : List V} {l : List α} (hg : ∀ a, g (f a) = a) (h : ys.Perm (l.map f)) : ys = (ys.map g).map f ∧ (ys.map g).Perm l := by
  constructor
  · rw [List.map_map]
    have : ∀ y ∈ ys, (f ∘ g) y = y := fun y hy => by
      obtain ⟨a, _, rfl⟩ := List.mem_map.mp (h.mem_iff.mp hy)
      show f (g (f a)) = f a
      rw [hg]
    conv => lhs; rw [← List.map_id ys]
    exact List.map_congr_left fun y hy => (this y hy).symm
  · have := h.map g
    rw [List.map_map] at this
    have e : l.map (g ∘ f) = l := by
      conv => rhs; rw [← List.map_id l]
      exact List.map_congr_left fun a _ => hg a
    rwa [e] at this
theorem ints_of {Pd : Int → Prop} : ∀ {vs : List V}, (∀ v ∈ vs, ∃ d : Int, v = .int d ∧ Pd d) → ∃ ds : List Int, vs = ds.map V.int ∧ ∀ d ∈ ds, Pd d
  | [], _ => ⟨[], rfl, fun _ h => by simp at h⟩
  | v :: vs, h => by
    obtain ⟨c, rfl, hc⟩ := h v (List.mem_cons_self ..)
    obtain ⟨cs, rfl, hcs⟩ := ints_of fun x hx => h x (List.mem_cons_of_mem _ hx)
    exact ⟨c :: cs, rfl, fun d hd => by
      rcases List.mem_cons.mp hd with rfl | hd
      · exact hc
      · exact hcs d hd⟩
theorem sum_bounds {D : Int} : ∀ {ds : List Int}, (∀ d ∈ ds, 1 ≤ d ∧ d ≤ D) → (ds.length : Int) ≤ ds.sum ∧ ds.sum ≤ ds.length * D
  | [], _ => by simp
  | d :: ds, h => by
    have h1 := h d (List.mem_cons_self ..)
    obtain ⟨h2, h3⟩ := sum_bounds (ds := ds) fun x hx => h x (List.mem_cons_of_mem _ hx)
    rw [List.sum_cons, List.length_cons]
    have e : ((ds.length + 1 : Nat) : Int) * D = (ds.length : Int) * D + D := by rw [Int.natCast_add, Int.add_mul]; simp
    rw [e]
    omega
structure ShipW (S : Ship) : Prop where
  ok : ShipOk S
  r : ∀ h ∈ S.roll, HandW h
  b : ∀ l ∈ S.bills, ∀ p ∈ l, PlaceW p
section
variable {P : Program} {w : World} {K : PySem.W.Frag} {mg : Str → Option Value} {base : Heap} {CM CH CV LP : Addr}
def sp_ship : Sp := fun vs H Q _ => ∃ (hd : Addr) (f n : Nat), vs = [.ref hd, .int (f : Nat)] ∧ f ≤ 1 ∧ HandAt H hd n ∧ n ≤ 1000 ∧
  ∀ (H' : Hp) (p : Addr) (S : Ship), Kp (fun b => b = hd) H H' → Im H' (.ref p) (dShip S) → ShipW S → HandAt H' hd (n + 1000) → Q (.ref p) H'
abbrev n__law_ship : List Str := ["_law_hand_here", "_law_far", "_law_watches", "_law_day", "_law_watch", "_law_turn", "_law_pool", "_law_names_here", "_law_roll_here", "_law_bills"]
theorem sc__law_ship : FnScope n__law_ship ["_law_hand_here", "_law_far"] (C8.fnScope s__law_ship) := ⟨rfl, rfl, rfl, by decide +kernel, rfl, by decide +kernel, by decide +kernel⟩
theorem pick2 {a b : V} {f : Nat} (h : f ≤ 1) : atI [a, b] (f : Int) = some (if f = 0 then a else b) := by
  have : f = 0 ∨ f = 1 := by omega
  rcases this with rfl | rfl
  · exact atI_nat (j := 0) rfl
  · exact atI_nat (j := 1) rfl
theorem cal__law_ship (T : Txt K mg CM CH CV LP) (h : HasDef K mg "_law_ship" s__law_ship ["_law_hand_here", "_law_far"]) (c__law_take : C8.Cal P w K mg base 1 "_law_take" sp_take []) (c__law_order : C8.Cal P w K mg base 2 "_law_order" sp_order []) (c__law_names : C8.Cal P w K mg base 3 "_law_names" sp_names [])
    (c__law_lot : C8.Cal P w K mg base 3 "_law_lot" sp_lot []) (c__law_roll : C8.Cal P w K mg base 4 "_law_roll" sp_roll []) : C8.Cal P w K mg base 5 "_law_ship" sp_ship [] := by
  refine mkCal h sc__law_ship (fun vs H Q E hh => ?_) (fun fa cdv Ar outer s H vs Q E hr hh => ?_)
  · obtain ⟨hd, f, n, rfl, _⟩ := hh
    rfl
  · obtain ⟨hd, f, n, rfl, hf, ha, hn, q⟩ := hh
    refine ⟨_, (pss_cons (ps_set (i := 2) sc__law_ship.nd rfl (loc_by rfl) (pe_ix (ix_listK (K := K) rfl) (pe_lst (pa_cons (pe_op op_add pe_int (C8.pe_c c__law_take hr (by decide) rfl (pa_cons (pv 0) (pa_cons pe_int pa_nil)))) (pa_cons (pe_op op_add pe_int (C8.pe_c c__law_take hr (by decide) rfl (pa_cons (pv 0) (pa_cons pe_int pa_nil)))) pa_nil))) (pv 1) (fun _ _ => rfl)))
      (pss_cons (ps_set (i := 3) sc__law_ship.nd rfl (loc_by rfl) (pe_callTy (call_tupK (K := K) rfl) (by rfl) T.m_tuple (by decide +kernel) (pa_cons (pe_lc (own := [("_law_watch", 4)]) (g := (gName 4)) (tt := tYes) rfl sc__law_ship.nd (pi_range1 rfl T.m_range (pa_cons (pv 2) pa_nil)) (blkOk_by (own := [("_law_watch", 4)]) (N := n__law_ship) (sc := C8.fnScope s__law_ship) (by decide +kernel)) (fun _ _ _ _ _ => (pg_name (i := 4) sc__law_ship.nd rfl (loc_by rfl))) (fun _ _ _ _ _ => pts_nil) (fun _ _ _ _ _ => (pe_ix (ix_listK (K := K) rfl) (pe_lst (pa_cons (pe_op op_add pe_int (C8.pe_c c__law_take hr (by decide) rfl (pa_cons (pv 0) (pa_cons pe_int pa_nil)))) (pa_cons (pe_op op_add pe_int (pe_op op_mod (C8.pe_c c__law_take hr (by decide) rfl (pa_cons (pv 0) (pa_cons (pe_op op_fdiv pe_int (pv 2)) pa_nil))) pe_int)) pa_nil))) (pv 1) (fun _ _ => rfl)))) pa_nil)))
      (pss_cons (ps_set (i := 5) sc__law_ship.nd rfl (loc_by rfl) (pe_callTy (call_tupK (K := K) rfl) (by rfl) T.m_tuple (by decide +kernel) (pa_cons (C8.pe_c c__law_order hr (by decide) rfl (pa_cons (pv 0) (pa_cons (pe_listRg rfl rfl T.m_list (prg_1 rfl T.m_range (pe_op op_add pe_int (C8.pe_c c__law_take hr (by decide) rfl (pa_cons (pv 0) (pa_cons (pe_ix (ix_listK (K := K) rfl) (pe_lst (pa_cons pe_int (pa_cons pe_int pa_nil))) (pv 1) (fun _ _ => rfl)) pa_nil)))))) pa_nil))) pa_nil)))
      (pss_cons (ps_par (i := 6) (j := 7) rfl sc__law_ship.nd rfl rfl (by decide) rfl rfl (pa_cons (C8.pe_c c__law_names hr (by decide) rfl (pa_cons (pv 0) (pa_cons (pe_op op_add pe_int (C8.pe_c c__law_take hr (by decide) rfl (pa_cons (pv 0) (pa_cons pe_int pa_nil)))) pa_nil))) (pa_cons (C8.pe_c c__law_names hr (by decide) rfl (pa_cons (pv 0) (pa_cons pe_int pa_nil))) pa_nil)) (by rfl))
      (pss_cons (ps_set (i := 8) sc__law_ship.nd rfl (loc_by rfl) (C8.pe_c c__law_roll hr (by decide) rfl (pa_cons (pv 0) (pa_cons (C8.pe_c c__law_take hr (by decide) rfl (pa_cons (pv 0) (pa_cons (pe_ix (ix_listK (K := K) rfl) (pe_lst (pa_cons pe_int (pa_cons pe_int pa_nil))) (pv 1) (fun _ _ => rfl)) pa_nil))) (pa_cons (pv 6) (pa_cons (pe_callB (call_lenK (K := K) rfl) (by rfl) T.m_len (by decide +kernel) (pa_cons (pv 5) pa_nil)) pa_nil))))))
      (pss_cons (ps_set (i := 9) sc__law_ship.nd rfl (loc_by rfl) (pe_lst pa_nil))
      (pss_cons (ps_for PassesOwn.never rfl (pi_tup (pv 3)) (pg_name (i := 4) sc__law_ship.nd rfl (loc_by rfl)) (pss_one (ps_expr (pe_bm PySem.F.plainAttrs_list PySem.F.slot_list_append PySem.F.type_list_append mt_append (pv 9) (pa_cons (C8.pe_c c__law_lot hr (by decide) rfl (pa_cons (pv 0) (pa_cons (pe_slice (sl_listK (K := K) rfl) (C8.pe_c c__law_order hr (by decide) rfl (pa_cons (pv 0) (pa_cons (pv 7) pa_nil))) po_none (po_some (C8.pe_c c__law_take hr (by decide) rfl (pa_cons (pv 0) (pa_cons pe_int pa_nil))))) (pa_cons (pv 6) pa_nil)))) pa_nil)))))
      (pss_one (ps_ret (pe_tup (pa_cons (pv 3) (pa_cons (pv 5) (pa_cons (pv 8) (pa_cons (pe_callTy (call_tupK (K := K) rfl) (by rfl) T.m_tuple (by decide +kernel) (pa_cons (pv 9) pa_nil)) (pa_cons (pe_tup (pa_cons (pe_tup (pa_cons pe_str (pa_cons pe_int (pa_cons (C8.pe_c c__law_lot hr (by decide) rfl (pa_cons (pv 0) (pa_cons (pe_slice (sl_listK (K := K) rfl) (pv 7) po_none (po_some pe_int)) (pa_cons (pv 6) pa_nil)))) pa_nil)))) pa_nil)) pa_nil))))))))))))))), ?_⟩
    -- watches
    refine ⟨_, rfl, hd, 3, n, rfl, ha, by omega, by omega, by omega, fun H1 r1 k1 ha1 r10 r11 => ?_⟩
    refine ⟨_, _, rfl, rfl, _, rfl, hd, 6, n + 1, rfl, ha1, by omega, by omega, by omega, fun H2 r2 k2 ha2 r20 r21 => ?_⟩
    refine ⟨_, _, rfl, rfl, by show 2 ≤ sizeLine; decide, fun L1 hL1 => ?_⟩
    have k3' : K0 H2 (upd H2 L1 (.lst [.int (1 + r1), .int (3 + r2)])) := .new hL1
    refine ⟨_, rfl, L1, _, _, _, rfl, rfl, .of upd_same, pick2 hf, ?_⟩
    have ha3 := ha2.keep k3' (fun z => z)
    have k3 : Kp (fun b => b = hd) H (upd H2 L1 (.lst [.int (1 + r1), .int (3 + r2)])) := (k1.trans k2).trans k3'.up
    show tSeq _ _ _ _ (upd H2 L1 (.lst [.int (1 + r1), .int (3 + r2)]))
    obtain ⟨wn, hw, hw1, hw8, hw0⟩ : ∃ wn : Nat, (if f = 0 then V.int (1 + r1) else V.int (3 + r2)) = .int (wn : Nat) ∧ 1 ≤ wn ∧ wn ≤ 8 ∧ (f = 0 → wn ≤ 3) := by
      by_cases h0 : f = 0
      · refine ⟨(1 + r1).toNat, ?_, by omega, by omega, fun _ => by omega⟩
        rw [if_pos h0, Int.toNat_of_nonneg (by omega)]
      · refine ⟨(3 + r2).toNat, ?_, by omega, by omega, fun z => absurd z h0⟩
        rw [if_neg h0, Int.toNat_of_nonneg (by omega)]
    rw [hw]
    generalize upd H2 L1 (.lst [.int (1 + r1), .int (3 + r2)]) = H3 at k3 ha3 ⊢
    obtain ⟨hxs3, hhd3⟩ := ha3.at_
    have hdiv : 3 ≤ (30 : Int) / (wn : Nat) ∧ (30 : Int) / (wn : Nat) ≤ 30 ∧ ((wn : Nat) : Int) * ((30 : Int) / (wn : Nat)) ≤ 30 := by
      have : wn = 1 ∨ wn = 2 ∨ wn = 3 ∨ wn = 4 ∨ wn = 5 ∨ wn = 6 ∨ wn = 7 ∨ wn = 8 := by omega
      rcases this with h | h | h | h | h | h | h | h <;> subst h <;> decide
    obtain ⟨hdv1, hdv2, hdv3⟩ := hdiv
    -- day
    refine ⟨_, rfl, _, rfl, by omega, by omega, fun D hD => ?_⟩
    rw [Int.toNat_natCast]
    have nDh : D ≠ hd := (ne_of_none hhd3 hD).symm
    refine lc_gen (n := wn) (walk_range (lo := 0)) (fun b => b = hd) (fun j H => HandAt H hd (n + 2 + 2 * j)) (fun _ _ v => ∃ d : Int, v = .int d ∧ (1 ≤ d ∧ d ≤ (if f = 0 then 2 else (30 : Int) / (wn : Nat)))) (fun _ => true) hD nDh (by omega) (ha3.keep (Kp.new hD (S := fun _ => False)) (fun z => z)) (fun j H acc acc' h hDa => HandAt.keep h (Kp.set (S := fun b => b = D) rfl hDa (fun _ z => by cases z) (fun _ z => by cases z)) (fun z => nDh z.symm)) (fun _ _ _ _ h _ => h) (fun _ _ _ _ _ => trivial) ?_ ?_
    · rintro j x H4 H5 hj k4 ha4 ⟨rfl, hx⟩ Post Skip hP hS
      refine ⟨rfl, ?_⟩
      refine ⟨_, rfl, hd, 2, _, rfl, ha4, by omega, by omega, by omega, fun H6 a k6 ha6 a0 a1 => ?_⟩
      refine ⟨_, _, rfl, rfl, _, rfl, _, rfl, _, _, rfl, rfl, ⟨by omega, by omega⟩, hd, (30 : Int) / (wn : Nat), _, rfl, ha6, by omega, by omega, by omega, fun H7 b k7 ha7 b0 b1 => ?_⟩
      refine ⟨_, _, rfl, rfl, (by show (0 : Int) < 8; decide), _, _, rfl, rfl, by show 2 ≤ sizeLine; decide, fun L2 hL2 => ?_⟩
      have k8 : K0 H7 (upd H7 L2 (.lst [.int (1 + a), .int (1 + b % 8)])) := .new hL2
      refine ⟨_, rfl, L2, _, _, _, rfl, rfl, .of upd_same, pick2 hf, ?_⟩
      refine hP rfl _ _ ((k6.trans k7).trans k8.up) ((ha7.keep k8 (fun z => z)).mono (by omega)) ?_
      by_cases h0 : f = 0
      · rw [if_pos h0, if_pos h0]
        exact ⟨_, rfl, by omega, by omega⟩
      · rw [if_neg h0, if_neg h0]
        exact ⟨_, rfl, by omega, by omega⟩
    intro H4 acc k4 ha4 hacc hpd
    rw [filter_true] at hpd
    obtain ⟨ds, rfl, hds⟩ := ints_of (vs := acc) fun v hv => by
      obtain ⟨j, hj⟩ := List.getElem?_of_mem hv
      obtain ⟨_, _, h⟩ := WS.Paired.get_r hpd hj
      exact h
    have hdl : ds.length = wn := by
      have := hpd.length
      simpa using this.symm
    obtain ⟨sb1, sb2⟩ := sum_bounds hds
    have hsum : ds.sum ≤ 30 := by
      rw [hdl] at sb2
      refine Int.le_trans sb2 ?_
      by_cases h0 : f = 0
      · rw [if_pos h0]
        have := hw0 h0
        omega
      · rw [if_neg h0]; exact hdv3
    refine ⟨D, _, rfl, .inl ⟨.of hacc, fun td htd => ?_⟩⟩
    have k5' : K0 H4 (upd H4 td (.tup (ds.map V.int))) := .new htd
    have htd5 : upd H4 td (.tup (ds.map V.int)) td = some (.tup (ds.map V.int)) := upd_same
    have ha5 := (ha4.keep k5' (fun z => z)).mono (m := n + 20) (by omega)
    have k5 := (k3.trans k4).trans k5'.up
    show tSeq _ _ _ _ (upd H4 td (.tup (ds.map V.int)))
    clear hpd hacc
    generalize upd H4 td (.tup (ds.map V.int)) = H5 at k5' k5 htd5 ha5 ⊢
    -- turn
    refine ⟨_, rfl, _, rfl, by show 2 ≤ sizeLine; decide, fun L3 hL3 => ?_⟩
    have k6' : K0 H5 (upd H5 L3 (.lst [.int 4, .int 6])) := .new hL3
    refine ⟨_, rfl, L3, _, _, _, rfl, rfl, .of upd_same, pick2 hf, ?_⟩
    refine ⟨hd, (if f = 0 then 4 else 6), n + 20, by split <;> rfl, ha5.keep k6' (fun z => z), by omega, by split <;> omega, by split <;> omega, fun H6 r k6 ha6 r0 r1 => ?_⟩
    have r6 : r < 6 := by
      by_cases h0 : f = 0
      · rw [if_pos h0] at r1; omega
      · rw [if_neg h0] at r1; omega
    refine ⟨_, _, rfl, rfl, _, rfl, RgOk.of_le (by omega) (by omega) (by omega) (by omega), fun L4 hL4 => ?_⟩
    obtain ⟨kt, ekt⟩ := Int.eq_ofNat_of_zero_le (show 0 ≤ 1 + r by omega)
    have hkt1 : 1 ≤ kt := by omega
    have hkt6 : kt ≤ 6 := by omega
    have ekt' : rgV 0 (1 + r) = vN (List.range kt) := by rw [ekt]; exact rgV_nat kt
    rw [ekt']
    obtain ⟨hxs6, hhd6⟩ := ha6.at_
    have nL4 : L4 ≠ hd := (ne_of_none hhd6 hL4).symm
    have k7' : K0 H6 (upd H6 L4 (.lst (vN (List.range kt)))) := .new hL4
    refine ⟨hd, L4, vN (List.range kt), n + 21, rfl, ha6.keep k7' (fun z => z), by omega, nL4, upd_same, by rw [vN_len]; simp; omega, fun H7 pt ys k7 hpt hpt7 hys ha7 => ?_⟩
    obtain ⟨eys, hperm⟩ := perm_map (f := fun i : Nat => V.int (i : Nat)) (g := gN) (fun i => by simp [gN]) hys
    have htok := turn_ok hkt1 hkt6 hperm
    generalize ys.map gN = tn at eys hperm htok
    subst eys
    have htl : tn.length = kt := by rw [hperm.length_eq]; simp
    refine ⟨pt, _, rfl, .inl ⟨.of hpt7, fun tt htt => ?_⟩⟩
    have k8' : K0 H7 (upd H7 tt (.tup (vN tn))) := .new htt
    have htt8 : upd H7 tt (.tup (vN tn)) tt = some (.tup (vN tn)) := upd_same
    have ha8 := (ha7.keep k8' (fun z => z)).mono (m := n + 40) (by rw [vN_len, List.length_range]; omega)
    have k58 : Kp (fun b => b = hd) H5 (upd H7 tt (.tup (vN tn))) := ((k6'.up.trans k6).trans (k7'.up.trans k7)).trans k8'.up
    show tSeq _ _ _ _ (upd H7 tt (.tup (vN tn)))
    generalize upd H7 tt (.tup (vN tn)) = H8 at k58 htt8 ha8 ⊢
    have htd8 := k58.tup htd5
    -- pool, names
    refine ⟨_, rfl, _, rfl, hd, 2, n + 40, rfl, ha8, by omega, by omega, by omega, fun H9 r' k9 ha9 r0' r1' => ?_⟩
    obtain ⟨kp, ekp⟩ := Int.eq_ofNat_of_zero_le (show 0 ≤ 1 + r' by omega)
    refine ⟨_, _, rfl, rfl, hd, kp, n + 41, by rw [← ekp]; rfl, ha9, by omega, by omega, fun H10 pb pool k10 hpb hpb10 hpl hpn hpok_ ha10 => ?_⟩
    refine ⟨_, rfl, hd, 4, n + 41 + 7 * kp, rfl, ha10, by omega, by omega, fun H11 pnm nms k11 hpnm hpnm11 hnl hnn hno ha11 => ?_⟩
    refine ⟨_, _, rfl, ?_⟩
    obtain ⟨hxs9, hhd9⟩ := ha9.at_
    have npb : pb ≠ hd := (ne_of_none hhd9 hpb).symm
    obtain ⟨hxs10, hhd10⟩ := ha10.at_
    have npnm : pnm ≠ hd := (ne_of_none hhd10 hpnm).symm
    have hpb11 := k11.get hpb10 npb
    have k8_11 := (k9.trans k10).trans k11
    have htd11 := k8_11.tup htd8
    have htt11 := k8_11.tup htt8
    have ha11 := ha11.mono (m := n + 100) (by omega)
    have hpne : pool ≠ [] := fun z => by rw [z] at hpl; simp at hpl; omega
    -- roll
    refine ⟨_, rfl, _, rfl, by show 2 ≤ sizeLine; decide, fun L5 hL5 => ?_⟩
    have k12' : K0 H11 (upd H11 L5 (.lst [.int 7, .int 4])) := .new hL5
    refine ⟨_, rfl, L5, _, _, _, rfl, rfl, .of upd_same, pick2 hf, ?_⟩
    refine ⟨hd, (if f = 0 then 7 else 4), n + 100, by split <;> rfl, ha11.keep k12' (fun z => z), by omega, by split <;> omega, by split <;> omega, fun H12 rm k12 ha12 rm0 rm1 => ?_⟩
    have rm7 : rm < 7 := by
      by_cases h0 : f = 0
      · rw [if_pos h0] at rm1; omega
      · rw [if_neg h0] at rm1; omega
    obtain ⟨rmn, erm⟩ := Int.eq_ofNat_of_zero_le rm0
    subst erm
    have k11_12 : Kp (fun b => b = hd) H11 H12 := k12'.up.trans k12
    refine ⟨_, rfl, _, rfl, tt, _, rfl, .inr (.of (k11_12.tup htt11)), hd, pb, rmn, kt, n + 101, pool, by rw [vN_len, htl]; rfl, ha12, by omega, by omega, hkt1, hkt6, npb, k11_12.get hpb11 npb, by omega, hpok_, fun H13 pr roll k13 irl hrl hrn hrs hrw ha13 => ?_⟩
    have k11_13 := k11_12.trans k13
    have ha13 := ha13.mono (m := n + 300) (by omega)
    have hpb13 := k11_13.get hpb11 npb
    have hpnm13 := k11_13.get hpnm11 npnm
    have htd13 := k11_13.tup htd11
    have htt13 := k11_13.tup htt11
    -- bills
    refine ⟨Nat.zero_le _, fun p hp => ?_⟩
    obtain ⟨hxs13, hhd13⟩ := ha13.at_
    have nph : p ≠ hd := (ne_of_none hhd13 hp).symm
    have npp : pb ≠ p := ne_of_none hpb13 hp
    have npn : pnm ≠ p := ne_of_none hpnm13 hp
    have k14' : K0 H13 (upd H13 p (.lst [])) := .new hp
    have hp14 : upd H13 p (.lst []) p = some (.lst []) := upd_same
    have ha14 := ha13.keep k14' (fun z => z)
    have hpb14 := k14'.get0 hpb13
    have hpnm14 := k14'.get0 hpnm13
    have htd14 := k14'.tup htd13
    have htt14 := k14'.tup htt13
    have irl14 := irl.mono k14'.tk
    show tSeq _ _ _ _ (upd H13 p (.lst []))
    have k013 : Kp (fun b => b = hd) H H13 := ((k5.trans k58).trans k8_11).trans k11_13
    have hpH : H p = none := k013.fr _ hp
    have k014 : Kp (fun b => b = hd ∨ b = p) H (upd H13 p (.lst [])) := (k013.mono fun _ z => .inl z).trans k14'.up
    generalize upd H13 p (.lst []) = H14 at k014 hp14 ha14 hpb14 hpnm14 htd14 htt14 irl14 ⊢
    refine ⟨_, rfl, td, rfl, ⟨_, .of htd14⟩, ?_⟩
    refine for_tup (K := K) (a := td) (xs := ds.map V.int) (fun i σ H' => ∃ x4 acc bills, σ = [some (.ref hd), some (.int (f : Nat)), some (.int (wn : Nat)), some (.ref td), x4, some (.ref tt), some (.ref pb), some (.ref pnm), some (.ref pr), some (.ref p)] ∧ Kp (fun b => b = hd ∨ b = p) H14 H' ∧ HandAt H' hd (n + 300 + 40 * i) ∧
      H' p = some (.lst acc) ∧ acc.length = i ∧ bills.length = i ∧ ImAll H' acc (bills.map dLot) ∧ ∀ l ∈ bills, l.length ≤ 4 ∧ ∀ p ∈ l, PlaceW p) ⟨_, [], [], rfl, .refl _, ha14, hp14, rfl, rfl, .nil, fun l h => by simp at h⟩ ?_ ?_ ?_
    · rintro i σ H' hi ⟨x4, acc, bills, rfl, k, _⟩
      exact .of (k.tup htd14)
    · rintro i v σ H' hv ⟨x4, acc, bills, rfl, k, ha', hp', hal, hbl, him, hok⟩
      have hi : i < wn := by
        have := (List.getElem?_eq_some_iff.mp hv).1
        rw [List.length_map, hdl] at this; exact this
      have hpb' := k.get hpb14 (by rintro (z | z); exact npb z; exact npp z)
      have hpnm' := k.get hpnm14 (by rintro (z | z); exact npnm z; exact npn z)
      refine ⟨_, rfl, tyL hp', _, rfl, _, rfl, _, rfl, hd, pnm, nms.map V.str, _, rfl, ha', by omega, npnm, hpnm', by simp; omega, fun H15 po ys k15 hpo hpo15 hys ha15 => ?_⟩
      obtain ⟨eys, hyp⟩ := perm_map (f := V.str) (g := gS) (fun i => rfl) hys
      generalize ys.map gS = ts0 at eys hyp
      subst eys
      have hts0 : ts0.length = 4 := by rw [hyp.length_eq, hnl]
      have npo : po ≠ hd := by
        obtain ⟨xs, hh⟩ := ha'.at_
        exact (ne_of_none hh hpo).symm
      have ha15 := ha15.mono (m := n + 300 + 40 * i + 4) (by simp; omega)
      refine ⟨_, rfl, hd, 4, _, rfl, ha15, by omega, by omega, by omega, fun H16 r k16 ha16 rr0 rr1 => ?_⟩
      refine ⟨_, rfl, po, _, rfl, .of (k16.get hpo15 npo), fun ps hps => ?_⟩
      obtain ⟨ts, ets, hts⟩ := cutV_strs ts0 none (some r)
      have htl2 : ts.length ≤ 4 := by
        have := cutV_length (ts0.map V.str) none (some r)
        rw [ets] at this
        simp at this; omega
      rw [ets]
      have k17' : K0 H16 (upd H16 ps (.lst (ts.map V.str))) := .new hps
      have nps : ps ≠ hd := by
        obtain ⟨xs, hh⟩ := ha16.at_
        exact (ne_of_none hh hps).symm
      have k1517 : Kp (fun b => b = hd) H' (upd H16 ps (.lst (ts.map V.str))) := (k15.trans k16).trans k17'.up
      refine ⟨_, rfl, hd, ps, pb, ts, pool, _, rfl, ha16.keep k17' (fun z => z), by omega, nps, npb, upd_same, k1517.get hpb' npb, by omega, hpne, by omega, fun s hs => hno s (hyp.mem_iff.mp (hts s hs)), hpok_, fun H17 pl lot k17 il hll hlw ha17 => ?_⟩
      have kall := k1517.trans k17
      have hp17 := kall.get hp' nph
      refine ⟨p, acc, .ref pl, rfl, rfl, hp17, lt_line (by omega), ?_⟩
      have kx : Kp (fun b => b = p) H17 (upd H17 p (.lst (acc ++ [.ref pl]))) := .set rfl hp17 (fun _ z => by cases z) (fun _ z => by cases z)
      refine ⟨_, acc ++ [.ref pl], bills ++ [lot], rfl, (k.trans (kall.mono fun _ z => .inl z)).trans (kx.mono fun _ z => .inr z), (ha17.keep kx (fun z => nph z.symm)).mono (by omega), upd_same, by simp [hal], by simp [hbl], ?_, ?_⟩
      · rw [List.map_append]
        exact (him.mono (kall.tk.trans kx.tk)).append (.cons (il.mono kx.tk) .nil)
      · intro l hl
        rcases List.mem_append.mp hl with h | h
        · exact hok l h
        · rw [List.mem_singleton] at h
          subst h
          exact ⟨by omega, hlw⟩
    · rintro σ H' ⟨x4, acc, bills, rfl, k, ha', hp', hal, hbl, him, hok⟩
      rw [List.length_map, hdl] at hbl ha'
      have hpb' := k.get hpb14 (by rintro (z | z); exact npb z; exact npp z)
      have hpnm' := k.get hpnm14 (by rintro (z | z); exact npnm z; exact npn z)
      refine ⟨_, rfl, _, rfl, _, rfl, _, rfl, p, acc, rfl, .inl ⟨.of hp', fun tb htb => ?_⟩⟩
      have k15 : K0 H' (upd H' tb (.tup acc)) := .new htb
      have htb15 : upd H' tb (.tup acc) tb = some (.tup acc) := upd_same
      have ha15 := ha'.keep k15 (fun z => z)
      have hpb15 := k15.get0 hpb'
      have hpnm15 := k15.get0 hpnm'
      have him15 := him.mono k15.tk
      generalize upd H' tb (.tup acc) = H15 at k15 htb15 ha15 hpb15 hpnm15 him15 ⊢
      refine ⟨_, rfl, _, rfl, _, rfl, pnm, _, rfl, .of hpnm15, fun ps hps => ?_⟩
      obtain ⟨ts, ets, hts⟩ := cutV_strs nms none (some 1)
      have htl2 : ts.length ≤ 4 := by
        have := cutV_length (nms.map V.str) none (some 1)
        rw [ets] at this
        simp at this; omega
      rw [ets]
      have k16 : K0 H15 (upd H15 ps (.lst (ts.map V.str))) := .new hps
      have nps : ps ≠ hd := by
        obtain ⟨xs, hh⟩ := ha15.at_
        exact (ne_of_none hh hps).symm
      refine ⟨_, rfl, hd, ps, pb, ts, pool, _, rfl, ha15.keep k16 (fun z => z), by omega, nps, npb, upd_same, k16.get0 hpb15, by omega, hpne, by omega, fun s hs => hno s (hts s hs), hpok_, fun H17 pl lot k17 il hll hlw ha17 => ?_⟩
      refine ⟨by show 3 ≤ sizeLine; decide, fun u1 hu1 => ⟨by show 1 ≤ sizeLine; decide, fun u2 hu2 => ⟨by show 5 ≤ sizeLine; decide, fun u3 hu3 => ?_⟩⟩⟩
      have k18 : K0 H17 (upd (upd (upd H17 u1 (.tup [.str "all", .int 0, .ref pl])) u2 (.tup [.ref u1])) u3 (.tup [.ref td, .ref tt, .ref pr, .ref tb, .ref u2])) := ((Kp.new hu1).then_new hu2).then_new hu3
      have hu1' : upd (upd (upd H17 u1 (.tup [.str "all", .int 0, .ref pl])) u2 (.tup [.ref u1])) u3 (.tup [.ref td, .ref tt, .ref pr, .ref tb, .ref u2]) u1 = some (.tup [.str "all", .int 0, .ref pl]) := (Kp.then_new (Kp.new (S := fun _ => False) hu2) hu3).get0 upd_same
      have hu2' : upd (upd (upd H17 u1 (.tup [.str "all", .int 0, .ref pl])) u2 (.tup [.ref u1])) u3 (.tup [.ref td, .ref tt, .ref pr, .ref tb, .ref u2]) u2 = some (.tup [.ref u1]) := (Kp.new (S := fun _ => False) hu3).get0 upd_same
      have hu3' : upd (upd (upd H17 u1 (.tup [.str "all", .int 0, .ref pl])) u2 (.tup [.ref u1])) u3 (.tup [.ref td, .ref tt, .ref pr, .ref tb, .ref u2]) u3 = some (.tup [.ref td, .ref tt, .ref pr, .ref tb, .ref u2]) := upd_same
      show Q (.ref u3) (upd (upd (upd H17 u1 (.tup [.str "all", .int 0, .ref pl])) u2 (.tup [.ref u1])) u3 (.tup [.ref td, .ref tt, .ref pr, .ref tb, .ref u2]))
      generalize upd (upd (upd H17 u1 (.tup [.str "all", .int 0, .ref pl])) u2 (.tup [.ref u1])) u3 (.tup [.ref td, .ref tt, .ref pr, .ref tb, .ref u2]) = H18 at k18 hu1' hu2' hu3' ⊢
      have t15_18 := (k16.tk.trans k17.tk).trans k18.tk
      have t14_18 := (k.tk.trans k15.tk).trans t15_18
      refine q H18 u3 ⟨ds, tn, roll, bills, [("all", 0, lot)]⟩ ?_ ?_ ⟨⟨fun d hd => (hds d hd).1, by show 0 < ds.sum; omega, by show ds.sum ≤ 60; omega, htok, by show roll.length ≤ 12; omega, fun h hh => (hrw h hh).ok, hrn, hrs, by show bills.length = ds.length; omega, by show bills.length ≤ 60; omega, fun l hl => by have := (hok l hl).1; omega, fun l hl p hp => ((hok l hl).2 p hp).ok, by show 1 ≤ 10; decide⟩, hrw, fun l hl => (hok l hl).2⟩ ((ha17.keep k18 (fun z => z)).mono (by omega))
      · refine ((((((k014.trans k).trans k15.up).trans k16.up).trans (k17.mono fun _ z => .inl z)).trans k18.up)).drop fun b o e z => ?_
        rcases z with rfl | rfl
        · rfl
        · rw [hpH] at e; cases e
      · refine .tup hu3' (.cons (.tup (t14_18 _ _ htd14) (ImAll.of_ints ds)) (.cons (im_dN.mpr ⟨tt, rfl, t14_18 _ _ htt14⟩) (.cons (irl14.mono t14_18) (.cons (.tup (t15_18 _ _ htb15) (him15.mono t15_18)) (.cons (.tup hu2' (.cons (.tup hu1' (.cons (.str _) (.cons (.int _) (.cons (il.mono k18.tk) .nil)))) .nil)) .nil)))))
end
end WS
set_option Elab.async false
set_option linter.all false
set_option maxRecDepth 100000
set_option maxHeartbeats 4000000
namespace WS
open PySem PySem.Spec PyProof.Rows L2 LamX
theorem cutV_whole {xs : List V} {lo hi : Option Int} (h : HT.sIx xs.length 0 lo = 0 ∧ HT.sIx xs.length xs.length hi = xs.length) : cutV xs lo hi = xs := by
  unfold cutV
  rw [h.1, h.2]
  simp
theorem slA {K : PySem.W.Frag} {a : Addr} {xs : List V} {lo hi : Option Int} {H : Hp} {Q : VK} (ha : H a = some (.tup xs)) (q : ∀ (H' : Hp) (p : Addr), K0 H H' → H' p = some (.tup (cutV xs lo hi)) → Q (.ref p) H') : rSlA K (.ref a) lo hi H Q := by
  refine ⟨a, xs, rfl, .of ha, fun h => ?_, fun _ p hp => q _ p (.new hp) upd_same⟩
  exact q H a (.refl _) (by rw [cutV_whole h]; exact ha)
theorem cut_nat (xs : List V) (a b : Nat) : cutV xs (some (a : Int)) (some (b : Int)) = (xs.drop (min a xs.length)).take (min b xs.length - min a xs.length) := by
  unfold cutV
  rw [HT.sIx_nat, HT.sIx_nat]
/-- what a row does to the stations -/
def foldAt (st : List (Str × Str)) (row : List (Str × Option Str)) : List (Str × Str) := row.foldl (fun st z => match z.2 with
  | some v => putS st z.1 v
  | none => st) st
theorem filterMap_cg {α β : Type} {f g : α → Option β} : ∀ {l : List α}, (∀ x ∈ l, f x = g x) → l.filterMap f = l.filterMap g
  | [], _ => rfl
  | x :: l, h => by
    have h1 := h x (List.mem_cons_self ..)
    have h2 := filterMap_cg (l := l) fun y hy => h y (List.mem_cons_of_mem _ hy)
    rw [List.filterMap_cons, List.filterMap_cons, h1, h2]
theorem sub_filterMap : ∀ {L : List Str} {th : List (Str × Str)}, L.Nodup → (th.map (·.1)).Sublist L → L.filterMap (fun n => (lookS th n).map fun v => (n, v)) = th
  | [], th, _, h => by
    have := List.sublist_nil.mp h
    have : th = [] := by simpa using this
    subst this; rfl
  | n :: L, th, hn, h => by
    rw [List.nodup_cons] at hn
    cases th with
    | nil =>
      have : ∀ m, lookS [] m = none := fun _ => rfl
      rw [List.filterMap_cons_none (by rw [this]; rfl)]
      exact sub_filterMap (th := []) hn.2 (by simp)
    | cons q th =>
      rw [List.map_cons] at h
      by_cases e : q.1 = n
      · have h2 : (th.map (·.1)).Sublist L := by
          rw [e] at h
          exact List.cons_sublist_cons.mp h
        have hl : lookS (q :: th) n = some q.2 := by
          unfold lookS; rw [List.find?_cons, decide_eq_true e]; rfl
        rw [List.filterMap_cons_some (b := (n, q.2)) (by rw [hl]; rfl)]
        have hrest : L.filterMap (fun m => (lookS (q :: th) m).map fun v => (m, v)) = L.filterMap (fun m => (lookS th m).map fun v => (m, v)) := by
          apply filterMap_cg
          intro m hm
          have : q.1 ≠ m := fun z => hn.1 (by rw [← e, z]; exact hm)
          unfold lookS
          rw [List.find?_cons, decide_eq_false this]
        rw [hrest, sub_filterMap hn.2 h2, ← e]
      · have h2 : ((q :: th).map (·.1)).Sublist L := by
          rw [List.map_cons]
          cases h with
          | cons _ h => exact h
          | cons_cons _ h => exact absurd rfl e
        have hnn : lookS (q :: th) n = none := by
          unfold lookS
          rw [Option.map_eq_none_iff, List.find?_eq_none]
          intro x hx hd
          have hx1 : x.1 = n := of_decide_eq_true hd
          exact hn.1 (h2.subset (by rw [← hx1]; exact List.mem_map.mpr ⟨x, hx, rfl⟩))
        rw [List.filterMap_cons_none (by rw [hnn]; rfl)]
        exact sub_filterMap hn.2 h2
theorem foldAt_map (th : List (Str × Str)) : ∀ (L : List Str) (st : List (Str × Str)), foldAt st (L.map fun n => (n, lookS th n)) = mergeS st (L.filterMap fun n => (lookS th n).map fun v => (n, v))
  | [], st => rfl
  | n :: L, st => by
    rw [List.map_cons]
    cases h : lookS th n with
    | none =>
      rw [List.filterMap_cons_none (by rw [h]; rfl)]
      exact foldAt_map th L st
    | some v =>
      rw [List.filterMap_cons_some (b := (n, v)) (by rw [h]; rfl)]
      exact foldAt_map th L (putS st n v)
theorem foldAt_row {S : Ship} (ok : ShipOk S) (n : Nat) : foldAt (stAt S n) (rowAt S n) = stAt S (n + 1) := by
  have e : rowAt S n = (S.roll.map (·.name)).map fun m => (m, lookS (thereOf S n (stAt S n)) m) := by
    unfold rowAt rowOf
    rw [List.map_map]; rfl
  rw [e, foldAt_map, sub_filterMap ok.rn (thereOf_keys S n (stAt S n))]
  rfl
theorem foldAt_snoc (st : List (Str × Str)) (row : List (Str × Option Str)) {i : Nat} (h : i < row.length) : foldAt st (row.take (i + 1)) = (match row[i].2 with | some v => putS (foldAt st (row.take i)) row[i].1 v | none => foldAt st (row.take i)) := by
  unfold foldAt
  rw [foldl_take_succ _ _ _ h]
theorem foldAt_len (st : List (Str × Str)) : ∀ row : List (Str × Option Str), (foldAt st row).length ≤ st.length + row.length := by
  intro row
  induction row generalizing st with
  | nil => simp [foldAt]
  | cons z row ih =>
    have : foldAt st (z :: row) = foldAt (match z.2 with | some v => putS st z.1 v | none => st) row := rfl
    rw [this]
    have h1 := ih (match z.2 with | some v => putS st z.1 v | none => st)
    have h2 : (match z.2 with | some v => putS st z.1 v | none => st).length ≤ st.length + 1 := by
      cases z.2 with
      | none => simp
      | some v =>
        show (putS st z.1 v).length ≤ _
        unfold putS
        split <;> simp
    rw [List.length_cons]; omega
section
variable {P : Program} {w : World} {K : PySem.W.Frag} {mg : Str → Option Value} {base : Heap} {CM CH CV LP : Addr}
noncomputable def dawn (S : Ship) (k : Nat) : BK := (ordIt S.turn k, sortPS (stAt S (nb S * k)))
def sp_begins : Sp := fun vs H Q _ => ∃ (sh rw_ : Addr) (S : Ship) (m : Nat), vs = [.ref sh, .ref rw_, .int (m : Nat)] ∧ (∃ a0 a1 a2 a3 a4, ShipAt H sh a0 a1 a2 a3 a4 S) ∧ ShipOk S ∧ Im H (.ref rw_) (dRows S (nb S * m)) ∧ m ≤ 10 ∧
  ∀ (H' : Hp) (p : Addr) (acc : List V), K0 H H' → H' p = some (.lst acc) → ImAll H' acc ((List.range (m + 1)).map fun k => dBeg (dawn S k)) → Q (.ref p) H'
abbrev n__law_begins : List Str := ["_law_ship_here", "_law_rows", "_law_most", "_law_found", "_law_order_here", "_law_station", "_law_bells", "_law_number", "_law_place", "_law_row", "_law_name", "_law_where"]
theorem sc__law_begins : FnScope n__law_begins ["_law_ship_here", "_law_rows", "_law_most"] (C8.fnScope s__law_begins) := ⟨rfl, rfl, rfl, by decide +kernel, rfl, by decide +kernel, by decide +kernel⟩
theorem cal__law_begins (T : Txt K mg CM CH CV LP) (h : HasDef K mg "_law_begins" s__law_begins ["_law_ship_here", "_law_rows", "_law_most"]) : C8.Cal P w K mg base 1 "_law_begins" sp_begins [] := by
  refine mkCal h sc__law_begins (fun vs H Q E hh => ?_) (fun fa cdv Ar outer s H vs Q E hr hh => ?_)
  · obtain ⟨sh, rw_, S, m, rfl, _⟩ := hh
    rfl
  · obtain ⟨sh, rw_, S, m, rfl, ⟨a0, a1, a2, a3, a4, sa⟩, ok, ir, hm, q⟩ := hh
    have hu64 := hu64_of hr
    refine ⟨_, (pss_cons (ps_asg (pe_tup (pa_cons (pe_lst pa_nil) (pa_cons (pe_listRg rfl rfl T.m_list (prg_1 rfl T.m_range (pe_callB (call_lenK (K := K) rfl) (by rfl) T.m_len (by decide +kernel) (pa_cons (pe_ix (ix_tupK (K := K) rfl) (pv 0) pe_int (fun _ _ => rfl)) pa_nil)))) (pa_cons pe_dnewK pa_nil)))) (pg_tup rfl (pgs_cons (pg_name (i := 3) sc__law_begins.nd rfl (loc_by rfl)) (pgs_cons (pg_name (i := 4) sc__law_begins.nd rfl (loc_by rfl)) (pgs_cons (pg_name (i := 5) sc__law_begins.nd rfl (loc_by rfl)) pgs_nil)))))
      (pss_cons (ps_set (i := 6) sc__law_begins.nd rfl (loc_by rfl) (pe_callB (cr_sumT rfl) (by rfl) T.m_sum (by decide +kernel) (pa_cons (pe_ix (ix_tupK (K := K) rfl) (pv 0) pe_int (fun _ _ => rfl)) pa_nil)))
      (pss_cons (ps_for PassesOwn.never rfl (pi_range1 rfl T.m_range (pa_cons (pe_op op_add (pv 2) pe_int) pa_nil)) (pg_name (i := 7) sc__law_begins.nd rfl (loc_by rfl)) (pss_cons (ps_expr (pe_bm PySem.F.plainAttrs_list PySem.F.slot_list_append PySem.F.type_list_append mt_append (pv 3) (pa_cons (pe_tup (pa_cons (pe_callTy (call_tupK (K := K) rfl) (by rfl) T.m_tuple (by decide +kernel) (pa_cons (pv 4) pa_nil)) (pa_cons (pe_callTy (call_tupK (K := K) rfl) (by rfl) T.m_tuple (by decide +kernel) (pa_cons (pe_sortItems rfl hu64 (pv 5) rfl T.m_sorted) pa_nil)) pa_nil))) pa_nil)))
      (pss_cons (ps_set (i := 4) sc__law_begins.nd rfl (loc_by rfl) (pe_lc (own := [("_law_place", 8)]) (g := (gName 8)) (tt := tYes) rfl sc__law_begins.nd (pi_tup (pe_ix (ix_tupK (K := K) rfl) (pv 0) pe_int (fun _ _ => rfl))) (blkOk_by (own := [("_law_place", 8)]) (N := n__law_begins) (sc := C8.fnScope s__law_begins) (by decide +kernel)) (fun _ _ _ _ _ => (pg_name (i := 8) sc__law_begins.nd rfl (loc_by rfl))) (fun _ _ _ _ _ => pts_nil) (fun _ _ _ _ _ => (pe_ix (ix_listK (K := K) rfl) (pv 4) (pv 8) (fun _ _ => rfl)))))
      (pss_one (ps_for PassesOwn.never rfl (pi_tup (pe_slice (sl_tupK (K := K) rfl) (pv 1) (po_some (pe_op op_mul (pv 6) (pv 7))) (po_some (pe_op op_add (pe_op op_mul (pv 6) (pv 7)) (pv 6))))) (pg_name (i := 9) sc__law_begins.nd rfl (loc_by rfl)) (pss_one (ps_for PassesOwn.never rfl (pi_tup (pv 9)) (pg_tup rfl (pgs_cons (pg_name (i := 10) sc__law_begins.nd rfl (loc_by rfl)) (pgs_cons (pg_name (i := 11) sc__law_begins.nd rfl (loc_by rfl)) pgs_nil))) (pss_one (ps_if (pt_cmpR op_eq (pe_ix (ix_tupK (K := K) rfl) (pv 11) pe_int (fun _ _ => rfl)) pe_str (nomark _)) (pss_one (ps_dput (hu_of hr) (pv 5) (pv 10) (pe_ix (ix_tupK (K := K) rfl) (pv 11) pe_int (fun _ _ => rfl)) rfl)) pss_nil)))))))))
      (pss_one (ps_ret (pv 3)))))), ?_⟩
    have d0 := ok.d0
    have d60 := ok.d60
    have enb := nb_eq ok
    have l12 := ok.r12
    have tk6 := ok.tok.len6
    obtain ⟨xr, xs, er, hrw, irw⟩ := ir.tup_inv
    cases er
    have hxl : xs.length = nb S * m := by rw [irw.length]; simp
    -- the start
    refine ⟨Nat.zero_le _, fun p hp => ?_⟩
    refine ⟨_, rfl, sh, _, _, _, rfl, rfl, .of ((tk_new hp) _ _ sa.s), atI_nat (j := 1) rfl, a1, _, rfl, .inr (.of ((tk_new hp) _ _ sa.t)), _, rfl, by rw [vN_len]; exact RgOk.of_le (by omega) (by omega) (by omega) (by omega), fun o ho => ?_⟩
    intro d hd
    refine ⟨by show 3 ≤ sizeLine; decide, fun u hu => ?_⟩
    have erg : rgV 0 ((vN S.turn).length : Nat) = vN (ordIt S.turn 0) := by rw [vN_len, rgV_nat]; rfl
    refine ⟨u, _, rfl, .of upd_same, rfl, _, _, rfl, _, _, rfl, _, _, rfl, rfl, ?_⟩
    have npo : p ≠ o := ne_of_none upd_same ho
    have npd : p ≠ d := ne_of_none ((Kp.new (S := fun _ => False) ho).get0 upd_same) hd
    have nod : o ≠ d := ne_of_none upd_same hd
    have k0 : K0 H (upd (upd (upd (upd H p (.lst [])) o (.lst (rgV 0 ((vN S.turn).length : Nat)))) d (.dK [])) u (.tup [.ref p, .ref o, .ref d])) := (((Kp.new hp).then_new ho).then_new hd).then_new hu
    have hp0 : upd (upd (upd (upd H p (.lst [])) o (.lst (rgV 0 ((vN S.turn).length : Nat)))) d (.dK [])) u (.tup [.ref p, .ref o, .ref d]) p = some (.lst []) := (((Kp.new (S := fun _ => False) ho).then_new hd).then_new hu).get0 upd_same
    have ho0 : upd (upd (upd (upd H p (.lst [])) o (.lst (rgV 0 ((vN S.turn).length : Nat)))) d (.dK [])) u (.tup [.ref p, .ref o, .ref d]) o = some (.lst (vN (ordIt S.turn 0))) := by rw [← erg]; exact ((Kp.new (S := fun _ => False) hd).then_new hu).get0 upd_same
    have hd0 : upd (upd (upd (upd H p (.lst [])) o (.lst (rgV 0 ((vN S.turn).length : Nat)))) d (.dK [])) u (.tup [.ref p, .ref o, .ref d]) d = some (.dK []) := (Kp.new (S := fun _ => False) hu).get0 upd_same
    have hdH : H d = none := ((Kp.new (S := fun _ => False) hp).then_new ho).fr _ hd
    show tSeq _ _ _ _ (upd (upd (upd (upd H p (.lst [])) o (.lst (rgV 0 ((vN S.turn).length : Nat)))) d (.dK [])) u (.tup [.ref p, .ref o, .ref d]))
    generalize upd (upd (upd (upd H p (.lst [])) o (.lst (rgV 0 ((vN S.turn).length : Nat)))) d (.dK [])) u (.tup [.ref p, .ref o, .ref d]) = H1 at k0 hp0 ho0 hd0 ⊢
    have sa1 := sa.mono k0.tk
    have hrw1 := k0.tup hrw
    have irw1 := irw.mono k0.tk
    -- bells
    refine ⟨_, rfl, sh, _, _, _, rfl, rfl, .of sa1.s, atI_nat (j := 0) rfl, a0, S.day, rfl, .of sa1.d, ?_⟩
    refine ⟨_, rfl, _, _, rfl, rfl, _, rfl, by omega, by omega, ?_⟩
    have em : ((m : Nat) : Int) + 1 = ((m + 1 : Nat) : Int) := by push_cast; rfl
    rw [em, Int.toNat_natCast]
    refine for_range (lo := 0) (n := m + 1) (fun i σ H2 => ∃ x7 x8 x9 x10 x11 o acc, σ = [some (.ref sh), some (.ref rw_), some (.int (m : Nat)), some (.ref p), some (.ref o), some (.ref d), some (.int S.day.sum), x7, x8, x9, x10, x11] ∧ Kp (fun b => b = p ∨ b = d) H1 H2 ∧
      H2 p = some (.lst acc) ∧ acc.length = i ∧ ImAll H2 acc ((List.range i).map fun k => dBeg (dawn S k)) ∧ o ≠ p ∧ o ≠ d ∧ H2 o = some (.lst (vN (ordIt S.turn i))) ∧ H2 d = some (.dK (dkPS (stAt S (nb S * min i m))))) ⟨none, none, none, none, none, o, [], rfl, .refl _, hp0, rfl, .nil, npo.symm, nod, ho0, by simpa [stAt, dkPS] using hd0⟩ ?_ ?_
    · rintro i σ H2 hi ⟨x7, x8, x9, x10, x11, o, acc, rfl, k, hp2, hal, him, nop, nod, ho2, hd2⟩
      have him' : i ≤ m := by omega
      have emin : min i m = i := by omega
      rw [emin] at hd2
      have so := stAt_ok S (nb S * i)
      have sl := so.len
      -- found.append
      refine ⟨_, rfl, tyL hp2, _, rfl, o, _, rfl, .inl ⟨.of ho2, fun t1 ht1 => ?_⟩⟩
      have k3 : K0 H2 (upd H2 t1 (.tup (vN (ordIt S.turn i)))) := .new ht1
      refine ⟨_, rfl, d, stAt S (nb S * i), rfl, k3.get0 hd2, by omega, fun H4 ps ts k4 hps hps4 hpair => ?_⟩
      refine ⟨ps, ts.map V.ref, rfl, .inl ⟨.of hps4, fun t2 ht2 => ?_⟩⟩
      have k5 : K0 H4 (upd H4 t2 (.tup (ts.map V.ref))) := .new ht2
      refine ⟨by show 2 ≤ sizeLine; decide, fun t3 ht3 => ?_⟩
      have k6 : K0 (upd H4 t2 (.tup (ts.map V.ref))) (upd (upd H4 t2 (.tup (ts.map V.ref))) t3 (.tup [.ref t1, .ref t2])) := .new ht3
      have k26 := ((k3.trans k4).trans k5).trans k6
      have ht1' : upd (upd H4 t2 (.tup (ts.map V.ref))) t3 (.tup [.ref t1, .ref t2]) t1 = some (.tup (vN (ordIt S.turn i))) := ((k4.trans k5).trans k6).get0 upd_same
      have ht2' : upd (upd H4 t2 (.tup (ts.map V.ref))) t3 (.tup [.ref t1, .ref t2]) t2 = some (.tup (ts.map V.ref)) := k6.get0 upd_same
      have ht3' : upd (upd H4 t2 (.tup (ts.map V.ref))) t3 (.tup [.ref t1, .ref t2]) t3 = some (.tup [.ref t1, .ref t2]) := upd_same
      have ips : ImAll (upd (upd H4 t2 (.tup (ts.map V.ref))) t3 (.tup [.ref t1, .ref t2])) (ts.map V.ref) ((sortPS (stAt S (nb S * i))).map encPS) := by
        refine ImAll.of_paired (paired_of_get (by rw [List.length_map, hpair.length]) fun j q v h1 h2 => ?_)
        obtain ⟨t, ht, rfl⟩ := map_getQ h2
        obtain ⟨t', ht', e⟩ := WS.Paired.get_l hpair h1
        rw [ht] at ht'
        cases ht'
        exact .tup ((k5.trans k6).get0 e) (.cons (.str _) (.cons (.str _) .nil))
      have hp6 := k26.get0 hp2
      have hd6 := k26.get0 hd2
      have ho6 := k26.get0 ho2
      refine ⟨p, acc, .ref t3, rfl, rfl, hp6, lt_line (by omega), ?_⟩
      generalize upd (upd H4 t2 (.tup (ts.map V.ref))) t3 (.tup [.ref t1, .ref t2]) = H6 at k6 k26 ht1' ht2' ht3' ips hp6 hd6 ho6 ⊢
      have kp7 : Kp (fun b => b = p) H6 (upd H6 p (.lst (acc ++ [.ref t3]))) := .set rfl hp6 (fun _ z => by cases z) (fun _ z => by cases z)
      have hp7 : upd H6 p (.lst (acc ++ [.ref t3])) p = some (.lst (acc ++ [.ref t3])) := upd_same
      have hd7 := kp7.get hd6 (fun z => npd z.symm)
      have ho7 := kp7.get ho6 nop
      have him7 : ImAll (upd H6 p (.lst (acc ++ [.ref t3]))) (acc ++ [.ref t3]) ((List.range (i + 1)).map fun k => dBeg (dawn S k)) := by
        rw [List.range_succ, List.map_append]
        refine (him.mono (k26.tk.trans kp7.tk)).append (.cons (.tup (kp7.tup ht3') (.cons (im_dN.mpr ⟨t1, rfl, kp7.tup ht1'⟩) (.cons (.tup (kp7.tup ht2') (ips.mono kp7.tk)) .nil))) .nil)
      have k7 : Kp (fun b => b = p ∨ b = d) H1 (upd H6 p (.lst (acc ++ [.ref t3]))) := (k.trans k26.up).trans (kp7.mono fun _ z => .inl z)
      show tSeq _ _ _ _ (upd H6 p (.lst (acc ++ [.ref t3])))
      generalize upd H6 p (.lst (acc ++ [.ref t3])) = H7 at k7 hp7 hd7 ho7 him7 ⊢
      have sa7 := sa1.mono k7.tk
      -- the order
      refine ⟨_, rfl, sh, _, _, _, rfl, rfl, .of sa7.s, atI_nat (j := 1) rfl, a1, rfl, ⟨_, .of sa7.t⟩, fun D hD => ?_⟩
      refine lc_pure (n := S.turn.length) (walk_tup (K := K) (a := a1) (xs := vN S.turn) |> fun z => by rw [vN_len] at z; exact z) (fun j _ v => v = V.int ((ordIt S.turn i).getD (S.turn.getD j 0) 0 : Nat)) (fun _ => true) hD (by omega) (fun _ _ _ _ h _ => h) (fun H2 k2 => SqT.of (k2.tup sa7.t)) ?_ ?_
      · rintro j x H8 H9 hj k8 ⟨rfl, hx⟩ Post Skip hP hS
        rw [vN_getD hj] at hx
        cases hx
        refine ⟨rfl, ?_⟩
        have hlt := getD_lt ok.tok.lt hj
        refine ⟨_, rfl, _, rfl, o, _, _, _, rfl, rfl, .of (k8.get0 ho7), atI_nat (vN_getD (by rw [ordIt_len]; exact hlt)), ?_⟩
        exact hP rfl _ _ (.refl _) rfl
      intro H8 acc8 k8 hacc8 hp8
      rw [filter_true] at hp8
      have e8 := eq_vN (f := fun j => (ordIt S.turn i).getD (S.turn.getD j 0) 0) hp8
      have eord : acc8 = vN (ordIt S.turn (i + 1)) := by
        rw [e8]
        congr 1
        show _ = ordStep S.turn (ordIt S.turn i)
        unfold ordStep
        apply List.ext_getElem
        · simp
        · intro y h1 h2
          have hy : y < S.turn.length := by simpa using h1
          simp [hy]
      rw [eord] at hacc8
      have nDp : D ≠ p := (ne_of_none hp7 hD).symm
      have nDd : D ≠ d := (ne_of_none hd7 hD).symm
      have hp8' := k8.get0 hp7
      have hd8 := k8.get0 hd7
      have him8 := him7.mono k8.tk
      have k18 := k7.trans k8.up
      have hrw8 := k18.tup hrw1
      have irw8 := irw1.mono k18.tk
      -- the rows of the day
      have hnbm : nb S * i ≤ nb S * m := Nat.mul_le_mul_left _ him'
      have nb60 : nb S ≤ 60 := by omega
      have hm600 : nb S * m ≤ 600 := Nat.le_trans (Nat.mul_le_mul nb60 hm) (by omega)
      have ez : (0 : Int) + (i : Int) = (i : Int) := Int.zero_add _
      refine ⟨_, rfl, _, rfl, _, rfl, _, _, rfl, rfl, .inl ⟨by omega, by omega⟩, _, rfl, _, rfl, _, rfl, _, _, rfl, rfl, .inl ⟨by omega, by omega⟩, _, rfl, _, _, rfl, rfl, _, rfl, ?_⟩
      have elo : S.day.sum * (0 + (i : Int)) = ((nb S * i : Nat) : Int) := by rw [ez, ← enb]; push_cast; rfl
      have ehi : S.day.sum * (0 + (i : Int)) + S.day.sum = ((nb S * i + nb S : Nat) : Int) := by rw [elo, ← enb]; push_cast; rfl
      refine slA hrw8 fun H9 c k9 hc => ?_
      rw [ehi, elo, cut_nat] at hc
      have hys : ∀ (j : Nat) (v : V), ((xs.drop (min (nb S * i) xs.length)).take (min (nb S * i + nb S) xs.length - min (nb S * i) xs.length))[j]? = some v → xs[nb S * i + j]? = some v := by
        intro j v hv
        rw [List.getElem?_take] at hv
        split at hv
        · rw [List.getElem?_drop] at hv
          rw [show min (nb S * i) xs.length = nb S * i by omega] at hv
          exact hv
        · cases hv
      have hyl : nb S * i + ((xs.drop (min (nb S * i) xs.length)).take (min (nb S * i + nb S) xs.length - min (nb S * i) xs.length)).length = nb S * min (i + 1) m := by
        rw [List.length_take, List.length_drop, hxl]
        by_cases him2 : i < m
        · have e1 : nb S * (i + 1) ≤ nb S * m := Nat.mul_le_mul_left _ him2
          have e2 : nb S * (i + 1) = nb S * i + nb S := Nat.mul_succ _ _
          rw [show min (i + 1) m = i + 1 by omega, e2]
          omega
        · have : i = m := by omega
          subst this
          rw [show min (i + 1) i = i by omega]
          omega
      generalize (xs.drop (min (nb S * i) xs.length)).take (min (nb S * i + nb S) xs.length - min (nb S * i) xs.length) = ys at hc hys hyl
      have hp9 := k9.get0 hp8'
      have hd9 := k9.get0 hd8
      have ho9 := k9.get0 hacc8
      have him9 := him8.mono k9.tk
      have irw9 := irw8.mono k9.tk
      have k19 := k18.trans k9.up
      refine ⟨c, rfl, ⟨_, .of hc⟩, ?_⟩
      refine for_tup (K := K) (a := c) (xs := ys) (fun j σ H' => ∃ x9 x10 x11, σ = [some (.ref sh), some (.ref rw_), some (.int (m : Nat)), some (.ref p), some (.ref D), some (.ref d), some (.int S.day.sum), some (.int (0 + (i : Int))), x8, x9, x10, x11] ∧ Kp (fun b => b = d) H9 H' ∧ H' d = some (.dK (dkPS (stAt S (nb S * i + j))))) ⟨x9, x10, x11, rfl, .refl _, hd9⟩ ?_ ?_ ?_
      · rintro j σ H' hj ⟨x9, x10, x11, rfl, kk, _⟩
        exact .of (kk.tup hc)
      · rintro j v σ H' hv ⟨x9, x10, x11, rfl, kk, hdj⟩
        have hvx := hys j v hv
        obtain ⟨Dr, hDr, iv⟩ := irw9.get hvx
        obtain ⟨nn, hnn, rfl⟩ := map_getQ hDr
        have hlt : nb S * i + j < nb S * m := by
          have := (List.getElem?_eq_some_iff.mp hnn).1
          simpa using this
        rw [range_getElem? hlt] at hnn
        cases hnn
        obtain ⟨ar, zs, rfl, har, izs⟩ := (iv.mono kk.tk).tup_inv
        have hzl : zs.length = (rowAt S (nb S * i + j)).length := by rw [izs.length, List.length_map]
        have hrl : (rowAt S (nb S * i + j)).length = S.roll.length := by simp [rowAt, rowOf]
        have so2 := (stAt_ok S (nb S * i + j)).len
        refine ⟨_, rfl, ar, rfl, ⟨_, .of har⟩, ?_⟩
        refine for_tup (K := K) (a := ar) (xs := zs) (fun l σ H'' => ∃ x10 x11, σ = [some (.ref sh), some (.ref rw_), some (.int (m : Nat)), some (.ref p), some (.ref D), some (.ref d), some (.int S.day.sum), some (.int (0 + (i : Int))), x8, some (.ref ar), x10, x11] ∧ Kp (fun b => b = d) H' H'' ∧
          H'' d = some (.dK (dkPS (foldAt (stAt S (nb S * i + j)) ((rowAt S (nb S * i + j)).take l))))) ⟨x10, x11, rfl, .refl _, hdj⟩ ?_ ?_ ?_
        · rintro l σ H'' hl ⟨x10, x11, rfl, k3, _⟩
          exact .of (k3.tup har)
        · rintro l v σ H'' hv ⟨x10, x11, rfl, k3, hdl⟩
          have hll : l < (rowAt S (nb S * i + j)).length := by rw [← hzl]; exact (List.getElem?_eq_some_iff.mp hv).1
          obtain ⟨Dc, hDc, ic⟩ := izs.get hv
          obtain ⟨z, hz, rfl⟩ := map_getQ hDc
          rw [List.getElem?_eq_getElem hll] at hz
          have hz := Option.some.inj hz
          obtain ⟨az, vs, rfl, haz, ivs⟩ := (ic.mono k3.tk).tup_inv
          obtain ⟨v1, r1, rfl, e1, ivs⟩ := ivs.cons_inv
          obtain ⟨v2, r2, rfl, e2, ivs⟩ := ivs.cons_inv
          obtain rfl := ivs.nil_inv
          obtain rfl := e1.str_inv
          refine ⟨az, _, rfl, .of haz, rfl, _, _, rfl, _, _, rfl, rfl, ?_⟩
          have fs := foldAt_snoc (stAt S (nb S * i + j)) (rowAt S (nb S * i + j)) hll
          rw [hz] at fs
          have fl := foldAt_len (stAt S (nb S * i + j)) ((rowAt S (nb S * i + j)).take l)
          rw [List.length_take] at fl
          cases hz2 : z.2 with
          | some w =>
            rw [hz2] at e2 fs
            obtain ⟨aw, ws, rfl, haw, iws⟩ := e2.tup_inv
            obtain ⟨w1, r1, rfl, f1, iws⟩ := iws.cons_inv
            obtain ⟨w2, r2, rfl, f2, iws⟩ := iws.cons_inv
            obtain rfl := iws.nil_inv
            obtain rfl := f1.str_inv
            obtain rfl := f2.str_inv
            refine ⟨_, rfl, aw, _, _, _, rfl, rfl, .of haw, atI_nat (j := 0) rfl, rfl, _, rfl, ?_⟩
            refine if_true_of rfl ?_
            refine ⟨_, rfl, aw, _, _, _, rfl, rfl, .of haw, atI_nat (j := 1) rfl, _, rfl, _, rfl, d, _, rfl, DPut.k (k := Sum.inr z.1) hdl (lt_line (by simp [dkPS]; omega)), ?_⟩
            refine ⟨_, _, rfl, k3.then_set rfl hdl (fun _ z => by cases z) (fun _ z => by cases z), ?_⟩
            rw [upd_same, dkPS_put, fs]
          | none =>
            rw [hz2] at e2 fs
            obtain ⟨aw, ws, rfl, haw, iws⟩ := e2.tup_inv
            obtain ⟨w1, r1, rfl, f1, iws⟩ := iws.cons_inv
            obtain rfl := iws.nil_inv
            obtain rfl := f1.str_inv
            refine ⟨_, rfl, aw, _, _, _, rfl, rfl, .of haw, atI_nat (j := 0) rfl, rfl, _, rfl, ?_⟩
            refine if_false_of (by decide +kernel) ?_
            exact ⟨_, _, rfl, k3, by rw [fs]; exact hdl⟩
        · rintro σ H'' ⟨x10, x11, rfl, k3, hdl⟩
          rw [hzl, List.take_length, foldAt_row ok] at hdl
          exact ⟨_, _, _, rfl, kk.trans k3, hdl⟩
      · rintro σ H' ⟨x9, x10, x11, rfl, kk, hdj⟩
        rw [hyl] at hdj
        refine ⟨_, _, _, _, _, D, acc ++ [.ref t3], rfl, k19.trans (kk.mono fun _ z => .inr z), kk.get hp9 npd, by simp [hal], him9.mono kk.tk, nDp, nDd, kk.get ho9 nDd, hdj⟩
    · rintro σ H2 ⟨x7, x8, x9, x10, x11, o, acc, rfl, k, hp2, hal, him, nop, nod, ho2, hd2⟩
      refine ⟨_, rfl, q H2 p acc ((k0.up.trans k).drop fun b o e z => ?_) hp2 him⟩
      rcases z with rfl | rfl
      · rw [hp] at e; cases e
      · rw [hdH] at e; cases e
end
end WS
set_option Elab.async false
set_option linter.all false
set_option maxRecDepth 100000
set_option maxHeartbeats 4000000
namespace WS
open PySem PySem.Spec PyProof.Rows L2 LamX
/-! ### data that may be compared -/
theorem okS.str {s : Str} (h : okS s) : PyData.strOk s = true := by
  unfold PyData.strOk
  rw [Array.all_eq_true]
  intro i hi
  have := h.c s.cps[i] (by simp)
  unfold okc at this
  exact decide_eq_true (by omega)
structure Lay (n : Nat) (d : PyData) : Prop where
  c : d.canLay0 = true
  d : d.depth ≤ n
theorem Lay.int {n : Nat} (i : Int) : Lay n (.int i) := ⟨rfl, Nat.zero_le _⟩
theorem Lay.strS {n : Nat} {s : Str} (h : okS s) : Lay n (.str s) := ⟨h.str, Nat.zero_le _⟩
theorem Lay.all {α : Type} {f : α → PyData} {n : Nat} : ∀ {l : List α}, (∀ a ∈ l, Lay n (f a)) → PyData.canLayAll0 (l.map f) = true ∧ PyData.depthAll (l.map f) ≤ n
  | [], _ => ⟨rfl, Nat.zero_le _⟩
  | a :: l, h => by
    obtain ⟨h1, h2⟩ := h a (List.mem_cons_self ..)
    obtain ⟨h3, h4⟩ := Lay.all (l := l) fun b hb => h b (List.mem_cons_of_mem _ hb)
    constructor
    · show (PyData.canLay0 (f a) && PyData.canLayAll0 (l.map f)) = true
      rw [h1, h3]; rfl
    · show max (f a).depth (PyData.depthAll (l.map f)) ≤ n
      omega
theorem Lay.tup {α : Type} {f : α → PyData} {n : Nat} {l : List α} (h : ∀ a ∈ l, Lay n (f a)) : Lay (n + 1) (.tuple (l.map f)) := by
  obtain ⟨h1, h2⟩ := Lay.all h
  exact ⟨h1, by show PyData.depthAll (l.map f) + 1 ≤ n + 1; omega⟩
theorem Lay.lst {α : Type} {f : α → PyData} {n : Nat} {l : List α} (h : ∀ a ∈ l, Lay n (f a)) : Lay (n + 1) (.list (l.map f)) := by
  obtain ⟨h1, h2⟩ := Lay.all h
  exact ⟨h1, by show PyData.depthAll (l.map f) + 1 ≤ n + 1; omega⟩
theorem Lay.tup2 {n : Nat} {a b : PyData} (ha : Lay n a) (hb : Lay n b) : Lay (n + 1) (.tuple [a, b]) := by
  constructor
  · show (a.canLay0 && (b.canLay0 && true)) = true
    rw [ha.c, hb.c]; rfl
  · show max a.depth (max b.depth 0) + 1 ≤ n + 1
    have := ha.d
    have := hb.d
    omega
theorem Lay.tup1 {n : Nat} {a : PyData} (ha : Lay n a) : Lay (n + 1) (.tuple [a]) := by
  constructor
  · show (a.canLay0 && true) = true
    rw [ha.c]; rfl
  · show max a.depth 0 + 1 ≤ n + 1
    have := ha.d
    omega
theorem Lay.mono {n m : Nat} {d : PyData} (h : Lay n d) (l : n ≤ m) : Lay m d := ⟨h.c, by have := h.d; omega⟩
theorem Lay.shaped {n : Nat} {d : PyData} (h : Lay n d) (l : n ≤ 64) : SeqAt.shaped d = true := by
  unfold SeqAt.shaped
  rw [h.c, decide_eq_true (by have := h.d; omega)]; rfl
def PsOk (l : List (Str × Str)) : Prop := ∀ q ∈ l, okS q.1 ∧ okS q.2
theorem lay_beg {x : BK} (h : PsOk x.2) : Lay 4 (dBeg x) := by
  refine Lay.tup2 (n := 3) ?_ ?_
  · exact (Lay.tup (n := 0) (f := fun i : Nat => PyData.int (i : Nat)) fun a _ => .int _).mono (by omega)
  · exact Lay.tup (n := 2) fun q hq => (Lay.tup2 (n := 0) (.strS (h q hq).1) (.strS (h q hq).2)).mono (by omega)
theorem lay_ps {l : List (Str × Str)} (h : PsOk l) : Lay 3 (.tuple (l.map encPS)) := Lay.tup (n := 2) fun q hq => (Lay.tup2 (n := 0) (.strS (h q hq).1) (.strS (h q hq).2)).mono (by omega)
theorem ok_at : okS "at" := ⟨by decide, by unfold okc; decide⟩
theorem ok_below : okS "below" := ⟨by decide, by unfold okc; decide⟩
theorem ok_round : okS "round" := ⟨by decide, by unfold okc; decide⟩
theorem ok_open : okS "open" := ⟨by decide, by unfold okc; decide⟩
theorem ok_empty : okS Str.empty := ⟨by decide, by intro c h; simp [Str.empty] at h⟩
def RowOk (r : List (Str × Option Str)) : Prop := ∀ z ∈ r, okS z.1 ∧ ∀ v, z.2 = some v → okS v
theorem lay_row {r : List (Str × Option Str)} (h : RowOk r) : Lay 3 (dRow r) := Lay.tup (n := 2) fun z hz => by
  refine Lay.tup2 (n := 1) (.strS (h z hz).1) ?_
  cases e : z.2 with
  | none => exact .tup1 (.strS ok_below)
  | some v => exact .tup2 (.strS ok_at) (.strS ((h z hz).2 v e))
/-! ### the names of a ship's rows and stations -/
theorem lookS_ok {l : List (Str × Str)} (h : PsOk l) {k v : Str} (e : lookS l k = some v) : okS v := by
  unfold lookS at e
  obtain ⟨q, hq, rfl⟩ := Option.map_eq_some_iff.mp e
  exact (h q (List.mem_of_find?_eq_some hq)).2
theorem there_ok {S : Ship} (W : ShipW S) (n : Nat) (st : List (Str × Str)) : PsOk (thereOf S n st) := by
  intro q hq
  unfold thereOf placesOf at hq
  obtain ⟨z, hz, e⟩ := List.mem_filterMap.mp hq
  obtain ⟨po, hpo, rfl⟩ := Option.map_eq_some_iff.mp e
  have hz1 : z.1 ∈ handsOf S n := (List.of_mem_zip hz).1
  have hz2 : z.2 ∈ manPosts (handsOf S n) (lotOf S n) (stoodOf S n st) := (List.of_mem_zip hz).2
  refine ⟨(W.r _ (List.mem_filter.mp hz1).1).n, ?_⟩
  rw [hpo] at hz2
  unfold manPosts at hz2
  obtain ⟨o, _, ho⟩ := List.mem_map.mp hz2
  obtain ⟨i, _, rfl⟩ := Option.map_eq_some_iff.mp ho
  show okS (nameAt (lotOf S n) i)
  unfold nameAt
  cases hl : (lotOf S n)[i]? with
  | none => exact ok_empty
  | some p =>
    have hp : p ∈ lotOf S n := List.mem_of_getElem? hl
    have hwl : watchOf S.day n < S.bills.length := by rw [W.ok.bl]; exact watchOf_lt W.ok.d1 W.ok.d0 _
    have elot : lotOf S n = S.bills[watchOf S.day n] := by unfold lotOf; simp [hwl]
    exact (W.b _ (List.getElem_mem hwl) p (by rw [← elot]; exact hp)).n
theorem putS_ps {st : List (Str × Str)} (h : PsOk st) {k v : Str} (hk : okS k) (hv : okS v) : PsOk (putS st k v) := by
  intro q hq
  unfold putS at hq
  split at hq
  · obtain ⟨x, hx, rfl⟩ := List.mem_map.mp hq
    split
    · exact ⟨(h x hx).1, hv⟩
    · exact h x hx
  · rcases List.mem_append.mp hq with hq | hq
    · exact h q hq
    · rw [List.mem_singleton] at hq
      rw [hq]; exact ⟨hk, hv⟩
theorem mergeS_ps : ∀ {more st : List (Str × Str)}, PsOk st → PsOk more → PsOk (mergeS st more)
  | [], _, h, _ => h
  | q :: more, st, h, hm => mergeS_ps (more := more) (putS_ps h (hm q (List.mem_cons_self ..)).1 (hm q (List.mem_cons_self ..)).2) fun x hx => hm x (List.mem_cons_of_mem _ hx)
theorem stAt_ps {S : Ship} (W : ShipW S) : ∀ n, PsOk (stAt S n)
  | 0 => fun q hq => by simp [stAt] at hq
  | n + 1 => mergeS_ps (stAt_ps W n) (there_ok W n _)
theorem sort_ps {l : List (Str × Str)} (h : PsOk l) : PsOk (sortPS l) := fun q hq => h q ((sortPS_perm l).mem_iff.mp hq)
theorem rowAt_ok {S : Ship} (W : ShipW S) (n : Nat) : RowOk (rowAt S n) := by
  intro z hz
  unfold rowAt rowOf at hz
  obtain ⟨h, hh, rfl⟩ := List.mem_map.mp hz
  exact ⟨(W.r h hh).n, fun v e => lookS_ok (there_ok W n _) e⟩
section
variable {P : Program} {w : World} {K : PySem.W.Frag} {mg : Str → Option Value} {base : Heap} {CM CH CV LP : Addr}
/-! ### _law_due -/
def sp_due : Sp := fun vs H Q _ => ∃ (b : Addr) (acc : List V) (B : Nat → BK) (n : Nat), vs = [.ref b] ∧ H b = some (.lst acc) ∧ ImAll H acc ((List.range n).map fun k => dBeg (B k)) ∧ n ≤ 1000 ∧ (∀ k, PsOk (B k).2) ∧
  ∀ (H' : Hp) (p : Addr), K0 H H' → Im H' (.ref p) (dRound (roundAt B n 0)) → Q (.ref p) H'
abbrev n__law_due : List Str := ["_law_dawns", "_law_number", "_law_begin", "_law_first"]
theorem sc__law_due : FnScope n__law_due ["_law_dawns"] (C8.fnScope s__law_due) := ⟨rfl, rfl, rfl, by decide +kernel, rfl, by decide +kernel, by decide +kernel⟩
theorem first_of (B : Nat → BK) (i : Nat) : ∃ j, j ≤ i ∧ B j = B i ∧ (∀ m, m < j → B m ≠ B i) ∧ ((j < i ∧ lookB B i = some j) ∨ (j = i ∧ lookB B i = none)) := by
  cases h : lookB B i with
  | some j =>
    unfold lookB at h
    rw [List.find?_range_eq_some] at h
    obtain ⟨h1, h2, h3⟩ := h
    have h2 := List.mem_range.mp h2
    refine ⟨j, by omega, of_decide_eq_true h1, fun m hm e => ?_, .inl ⟨h2, rfl⟩⟩
    have := h3 m hm
    rw [decide_eq_true e] at this
    cases this
  | none =>
    unfold lookB at h
    rw [List.find?_range_eq_none] at h
    refine ⟨i, Nat.le_refl _, rfl, fun m hm e => ?_, .inr ⟨rfl, rfl⟩⟩
    have := h m hm
    rw [decide_eq_true e] at this
    cases this
theorem cal__law_due (T : Txt K mg CM CH CV LP) (h : HasDef K mg "_law_due" s__law_due ["_law_dawns"]) : C8.Cal P w K mg base 1 "_law_due" sp_due [] := by
  refine mkCal h sc__law_due (fun vs H Q E hh => ?_) (fun fa cdv Ar outer s H vs Q E hr hh => ?_)
  · obtain ⟨b, acc, B, n, rfl, _⟩ := hh
    rfl
  · obtain ⟨b, acc, B, n, rfl, hb, him, hn, hB, q⟩ := hh
    have hu65 : (Ar.deeper (envOfC "_law_due" (C8.fnScope s__law_due) s.heap.objs.size fa cdv)).units + 65 < cLine := by have := hr.un; omega
    refine ⟨_, (pss_cons (ps_for PassesOwn.never rfl (pi_enum rfl T.m_enumerate (pa_cons (pv 0) pa_nil)) (pg_tup rfl (pgs_cons (pg_name (i := 1) sc__law_due.nd rfl (loc_by rfl)) (pgs_cons (pg_name (i := 2) sc__law_due.nd rfl (loc_by rfl)) pgs_nil))) (pss_cons (ps_set (i := 3) sc__law_due.nd rfl (loc_by rfl) (pe_bm PySem.F.plainAttrs_list PySem.F.slot_list_index PySem.F.type_list_index (mt_indexD hu65) (pv 0) (pa_cons (pv 2) pa_nil)))
      (pss_one (ps_if (pt_cmpR op_lt (pv 3) (pv 1) (nomark _)) (pss_one (ps_ret (pe_tup (pa_cons pe_str (pa_cons (pv 3) (pa_cons (pe_op op_sub (pv 1) (pv 3)) pa_nil)))))) pss_nil))))
      (pss_one (ps_ret (pe_tup (pa_cons pe_str pa_nil))))), ?_⟩
    have hal : acc.length = n := by rw [him.length]; simp
    refine ⟨_, rfl, b, acc, rfl, .of hb, ?_⟩
    generalize hR : roundAt B n 0 = R at q
    refine for_it (walk_enum (K := K) (a := b) (xs := acc)) (fun i σ H' => ∃ x1 x2 x3, σ = [some (.ref b), x1, x2, x3] ∧ K0 H H' ∧ R = roundAt B (n - i) i) ⟨none, none, none, rfl, .refl _, hR.symm⟩ ?_ ?_ ?_
    · rintro i σ H' hi ⟨x1, x2, x3, rfl, k, _⟩
      exact .of (k.get0 hb)
    · rintro i v σ H2 H3 hi ⟨x1, x2, x3, rfl, k, er⟩ ⟨T0, x, y, rfl, hT, rfl, hx, hy⟩
      cases hx
      have hy : acc[i]? = some y := hy
      rw [hal] at hi
      have k3 := k.then_new hT (o := .tup [.int (i : Nat), y])
      refine ⟨T0, _, rfl, .of upd_same, rfl, _, _, rfl, _, _, rfl, rfl, ?_⟩
      generalize upd H2 T0 (.tup [.int (i : Nat), y]) = H4 at k3 ⊢
      have hb4 := k3.get0 hb
      have him4 := him.mono k3.tk
      obtain ⟨D, hD, iy⟩ := him4.get hy
      obtain ⟨i', hi', rfl⟩ := map_getQ hD
      rw [range_getElem? hi] at hi'
      cases hi'
      obtain ⟨j, hji, hje, hjm, hcase⟩ := first_of B i
      have hgd : ∀ m, m < n → ((List.range n).map fun k => dBeg (B k))[m]? = some (dBeg (B m)) := fun m hm => by rw [List.getElem?_map, range_getElem? hm]; rfl
      refine ⟨_, rfl, tyL hb4, _, rfl, b, y, dBeg (B i), (List.range n).map fun k => dBeg (B k), j, dBeg (B j), rfl, rfl, .lst (.of hb4) him4.dp, iy.dp, (Lay.lst (n := 4) fun k _ => lay_beg (hB k)).shaped (by decide), (lay_beg (hB i)).shaped (by decide), hgd j (by omega), by rw [eqv_beg, hje]; simp, fun m z' hm hz' => ?_, ?_⟩
      · rw [hgd m (by omega)] at hz'
        cases hz'
        rw [eqv_beg]
        exact decide_eq_false (hjm m hm)
      · have hni : n - i = (n - (i + 1)) + 1 := by omega
        rw [hni, roundAt] at er
        rcases hcase with ⟨hlt, hl⟩ | ⟨rfl, hl⟩
        · rw [hl] at er
          refine st_yes ((ans_lt (val_var rfl) (val_var rfl)).to (decide_eq_true (by omega))) ?_
          refine ⟨_, rfl, _, rfl, _, rfl, _, _, rfl, rfl, by show 3 ≤ sizeLine; decide, fun pt hpt => ?_⟩
          refine q _ pt (k3.then_new hpt) ?_
          rw [er]
          have e2 : ((i : Nat) : Int) - ((j : Nat) : Int) = ((i - j : Nat) : Int) := by omega
          have fin : Im (upd H4 pt (.tup [.str "round", .int ((j : Nat) : Int), .int (((i : Nat) : Int) - ((j : Nat) : Int))])) (.ref pt) (.tuple [.str "round", .int ((j : Nat) : Int), .int (((i : Nat) : Int) - ((j : Nat) : Int))]) := .tup upd_same (.cons (.str _) (.cons (.int _) (.cons (.int _) .nil)))
          show Im _ _ (.tuple [.str "round", .int ((j : Nat) : Int), .int ((i - j : Nat) : Int)])
          rw [← e2]
          exact fin
        · rw [hl] at er
          refine st_no ((ans_lt (n := ((j : Nat) : Int)) (m := ((j : Nat) : Int)) (val_var rfl) (val_var rfl)).to (decide_eq_false (by omega))) ?_
          exact ⟨_, _, _, rfl, k3, er⟩
    · rintro σ H2 ⟨x1, x2, x3, rfl, k, er⟩
      rw [hal, Nat.sub_self] at er
      refine ⟨by show 1 ≤ sizeLine; decide, fun pt hpt => ?_⟩
      refine q _ pt (k.then_new hpt) ?_
      rw [er]
      exact .tup upd_same (.cons (.str _) .nil)
end
end WS
set_option Elab.async false
set_option linter.all false
set_option maxRecDepth 100000
set_option maxHeartbeats 4000000
namespace WS
open PySem PySem.Spec PyProof.Rows L2 LamX
/-! ### orders come round -/
theorem ordIt_add_R {t : List Nat} (ok : TurnOk t) : ∀ n, ordIt t (roundOf t + n) = ordIt t n
  | 0 => ok.per
  | n + 1 => by
    show ordStep t (ordIt t (roundOf t + n)) = ordStep t (ordIt t n)
    rw [ordIt_add_R ok n]
theorem ordIt_add_mul {t : List Nat} (ok : TurnOk t) (n : Nat) : ∀ q, ordIt t (roundOf t * q + n) = ordIt t n
  | 0 => by simp
  | q + 1 => by
    rw [show roundOf t * (q + 1) + n = roundOf t + (roundOf t * q + n) by rw [Nat.mul_succ]; omega, ordIt_add_R ok, ordIt_add_mul ok n q]
theorem ordIt_mod {t : List Nat} (ok : TurnOk t) (n : Nat) : ordIt t (n % roundOf t) = ordIt t n := by
  conv => rhs; rw [← Nat.div_add_mod n (roundOf t)]
  rw [ordIt_add_mul ok]
theorem ordIt_shift {t : List Nat} {a b : Nat} (h : ordIt t a = ordIt t b) : ∀ x, ordIt t (a + x) = ordIt t (b + x)
  | 0 => h
  | x + 1 => by
    show ordStep t (ordIt t (a + x)) = ordStep t (ordIt t (b + x))
    rw [ordIt_shift h x]
theorem ord_div {t : List Nat} (ok : TurnOk t) {a d : Nat} (h : ordIt t a = ordIt t (a + d)) : d % roundOf t = 0 := by
  have rp := ok.rpos
  have h2 := ordIt_shift h (roundOf t * a - a)
  have hle : a ≤ roundOf t * a := Nat.le_mul_of_pos_left a rp
  rw [show a + (roundOf t * a - a) = roundOf t * a + 0 by omega, show a + d + (roundOf t * a - a) = roundOf t * a + d by omega, ordIt_add_mul ok, ordIt_add_mul ok, ← ordIt_mod ok d] at h2
  by_cases z : d % roundOf t = 0
  · exact z
  · exact absurd h2.symm (ok.min _ (by omega) (Nat.mod_lt _ rp))
theorem bk_dawn {S : Ship} (ok : ShipOk S) (k : Nat) : bkS S k = dawn S k := by
  unfold bkS dawn ordAt
  rw [ordIt_mod ok.tok]
/-! ### the same stations, the same rows -/
def EqL (st st' : List (Str × Str)) : Prop := ∀ k, lookS st k = lookS st' k
theorem lookS_put (st : List (Str × Str)) (k v x : Str) : lookS (putS st k v) x = if x = k then some v else lookS st x := by
  have h := valV_put (dkPS st) (Sum.inr k) (Sum.inr x) (V.str v)
  rw [dkPS_put, valV_dkPS, valV_dkPS] at h
  by_cases e : x = k
  · subst e
    rw [if_pos rfl] at h ⊢
    cases hl : lookS (putS st x v) x with
    | none => rw [hl] at h; cases h
    | some y => rw [hl] at h; cases h; rfl
  · rw [if_neg (fun z => e (Sum.inr.inj z))] at h
    rw [if_neg e]
    cases hl : lookS (putS st k v) x with
    | none =>
      rw [hl] at h
      cases hm : lookS st x with
      | none => rfl
      | some y => rw [hm] at h; cases h
    | some y =>
      rw [hl] at h
      cases hm : lookS st x with
      | none => rw [hm] at h; cases h
      | some z => rw [hm] at h; cases h; rfl
theorem EqL.merge : ∀ (more : List (Str × Str)) {st st' : List (Str × Str)}, EqL st st' → EqL (mergeS st more) (mergeS st' more)
  | [], _, _, h => h
  | q :: more, st, st', h => EqL.merge more (st := putS st q.1 q.2) (st' := putS st' q.1 q.2) fun k => by
    rw [lookS_put, lookS_put, h k]
theorem lookS_perm {ps qs : List (Str × Str)} (hn : (ps.map (·.1)).Nodup) (hp : ps.Perm qs) : EqL ps qs := fun k => by
  have hn2 : (qs.map (·.1)).Nodup := (hp.map _).nodup_iff.mp hn
  cases h : lookS ps k with
  | some v =>
    unfold lookS at h
    obtain ⟨q, hq, rfl⟩ := Option.map_eq_some_iff.mp h
    have hk : q.1 = k := by simpa using List.find?_some hq
    have hm := hp.mem_iff.mp (List.mem_of_find?_eq_some hq)
    rw [lookS_mem hn2 (k := k) (v := q.2) (by rw [← hk]; exact hm)]
  | none =>
    unfold lookS at h
    rw [Option.map_eq_none_iff, List.find?_eq_none] at h
    symm
    unfold lookS
    rw [Option.map_eq_none_iff, List.find?_eq_none]
    intro x hx
    exact h x (hp.mem_iff.mpr hx)
theorem EqL.of_sort {st st' : List (Str × Str)} (hn : (st.map (·.1)).Nodup) (h : sortPS st = sortPS st') : EqL st st' :=
  lookS_perm hn ((sortPS_perm st).symm.trans (h ▸ sortPS_perm st'))
theorem keeper_shift {S : Ship} (ok : ShipOk S) (n : Nat) {d : Nat} (hd : d % roundOf S.turn = 0) : keeperOf S.day S.turn (n + nb S * d) = keeperOf S.day S.turn n ∧ watchOf S.day ((n + nb S * d : Nat) : Int) = watchOf S.day n := by
  have enb := nb_eq ok
  have d0 := ok.d0
  have e1 : ((n + nb S * d : Nat) : Int) = (n : Int) + S.day.sum * (d : Int) := by rw [← enb]; push_cast; rfl
  have hw : watchOf S.day ((n + nb S * d : Nat) : Int) = watchOf S.day n := by
    unfold watchOf
    rw [e1, Int.add_mul_emod_self_left]
  refine ⟨?_, hw⟩
  unfold keeperOf keptBy
  rw [hw]
  have e2 : ((n + nb S * d : Nat) : Int) / S.day.sum = (n : Int) / S.day.sum + d := by
    rw [e1, Int.add_mul_ediv_left _ _ (by omega)]
  have hq : 0 ≤ (n : Int) / S.day.sum := Int.ediv_nonneg (by omega) (by omega)
  have e3 : (((n + nb S * d : Nat) : Int) / S.day.sum).toNat = ((n : Int) / S.day.sum).toNat + d := by rw [e2]; omega
  rw [e3]
  unfold ordAt
  rw [Nat.add_mod, hd, Nat.add_zero, Nat.mod_mod]
theorem there_shift {S : Ship} (ok : ShipOk S) {n d : Nat} (hd : d % roundOf S.turn = 0) {st st' : List (Str × Str)} (h : EqL st st') : thereOf S (n + nb S * d) st' = thereOf S n st := by
  obtain ⟨h1, h2⟩ := keeper_shift ok n hd
  have e1 : handsOf S (n + nb S * d) = handsOf S n := by unfold handsOf; rw [h1]
  have e2 : lotOf S (n + nb S * d) = lotOf S n := by unfold lotOf; rw [h2]
  have e3 : stoodOf S (n + nb S * d) st' = stoodOf S n st := by
    unfold stoodOf
    rw [e1]
    exact List.map_congr_left fun x _ => (h x.name).symm
  unfold thereOf
  rw [e1, e2, e3]
theorem rows_again {S : Ship} (ok : ShipOk S) {a d : Nat} (hd : d % roundOf S.turn = 0) (h : sortPS (stAt S a) = sortPS (stAt S (a + nb S * d))) : ∀ i, EqL (stAt S (a + i)) (stAt S (a + i + nb S * d))
  | 0 => EqL.of_sort (stAt_ok S a).nd h
  | i + 1 => by
    have ih := rows_again ok hd h i
    have e : a + (i + 1) + nb S * d = (a + i + nb S * d) + 1 := by omega
    rw [e]
    show EqL (stNext S (a + i) (stAt S (a + i))) (stNext S (a + i + nb S * d) (stAt S (a + i + nb S * d)))
    unfold stNext
    rw [there_shift ok hd ih]
    exact EqL.merge _ ih
theorem row_again {S : Ship} (ok : ShipOk S) {a d : Nat} (hd : d % roundOf S.turn = 0) (h : sortPS (stAt S a) = sortPS (stAt S (a + nb S * d))) (i : Nat) : rowAt S (a + i + nb S * d) = rowAt S (a + i) := by
  unfold rowAt rowOf
  rw [there_shift ok hd (rows_again ok hd h i)]
/-! ### what the first that comes again tells -/
theorem roundAt_some {B : Nat → BK} : ∀ {f i j d : Nat}, roundAt B f i = some (j, d) → 0 < d ∧ j + d < i + f ∧ B j = B (j + d)
  | 0, _, _, _, h => by cases h
  | f + 1, i, j, d, h => by
    rw [roundAt] at h
    cases hl : lookB B i with
    | some j' =>
      rw [hl] at h
      cases h
      unfold lookB at hl
      rw [List.find?_range_eq_some] at hl
      obtain ⟨h1, h2, _⟩ := hl
      have h2 := List.mem_range.mp h2
      have h1 := of_decide_eq_true h1
      exact ⟨by omega, by omega, by rw [h1]; congr 1; omega⟩
    | none =>
      rw [hl] at h
      obtain ⟨h1, h2, h3⟩ := roundAt_some h
      exact ⟨h1, by omega, h3⟩
theorem roundAt_congr {B C : Nat → BK} (h : ∀ k, B k = C k) : B = C := funext h
end WS
set_option Elab.async false
set_option linter.all false
set_option maxRecDepth 100000
set_option maxHeartbeats 4000000
namespace WS
open PySem PySem.Spec PyProof.Rows L2 LamX
theorem cut_to (xs : List V) (a : Nat) : cutV xs (some (a : Int)) none = xs.drop (min a xs.length) := by
  unfold cutV
  rw [HT.sIx_nat]
  show (xs.drop _).take (xs.length - min a xs.length) = _
  rw [List.take_of_length_le (by rw [List.length_drop]; omega)]
section
variable {P : Program} {w : World} {K : PySem.W.Frag} {mg : Str → Option Value} {base : Heap} {CM CH CV LP : Addr}
/-! ### _law_again -/
def sp_again : Sp := fun vs H Q _ => ∃ (rw_ : Addr) (S : Ship) (m j d : Nat), vs = [.ref rw_, .int (nb S : Nat), .int (j : Nat), .int (d : Nat)] ∧ ShipW S ∧ Im H (.ref rw_) (dRows S (nb S * m)) ∧ m ≤ 10 ∧ nb S ≤ 60 ∧ j + d ≤ m ∧
  (∀ i, rowAt S (nb S * j + i + nb S * d) = rowAt S (nb S * j + i)) ∧ ∀ (H' : Hp), K0 H H' → Q (.bl true) H'
abbrev n__law_again : List Str := ["_law_rows", "_law_bells", "_law_first", "_law_days", "_law_end"]
theorem sc__law_again : FnScope n__law_again ["_law_rows", "_law_bells", "_law_first", "_law_days"] (C8.fnScope s__law_again) := ⟨rfl, rfl, rfl, by decide +kernel, rfl, by decide +kernel, by decide +kernel⟩
theorem cal__law_again (T : Txt K mg CM CH CV LP) (h : HasDef K mg "_law_again" s__law_again ["_law_rows", "_law_bells", "_law_first", "_law_days"]) : C8.Cal P w K mg base 1 "_law_again" sp_again [] := by
  refine mkCal h sc__law_again (fun vs H Q E hh => ?_) (fun fa cdv Ar outer s H vs Q E hr hh => ?_)
  · obtain ⟨rw_, S, m, j, d, rfl, _⟩ := hh
    rfl
  · obtain ⟨rw_, S, m, j, d, rfl, W, ir, hm, n60, hjd, hrow, q⟩ := hh
    have hu64 := hu64_of hr
    refine ⟨_, (pss_cons (ps_set (i := 4) sc__law_again.nd rfl (loc_by rfl) (pe_op op_sub (pe_callB (call_lenK (K := K) rfl) (by rfl) T.m_len (by decide +kernel) (pa_cons (pv 0) pa_nil)) (pe_op op_mul (pv 1) (pv 3))))
      (pss_one (ps_ret (pe_cmpR (op_eqD hu64) (pe_slice (sl_tupK (K := K) rfl) (pv 0) (po_some (pe_op op_mul (pv 1) (pv 2))) (po_some (pv 4))) (pe_slice (sl_tupK (K := K) rfl) (pv 0) (po_some (pe_op op_mul (pv 1) (pe_op op_add (pv 2) (pv 3)))) po_none) (nomark _))))), ?_⟩
    obtain ⟨xr, xs, er, hrw, irw⟩ := ir.tup_inv
    cases er
    have hxl : xs.length = nb S * m := by rw [irw.length]; simp
    have e1 : nb S * (j + d) ≤ nb S * m := Nat.mul_le_mul_left _ hjd
    have e2 : nb S * (j + d) = nb S * j + nb S * d := Nat.mul_add _ _ _
    have ed : ((nb S : Nat) : Int) * ((d : Nat) : Int) = ((nb S * d : Nat) : Int) := by push_cast; rfl
    have ej : ((nb S : Nat) : Int) * ((j : Nat) : Int) = ((nb S * j : Nat) : Int) := by push_cast; rfl
    have ejd : ((nb S : Nat) : Int) * (((j : Nat) : Int) + ((d : Nat) : Int)) = ((nb S * (j + d) : Nat) : Int) := by push_cast; rfl
    have eend : ((xs.length : Nat) : Int) - ((nb S : Nat) : Int) * ((d : Nat) : Int) = ((xs.length - nb S * d : Nat) : Int) := by rw [ed]; omega
    refine ⟨_, rfl, rw_, _, rfl, .inr (.of hrw), _, rfl, _, rfl, _, _, rfl, rfl, .inl ⟨by omega, by omega⟩, _, _, rfl, rfl, ?_⟩
    refine ⟨_, rfl, _, rfl, _, rfl, _, _, rfl, rfl, .inl ⟨by omega, by omega⟩, _, rfl, _, rfl, _, rfl, ?_⟩
    refine slA hrw fun H1 c1 k1 hc1 => ?_
    refine ⟨_, rfl, _, rfl, _, rfl, _, rfl, _, _, rfl, rfl, _, _, rfl, rfl, .inl ⟨by omega, by omega⟩, _, rfl, ?_⟩
    unfold tNoPart
    refine slA (k1.tup hrw) fun H2 c2 k2 hc2 => ?_
    rw [eend, ej, cut_nat] at hc1
    rw [ejd, cut_to] at hc2
    have hc1 := k2.tup hc1
    have irw2 := irw.mono (k1.trans k2).tk
    have i1 := (irw2.drop (min (nb S * j) xs.length)).take (min (xs.length - nb S * d) xs.length - min (nb S * j) xs.length)
    have i2 := irw2.drop (min (nb S * (j + d)) xs.length)
    have eds : ((((List.range (nb S * m)).map fun i => dRow (rowAt S i)).drop (min (nb S * j) xs.length)).take (min (xs.length - nb S * d) xs.length - min (nb S * j) xs.length)) = (((List.range (nb S * m)).map fun i => dRow (rowAt S i)).drop (min (nb S * (j + d)) xs.length)) := by
      apply List.ext_getElem?
      intro i
      rw [List.getElem?_take, List.getElem?_drop, List.getElem?_drop, List.getElem?_map, List.getElem?_map, hxl]
      by_cases hi : i < nb S * m - nb S * (j + d)
      · rw [if_pos (by omega), range_getElem? (by omega), range_getElem? (by omega)]
        have := hrow i
        rw [show min (nb S * j) (nb S * m) + i = nb S * j + i by omega, show min (nb S * (j + d)) (nb S * m) + i = nb S * j + i + nb S * d by omega]
        show some (dRow (rowAt S (nb S * j + i))) = some (dRow (rowAt S (nb S * j + i + nb S * d)))
        rw [this]
      · rw [if_neg (by omega), List.getElem?_eq_none (by rw [List.length_range]; omega)]
        rfl
    have hsh : SeqAt.shaped (.tuple (((List.range (nb S * m)).map fun i => dRow (rowAt S i)).drop (min (nb S * (j + d)) xs.length))) = true := by
      rw [← List.map_drop]
      exact (Lay.tup (n := 3) fun i _ => lay_row (rowAt_ok W i)).shaped (by decide)
    rw [eds] at i1
    refine ⟨_, _, .tup (.of hc1) i1.dp, .tup (.of hc2) i2.dp, hsh, hsh, ?_⟩
    rw [SeqAt.eqv_refl _ (SeqAt.canLay_of_shaped hsh)]
    exact q _ (k1.trans k2)
end
end WS
set_option Elab.async false
set_option linter.all false
set_option maxRecDepth 100000
set_option maxHeartbeats 4000000
namespace WS
open PySem PySem.Spec PyProof.Rows L2 LamX
theorem HandAt.keepN {H H' : Hp} {hd : Addr} {n : Nat} (h : HandAt H hd n) (k : KpN (fun _ => False) H H') : HandAt H' hd n := by
  obtain ⟨a, b, c, h1, h2⟩ := h
  exact ⟨a, b, c, k.get h1 (fun z => z) (fun _ z => by cases z), h2⟩
theorem tab_hand {H H' : Hp} {P hd : Addr} {q : Str} {n : Nat} (t : TabS H P q) (h : HandAt H hd n) (k : Kp (fun b => b = hd) H H') : TabS H' P q := by
  obtain ⟨xs, hx⟩ := h.at_
  exact tab_lst t k hx
theorem lay_round (R : Option (Nat × Nat)) : Lay 1 (dRound R) := by
  cases R with
  | none => exact Lay.tup1 (n := 0) (.strS ok_open)
  | some z =>
    obtain ⟨j, d⟩ := z
    refine ⟨?_, ?_⟩
    · show (PyData.strOk "round" && (true && (true && true))) = true
      rw [ok_round.str]; rfl
    · show max 0 (max 0 (max 0 0)) + 1 ≤ 1
      decide
theorem eqv_self {d : PyData} {n : Nat} (h : Lay n d) : PyData.eqv d d = true := SeqAt.eqv_refl _ h.c
section
variable {P : Program} {w : World} {K : PySem.W.Frag} {mg : Str → Option Value} {base : Heap} {CM CH CV LP : Addr}
def sp_law (PT : Addr) : Sp := fun vs H Q _ => ∃ (a : Addr) (ns : List Int), vs = [.ref a] ∧ SqL K H a (ns.map V.int) ∧ ns.length ≤ 63 ∧ TabS H PT QT ∧ ∀ H', Q (.bl true) H'
abbrev n_law : List Str := ["_law_script", "_law_k", "_law_hand_here", "_law_far", "_law_ship_here", "_law_bells", "_law_most", "_law_fewer", "_law_rows", "_law_dawns", "_law_found", "_law_spot", "_law_word", "_law_first", "_law_days"]
theorem sc_law : FnScope n_law ["_law_script"] (C8.fnScope s_law) := ⟨rfl, rfl, rfl, by decide +kernel, rfl, by decide +kernel, by decide +kernel⟩
theorem body_law (T : Txt K mg CM CH CV LP) {PT : Addr} (c__law_hand : C8.Cal P w K mg base 1 "_law_hand" (sp_hand (K := K)) []) (c__law_take : C8.Cal P w K mg base 1 "_law_take" sp_take []) (c__law_ship : C8.Cal P w K mg base 5 "_law_ship" sp_ship [])
    (c_posted : C8.Cal P w K mg base 9 "posted" (spPosted PT) []) (c__law_begins : C8.Cal P w K mg base 1 "_law_begins" sp_begins []) (c_comes_round : C8.Cal P w K mg base 11 "comes_round" (spComesRound PT) []) (c__law_due : C8.Cal P w K mg base 1 "_law_due" sp_due [])
    (c_stations : C8.Cal P w K mg base 10 "stations" (spStations PT) []) (c_round_of : C8.Cal P w K mg base 3 "round_of" spRoundOf []) (c__law_again : C8.Cal P w K mg base 1 "_law_again" sp_again [])
    (f : Addr) (cdv : Value) (A : Around) (outer : List Env) (s : Shared) (H : Hp) (vs : List V) (Q : VK) (E : XK) (hr : Room 11 (A.deeper (envOfC "law" (C8.fnScope s_law) s.heap.objs.size f cdv))) (hh : sp_law (K := K) PT vs H Q E) :
    ∃ t, PSs (cxOf C8.CX0 P w K mg base n_law "law" (C8.fnScope s_law) f cdv A outer s H E).nox (C8.fnBody s_law) t ∧ t { nx := fun _ H' => Q .non H', rt := Q } (start n_law vs) H := by
    obtain ⟨a, ns, rfl, hsq, hl, hT, q⟩ := hh
    have hu64 := hu64_of hr
    refine ⟨_, (pss_cons (ps_for PassesOwn.never rfl (pi_range1 rfl T.m_range (pa_cons pe_int pa_nil)) (pg_name (i := 1) sc_law.nd rfl (loc_by rfl)) (pss_cons (ps_set (i := 2) sc_law.nd rfl (loc_by rfl) (C8.pe_c c__law_hand hr (by decide) rfl (pa_cons (pv 0) (pa_cons (pv 1) pa_nil))))
      (pss_cons (ps_set (i := 3) sc_law.nd rfl (loc_by rfl) (pe_callTy call_int1 (by rfl) T.m_int (by decide +kernel) (pa_cons (pe_cmpR op_eq (C8.pe_c c__law_take hr (by decide) rfl (pa_cons (pv 2) (pa_cons pe_int pa_nil))) pe_int (nomark _)) pa_nil)))
      (pss_cons (ps_set (i := 4) sc_law.nd rfl (loc_by rfl) (C8.pe_c c__law_ship hr (by decide) rfl (pa_cons (pv 2) (pa_cons (pv 3) pa_nil))))
      (pss_cons (ps_set (i := 5) sc_law.nd rfl (loc_by rfl) (pe_callB (cr_sumT rfl) (by rfl) T.m_sum (by decide +kernel) (pa_cons (pe_ix (ix_tupK (K := K) rfl) (pv 4) pe_int (fun _ _ => rfl)) pa_nil)))
      (pss_cons (ps_set (i := 6) sc_law.nd rfl (loc_by rfl) (pe_op op_add pe_int (C8.pe_c c__law_take hr (by decide) rfl (pa_cons (pv 2) (pa_cons (pe_callB (call_min2 rfl) (by rfl) T.m_min (by decide +kernel) (pa_cons pe_int (pa_cons (pe_op op_fdiv pe_int (pv 5)) pa_nil))) pa_nil)))))
      (pss_cons (ps_set (i := 7) sc_law.nd rfl (loc_by rfl) (pe_op op_add pe_int (C8.pe_c c__law_take hr (by decide) rfl (pa_cons (pv 2) (pa_cons (pv 6) pa_nil)))))
      (pss_cons (ps_set (i := 8) sc_law.nd rfl (loc_by rfl) (C8.pe_c c_posted hr (by decide) rfl (pa_cons (pv 4) (pa_cons (pe_tup pa_nil) (pa_cons (pe_op op_mul (pv 5) (pv 6)) pa_nil)))))
      (pss_cons (ps_set (i := 9) sc_law.nd rfl (loc_by rfl) (C8.pe_c c__law_begins hr (by decide) rfl (pa_cons (pv 4) (pa_cons (pv 8) (pa_cons (pv 6) pa_nil)))))
      (pss_cons (ps_set (i := 10) sc_law.nd rfl (loc_by rfl) (C8.pe_c c_comes_round hr (by decide) rfl (pa_cons (pv 4) (pa_cons (pv 6) pa_nil))))
      (pss_cons (ps_if (pt_cmpR (op_neD hu64) (pv 10) (C8.pe_c c__law_due hr (by decide) rfl (pa_cons (pv 9) pa_nil)) (nomark _)) (pss_one (ps_ret pe_bl)) pss_nil)
      (pss_cons (ps_if (pt_cmpR (op_neD hu64) (C8.pe_c c_comes_round hr (by decide) rfl (pa_cons (pv 4) (pa_cons (pv 7) pa_nil))) (C8.pe_c c__law_due hr (by decide) rfl (pa_cons (pe_slice (sl_listK (K := K) rfl) (pv 9) po_none (po_some (pe_op op_add (pv 7) pe_int))) pa_nil)) (nomark _)) (pss_one (ps_ret pe_bl)) pss_nil)
      (pss_cons (ps_set (i := 11) sc_law.nd rfl (loc_by rfl) (C8.pe_c c__law_take hr (by decide) rfl (pa_cons (pv 2) (pa_cons (pe_op op_add (pv 6) pe_int) pa_nil))))
      (pss_cons (ps_if (pt_cmpR (op_neD hu64) (C8.pe_c c_stations hr (by decide) rfl (pa_cons (pv 4) (pa_cons (pe_tup pa_nil) (pa_cons (pe_op op_mul (pv 5) (pv 11)) pa_nil)))) (pe_ix (ix_tupK (K := K) rfl) (pe_ix (ix_listK (K := K) rfl) (pv 9) (pv 11) (fun _ _ => rfl)) pe_int (fun _ _ => rfl)) (nomark _)) (pss_one (ps_ret pe_bl)) pss_nil)
      (pss_one (ps_if (pt_cmpR op_eq (pe_ix (ix_tupK (K := K) rfl) (pv 10) pe_int (fun _ _ => rfl)) pe_str (nomark _)) (pss_cons (ps_asg (pv 10) (pg_tup rfl (pgs_cons (pg_name (i := 12) sc_law.nd rfl (loc_by rfl)) (pgs_cons (pg_name (i := 13) sc_law.nd rfl (loc_by rfl)) (pgs_cons (pg_name (i := 14) sc_law.nd rfl (loc_by rfl)) pgs_nil)))))
      (pss_cons (ps_if (PW.pt (pw_or (pt_not (pt_val (pe_callB call_isi (by rfl) T.m_isinstance (by decide +kernel) (pa_cons (pv 13) (pa_cons (pe_bltn (v := .ty "int") (by rfl) T.m_int (by decide +kernel) rfl) pa_nil))))) (pw_or (pt_val (pe_callB call_isi (by rfl) T.m_isinstance (by decide +kernel) (pa_cons (pv 13) (pa_cons (pe_bltn (v := .ty "bool") (by rfl) T.m_bool (by decide +kernel) rfl) pa_nil)))) (pw_or1 (pt_val (pe_callB call_isi (by rfl) T.m_isinstance (by decide +kernel) (pa_cons (pv 14) (pa_cons (pe_bltn (v := .ty "bool") (by rfl) T.m_bool (by decide +kernel) rfl) pa_nil)))))))) (pss_one (ps_ret pe_bl)) pss_nil)
      (pss_one (ps_if (PW.pt (pw_or (pt_cmpR op_ne (pe_op op_mod (pv 14) (C8.pe_c c_round_of hr (by decide) rfl (pa_cons (pe_ix (ix_tupK (K := K) rfl) (pv 4) pe_int (fun _ _ => rfl)) pa_nil))) pe_int (nomark _)) (pw_or1 (pt_not (pt_val (C8.pe_c c__law_again hr (by decide) rfl (pa_cons (pv 8) (pa_cons (pv 5) (pa_cons (pv 13) (pa_cons (pv 14) pa_nil)))))))))) (pss_one (ps_ret pe_bl)) pss_nil)))) pss_nil))))))))))))))))
      (pss_one (ps_ret pe_bl))), ?_⟩
    refine ⟨_, rfl, by decide, by decide, ?_⟩
    refine for_range (lo := 0) (n := 1) (fun i σ H' => i = 0 → σ = start n_law [.ref a] ∧ H' = H) (fun _ => ⟨rfl, rfl⟩) ?_ (fun σ H' _ => q H')
    rintro i σ H' hi hσ
    obtain rfl : i = 0 := by omega
    obtain ⟨rfl, rfl⟩ := hσ rfl
    have ret : ∀ (σ : L2.St) (H'' : Hp), 0 + 1 = 0 → σ = start n_law [.ref a] ∧ H'' = H' := fun _ _ z => by cases z
    -- hand, far, ship
    refine ⟨_, rfl, _, rfl, a, ns, rfl, hsq, hl, fun H1 hd k1 hhd ha1 => ?_⟩
    have hT1 := tab_k0 hT k1
    refine ⟨_, rfl, hd, 3, 0, rfl, ha1, by omega, by omega, by omega, fun H2 r k2 ha2 r0 r1 => ?_⟩
    have hT2 := tab_hand hT1 ha1 k2
    refine ⟨rfl, .inr ⟨_, rfl, ?_⟩⟩
    obtain ⟨fn, hfn, hf1⟩ : ∃ fn : Nat, (if (decide (V.int r = V.int 2)) = true then (1 : Int) else 0) = ((fn : Nat) : Int) ∧ fn ≤ 1 := by
      by_cases e : decide (V.int r = V.int 2) = true
      · exact ⟨1, by rw [if_pos e]; rfl, by omega⟩
      · exact ⟨0, by rw [if_neg e]; rfl, by omega⟩
    rw [hfn]
    refine ⟨_, rfl, _, rfl, hd, fn, 0 + 1, rfl, hf1, ha2, by omega, fun H3 sh S k3 is W ha3 => ?_⟩
    have hT3 := tab_hand hT2 ha2 k3
    have ok := W.ok
    have d0 := ok.d0
    have d60 := ok.d60
    have enb := nb_eq ok
    obtain ⟨sh', a0, a1, a2, a3, a4, e, sa3⟩ := ship_at is
    cases e
    -- bells, most, fewer
    refine ⟨_, rfl, sh, _, _, _, rfl, rfl, .of sa3.s, atI_nat (j := 0) rfl, a0, S.day, rfl, .of sa3.d, ?_⟩
    have hdv1 : 1 ≤ (60 : Int) / S.day.sum := by
      have : (60 : Int) / S.day.sum * S.day.sum + 60 % S.day.sum = 60 := Int.ediv_mul_add_emod 60 S.day.sum
      have h2 : 60 % S.day.sum < S.day.sum := Int.emod_lt_of_pos _ d0
      by_cases z : 1 ≤ (60 : Int) / S.day.sum
      · exact z
      · have h3 : (60 : Int) / S.day.sum ≥ 0 := Int.ediv_nonneg (by omega) (by omega)
        have h4 : (60 : Int) / S.day.sum = 0 := by omega
        rw [h4] at this
        omega
    have hmin1 : 1 ≤ (if (60 : Int) / S.day.sum < 10 then (60 : Int) / S.day.sum else 10) ∧ (if (60 : Int) / S.day.sum < 10 then (60 : Int) / S.day.sum else 10) ≤ 10 := by split <;> omega
    refine ⟨_, rfl, _, rfl, _, _, rfl, rfl, ⟨by omega, by omega⟩, _, _, rfl, hd, _, 1001, rfl, ha3.mono (by omega), by omega, hmin1.1, by have := hmin1.2; omega, fun H4 r4 k4 ha4 r40 r41 => ?_⟩
    have hT4 := tab_hand hT3 ha3 k4
    obtain ⟨m, em⟩ := Int.eq_ofNat_of_zero_le (show 0 ≤ 1 + r4 by omega)
    have hm1 : 1 ≤ m := by omega
    have hm10 : m ≤ 10 := by have := hmin1.2; omega
    refine ⟨_, _, rfl, rfl, ?_⟩
    show tSeq _ _ _ _ H4
    rw [show ((fun i j => V.int (i + j)) (1 : Int) r4) = V.int ((m : Nat) : Int) by show V.int (1 + r4) = _; rw [em]]
    refine ⟨_, rfl, _, rfl, hd, (m : Nat), 1002, rfl, ha4, by omega, by omega, by omega, fun H5 r5 k5 ha5 r50 r51 => ?_⟩
    have hT5 := tab_hand hT4 ha4 k5
    obtain ⟨mf, emf⟩ := Int.eq_ofNat_of_zero_le (show 0 ≤ 1 + r5 by omega)
    have hmf : mf ≤ m := by omega
    refine ⟨_, _, rfl, rfl, ?_⟩
    show tSeq _ _ _ _ H5
    rw [show ((fun i j => V.int (i + j)) (1 : Int) r5) = V.int ((mf : Nat) : Int) by show V.int (1 + r5) = _; rw [emf]]
    have nb60 : nb S ≤ 60 := by omega
    have hnm : nb S * m ≤ 600 := Nat.le_trans (Nat.mul_le_mul nb60 hm10) (by omega)
    have sa5 := sa3.mono (k4.tk.trans k5.tk)
    -- rows
    refine ⟨_, rfl, Nat.zero_le _, fun pg hpg => ?_⟩
    have kpg := Kp.new (S := fun _ => False) hpg (o := .tup [])
    refine ⟨_, rfl, _, rfl, _, _, rfl, rfl, .inl ⟨by omega, by omega⟩, sh, pg, S, nb S * m, by rw [← enb]; push_cast; rfl, ⟨⟨a0, a1, a2, a3, a4, sa5.mono kpg.tk⟩, ok, upd_same, tab_new hT5 hpg⟩, by omega, fun H6 rw_ k6' hT6 ir6 => ?_⟩
    have k6 : KpN (fun _ => False) H5 H6 := KpN.trans kpg.n k6'
    have ha6 := ha5.keepN k6
    have sa6 := sa5.mono k6.tk
    -- dawns
    refine ⟨_, rfl, _, rfl, _, rfl, sh, rw_, S, m, rfl, ⟨a0, a1, a2, a3, a4, sa6⟩, ok, ir6, hm10, fun H7 bd acc k7 hbd him => ?_⟩
    have hT7 := tab_k0 hT6 k7
    have ha7 := ha6.keep k7 (fun z => z)
    have sa7 := sa6.mono k7.tk
    have ir7 := ir6.mono k7.tk
    -- found
    have ebk : bkS S = dawn S := funext (bk_dawn ok)
    refine ⟨_, rfl, _, rfl, sh, S, m, rfl, ⟨⟨a0, a1, a2, a3, a4, sa7⟩, ok, hT7⟩, hm10, fun H8 pf k8 hT8 if8 => ?_⟩
    rw [ebk] at if8
    have ha8 := ha7.keepN k8
    have sa8 := sa7.mono k8.tk
    have ir8 := ir7.mono k8.tk
    have hbd8 : H8 bd = some (.lst acc) := k8.get hbd (fun z => z) (fun _ z => by cases z)
    have him8 := him.mono k8.tk
    have hps : ∀ k, PsOk (dawn S k).2 := fun k => sort_ps (stAt_ps W _)
    -- the first test
    refine ⟨_, rfl, _, rfl, bd, acc, dawn S, m + 1, rfl, hbd8, him8, by omega, hps, fun H9 p9 k9 i9 => ?_⟩
    refine ⟨_, _, (if8.mono k9.tk).dp, i9.dp, (lay_round _).shaped (by decide), (lay_round _).shaped (by decide), _, rfl, ?_⟩
    rw [eqv_self (lay_round _)]
    refine if_false_of rfl ?_
    have hT9 := tab_k0 hT8 k9
    have ha9 := ha8.keep k9 (fun z => z)
    have sa9 := sa8.mono k9.tk
    have ir9 := ir8.mono k9.tk
    have if9 := if8.mono k9.tk
    have hbd9 := k9.get0 hbd8
    have him9 := him8.mono k9.tk
    -- fewer
    refine ⟨_, rfl, _, rfl, sh, S, mf, rfl, ⟨⟨a0, a1, a2, a3, a4, sa9⟩, ok, hT9⟩, by omega, fun H10 pf2 k10 hT10 if10 => ?_⟩
    rw [ebk] at if10
    have hbd10 : H10 bd = some (.lst acc) := k10.get hbd9 (fun z => z) (fun _ z => by cases z)
    have him10 := him9.mono k10.tk
    refine ⟨_, rfl, _, rfl, _, _, rfl, rfl, _, rfl, bd, acc, rfl, .of hbd10, fun pc hpc => ?_⟩
    have k11 : K0 H10 (upd H10 pc (.lst (cutV acc none (some (((mf : Nat) : Int) + 1))))) := .new hpc
    have ecut : cutV acc none (some (((mf : Nat) : Int) + 1)) = acc.take (mf + 1) := by
      unfold cutV
      rw [show ((mf : Nat) : Int) + 1 = ((mf + 1 : Nat) : Int) by push_cast; rfl, HT.sIx_nat]
      show (acc.drop 0).take (min (mf + 1) acc.length - 0) = _
      rw [List.drop_zero, Nat.sub_zero]
      by_cases z : mf + 1 ≤ acc.length
      · rw [Nat.min_eq_left z]
      · rw [Nat.min_eq_right (by omega), List.take_of_length_le (Nat.le_refl _), List.take_of_length_le (by omega)]
    have him11 : ImAll (upd H10 pc (.lst (cutV acc none (some (((mf : Nat) : Int) + 1))))) (acc.take (mf + 1)) ((List.range (mf + 1)).map fun k => dBeg (dawn S k)) := by
      have := (him10.mono k11.tk).take (mf + 1)
      rw [← List.map_take, List.take_range, show min (mf + 1) (m + 1) = mf + 1 by omega] at this
      exact this
    refine ⟨pc, acc.take (mf + 1), dawn S, mf + 1, rfl, by rw [← ecut]; exact upd_same, him11, by omega, hps, fun H12 p12 k12 i12 => ?_⟩
    refine ⟨_, _, (if10.mono (k11.tk.trans k12.tk)).dp, i12.dp, (lay_round _).shaped (by decide), (lay_round _).shaped (by decide), _, rfl, ?_⟩
    rw [eqv_self (lay_round _)]
    refine if_false_of rfl ?_
    have k912 : KpN (fun _ => False) H9 H12 := (KpN.trans k10 k11.n).trans k12.n
    have hT12 := tab_k0 (tab_k0 hT10 k11) k12
    have ha12 := ha9.keepN k912
    have sa12 := sa9.mono k912.tk
    have ir12 := ir9.mono k912.tk
    have if12 := if9.mono k912.tk
    have hbd12 : H12 bd = some (.lst acc) := k912.get hbd9 (fun z => z) (fun _ z => by cases z)
    have him12 := him9.mono k912.tk
    -- spot
    refine ⟨_, rfl, _, rfl, _, _, rfl, rfl, hd, ((m : Nat) : Int) + 1, 1003, rfl, ha12, by omega, by omega, by omega, fun H13 r13 k13 ha13 s0 s1 => ?_⟩
    obtain ⟨sp, esp⟩ := Int.eq_ofNat_of_zero_le s0
    subst esp
    have hT13 := tab_hand hT12 ha12 k13
    have sa13 := sa12.mono k13.tk
    have ir13 := ir12.mono k13.tk
    have if13 := if12.mono k13.tk
    have him13 := him12.mono k13.tk
    have hbd13 : H13 bd = some (.lst acc) := k13.get hbd12 (fun z => by
      obtain ⟨v0, hv0, iv0⟩ := getAll him12 (i := 0) (a := 0) (range_getElem? (by omega))
      obtain ⟨av, rfl⟩ := imref iv0
      obtain ⟨x1, x2, x3, hx, _⟩ := ha12
      rw [← z, hbd12] at hx
      injection hx with hx
      injection hx with hx
      rw [hx] at hv0
      simp at hv0)
    have hspm : sp ≤ m := by omega
    have hns : nb S * sp ≤ nb S * m := Nat.mul_le_mul_left _ hspm
    refine ⟨_, rfl, Nat.zero_le _, fun pg2 hpg2 => ?_⟩
    have kpg2 := Kp.new (S := fun _ => False) hpg2 (o := .tup [])
    refine ⟨_, rfl, _, rfl, _, _, rfl, rfl, .inl ⟨by omega, by omega⟩, sh, pg2, S, nb S * sp, by rw [← enb]; push_cast; rfl, ⟨⟨a0, a1, a2, a3, a4, sa13.mono kpg2.tk⟩, ok, upd_same, tab_new hT13 hpg2⟩, by omega, fun H14 ps k14' hT14 i14 => ?_⟩
    have k14 : KpN (fun _ => False) H13 H14 := KpN.trans kpg2.n k14'
    have hbd14 : H14 bd = some (.lst acc) := k14.get hbd13 (fun z => z) (fun _ z => by cases z)
    have him14 := him13.mono k14.tk
    obtain ⟨vb, hvb, ivb⟩ := getAll him14 (i := sp) (a := sp) (range_getElem? (by omega))
    obtain ⟨ab, xb, rfl, hab, ixb⟩ := ivb.tup_inv
    obtain ⟨b1, rb, rfl, ib1, ixb⟩ := ixb.cons_inv
    obtain ⟨b2, rb, rfl, ib2, ixb⟩ := ixb.cons_inv
    refine ⟨_, rfl, _, rfl, bd, acc, _, _, rfl, rfl, .of hbd14, atI_nat hvb, ab, _, _, _, rfl, rfl, .of hab, atI_nat (j := 1) rfl, ?_⟩
    have hsh : SeqAt.shaped (dStn (stAt S (nb S * sp))) = true := (lay_ps (sort_ps (stAt_ps W _))).shaped (by decide)
    refine ⟨dStn (stAt S (nb S * sp)), dStn (stAt S (nb S * sp)), i14.dp, ib2.dp, hsh, hsh, _, rfl, ?_⟩
    rw [SeqAt.eqv_refl _ (SeqAt.canLay_of_shaped hsh)]
    refine if_false_of rfl ?_
    have if14 := if13.mono k14.tk
    have sa14 := sa13.mono k14.tk
    have ir14 := ir13.mono k14.tk
    -- the round
    cases hR : roundAt (dawn S) (m + 1) 0 with
    | none =>
      rw [hR] at if14
      obtain ⟨af, xf, e, haf, ixf⟩ := if14.tup_inv
      cases e
      obtain ⟨f1, rf, rfl, if1, ixf⟩ := ixf.cons_inv
      obtain rfl := if1.str_inv
      refine ⟨_, rfl, pf, _, _, _, rfl, rfl, .of haf, atI_nat (j := 0) rfl, rfl, _, rfl, ?_⟩
      refine if_false_of (by decide +kernel) ?_
      exact ret _ _
    | some z =>
      obtain ⟨j, dd⟩ := z
      rw [hR] at if14
      obtain ⟨hd1, hjd, hdawn⟩ := roundAt_some hR
      obtain ⟨af, xf, e, haf, ixf⟩ := if14.tup_inv
      cases e
      obtain ⟨f1, rf, rfl, if1, ixf⟩ := ixf.cons_inv
      obtain ⟨f2, rf, rfl, if2, ixf⟩ := ixf.cons_inv
      obtain ⟨f3, rf, rfl, if3, ixf⟩ := ixf.cons_inv
      obtain rfl := ixf.nil_inv
      obtain rfl := if1.str_inv
      obtain rfl := if2.int_inv
      obtain rfl := if3.int_inv
      refine ⟨_, rfl, pf, _, _, _, rfl, rfl, .of haf, atI_nat (j := 0) rfl, rfl, _, rfl, ?_⟩
      refine if_true_of (by decide +kernel) ?_
      refine ⟨_, rfl, pf, _, rfl, .of haf, rfl, _, _, rfl, _, _, rfl, _, _, rfl, rfl, ?_⟩
      refine ⟨_, rfl, .int (j : Nat), .ty "int", .type "int", .type "int", true, rfl, .ty _, .base (.int _), by rfl, _, rfl, ?_⟩
      refine if_false_of rfl ?_
      refine ⟨_, rfl, .int (j : Nat), .ty "bool", .type "int", .type "bool", false, rfl, .ty _, .base (.int _), by rfl, _, rfl, ?_⟩
      refine if_false_of rfl ?_
      refine ⟨_, rfl, .int (dd : Nat), .ty "bool", .type "int", .type "bool", false, rfl, .ty _, .base (.int _), by rfl, _, rfl, ?_⟩
      refine if_false_of rfl ?_
      -- the round's length
      have hord : ordIt S.turn j = ordIt S.turn (j + dd) := congrArg Prod.fst hdawn
      have hstn : sortPS (stAt S (nb S * j)) = sortPS (stAt S (nb S * (j + dd))) := congrArg Prod.snd hdawn
      have hmod := ord_div ok.tok hord
      refine ⟨_, rfl, _, rfl, sh, _, _, _, rfl, rfl, .of sa14.s, atI_nat (j := 1) rfl, a1, S.turn, rfl, sa14.t, ok.tok, fun H15 k15 => ?_⟩
      have rp := ok.tok.rpos
      have emod : ((dd : Nat) : Int) % ((roundOf S.turn : Nat) : Int) = 0 := by
        have : ((dd % roundOf S.turn : Nat) : Int) = ((dd : Nat) : Int) % ((roundOf S.turn : Nat) : Int) := by push_cast; rfl
        rw [← this, hmod]; rfl
      refine ⟨_, _, rfl, rfl, (by show (0 : Int) < _; omega), rfl, _, rfl, ?_⟩
      refine if_false_of (by rw [show ((fun i j => V.int (i % j)) ((dd : Nat) : Int) ((roundOf S.turn : Nat) : Int)) = V.int 0 by show V.int _ = _; rw [emod]]; rfl) ?_
      refine ⟨_, rfl, _, rfl, _, rfl, _, rfl, rw_, S, m, j, dd, by rw [← enb]; rfl, W, ir14.mono k15.tk, hm10, nb60, by omega, fun i => ?_, fun H16 k16 => ?_⟩
      · refine row_again ok hmod ?_ i
        rw [hstn, Nat.mul_add]
      · refine ⟨_, rfl, ?_⟩
        refine if_false_of rfl ?_
        exact ret _ _
end
end WS
set_option Elab.async false
set_option linter.all false
set_option maxRecDepth 100000
set_option maxHeartbeats 0
namespace WS
open PySem PySem.Spec PyProof.Rows L2 LamX
/-! ### the head: facts by names, the run -/
def d_bells_in : He.DefD := ⟨("bells_in", none), "bells_in", "bells_in", C8.fnArgs s_bells_in, C8.fnBody s_bells_in, C8.fnScope s_bells_in, [], []⟩
def d_watch_at : He.DefD := ⟨("watch_at", none), "watch_at", "watch_at", C8.fnArgs s_watch_at, C8.fnBody s_watch_at, C8.fnScope s_watch_at, [], []⟩
def d_cycle_from : He.DefD := ⟨("cycle_from", none), "cycle_from", "cycle_from", C8.fnArgs s_cycle_from, C8.fnBody s_cycle_from, C8.fnScope s_cycle_from, [], []⟩
def d_cycles : He.DefD := ⟨("cycles", none), "cycles", "cycles", C8.fnArgs s_cycles, C8.fnBody s_cycles, C8.fnScope s_cycles, [], []⟩
def d_divisor : He.DefD := ⟨("divisor", none), "divisor", "divisor", C8.fnArgs s_divisor, C8.fnBody s_divisor, C8.fnScope s_divisor, [], []⟩
def d_round_of : He.DefD := ⟨("round_of", none), "round_of", "round_of", C8.fnArgs s_round_of, C8.fnBody s_round_of, C8.fnScope s_round_of, [], []⟩
def d_order_at : He.DefD := ⟨("order_at", none), "order_at", "order_at", C8.fnArgs s_order_at, C8.fnBody s_order_at, C8.fnScope s_order_at, [], []⟩
def d_kept_by : He.DefD := ⟨("kept_by", none), "kept_by", "kept_by", C8.fnArgs s_kept_by, C8.fnBody s_kept_by, C8.fnScope s_kept_by, [], []⟩
def d_keeper : He.DefD := ⟨("keeper", none), "keeper", "keeper", C8.fnArgs s_keeper, C8.fnBody s_keeper, C8.fnScope s_keeper, [], []⟩
def d_short : He.DefD := ⟨("short", none), "short", "short", C8.fnArgs s_short, C8.fnBody s_short, C8.fnScope s_short, [], []⟩
def d_is_fit : He.DefD := ⟨("is_fit", none), "is_fit", "is_fit", C8.fnArgs s_is_fit, C8.fnBody s_is_fit, C8.fnScope s_is_fit, [], []⟩
def d_lack_price : He.DefD := ⟨("lack_price", none), "lack_price", "lack_price", C8.fnArgs s_lack_price, C8.fnBody s_lack_price, C8.fnScope s_lack_price, [], []⟩
def d_cost_of : He.DefD := ⟨("cost_of", none), "cost_of", "cost_of", C8.fnArgs s_cost_of, C8.fnBody s_cost_of, C8.fnScope s_cost_of, [], []⟩
def d_costs_of : He.DefD := ⟨("costs_of", none), "costs_of", "costs_of", C8.fnArgs s_costs_of, C8.fnBody s_costs_of, C8.fnScope s_costs_of, [], []⟩
def d_Manning_init : He.DefD := ⟨("Manning", some "__init__"), "__init__", "Manning.__init__", C8.fnArgs s_Manning_init, C8.fnBody s_Manning_init, C8.fnScope s_Manning_init, [], []⟩
def d_Manning_fit_places : He.DefD := ⟨("Manning", some "fit_places"), "fit_places", "Manning.fit_places", C8.fnArgs s_Manning_fit_places, C8.fnBody s_Manning_fit_places, C8.fnScope s_Manning_fit_places, [], []⟩
def d_Manning_relax : He.DefD := ⟨("Manning", some "relax"), "relax", "Manning.relax", C8.fnArgs s_Manning_relax, C8.fnBody s_Manning_relax, C8.fnScope s_Manning_relax, [], []⟩
def d_Manning_cheapest : He.DefD := ⟨("Manning", some "cheapest"), "cheapest", "Manning.cheapest", C8.fnArgs s_Manning_cheapest, C8.fnBody s_Manning_cheapest, C8.fnScope s_Manning_cheapest, [], []⟩
def d_Manning_put_along : He.DefD := ⟨("Manning", some "put_along"), "put_along", "Manning.put_along", C8.fnArgs s_Manning_put_along, C8.fnBody s_Manning_put_along, C8.fnScope s_Manning_put_along, [], []⟩
def d_Manning_fill : He.DefD := ⟨("Manning", some "fill"), "fill", "Manning.fill", C8.fnArgs s_Manning_fill, C8.fnBody s_Manning_fill, C8.fnScope s_Manning_fill, [], []⟩
def d_Manning_hand_down : He.DefD := ⟨("Manning", some "hand_down"), "hand_down", "Manning.hand_down", C8.fnArgs s_Manning_hand_down, C8.fnBody s_Manning_hand_down, C8.fnScope s_Manning_hand_down, [], []⟩
def d_Manning_place_down : He.DefD := ⟨("Manning", some "place_down"), "place_down", "Manning.place_down", C8.fnArgs s_Manning_place_down, C8.fnBody s_Manning_place_down, C8.fnScope s_Manning_place_down, [], []⟩
def d_Manning_levelled : He.DefD := ⟨("Manning", some "levelled"), "levelled", "Manning.levelled", C8.fnArgs s_Manning_levelled, C8.fnBody s_Manning_levelled, C8.fnScope s_Manning_levelled, [], []⟩
def d_Manning_paper : He.DefD := ⟨("Manning", some "paper"), "paper", "Manning.paper", C8.fnArgs s_Manning_paper, C8.fnBody s_Manning_paper, C8.fnScope s_Manning_paper, [], []⟩
def d_man : He.DefD := ⟨("man", none), "man", "man", C8.fnArgs s_man, C8.fnBody s_man, C8.fnScope s_man, [], []⟩
def d_names_in : He.DefD := ⟨("names_in", none), "names_in", "names_in", C8.fnArgs s_names_in, C8.fnBody s_names_in, C8.fnScope s_names_in, [], []⟩
def d_in_order : He.DefD := ⟨("in_order", none), "in_order", "in_order", C8.fnArgs s_in_order, C8.fnBody s_in_order, C8.fnScope s_in_order, [], []⟩
def d_Holding_init : He.DefD := ⟨("Holding", some "__init__"), "__init__", "Holding.__init__", C8.fnArgs s_Holding_init, C8.fnBody s_Holding_init, C8.fnScope s_Holding_init, [], []⟩
def d_Holding_mustered : He.DefD := ⟨("Holding", some "mustered"), "mustered", "Holding.mustered", C8.fnArgs s_Holding_mustered, C8.fnBody s_Holding_mustered, C8.fnScope s_Holding_mustered, [], []⟩
def d_with_many : He.DefD := ⟨("with_many", none), "with_many", "with_many", C8.fnArgs s_with_many, C8.fnBody s_with_many, C8.fnScope s_with_many, [], []⟩
def d_places_of : He.DefD := ⟨("places_of", none), "places_of", "places_of", C8.fnArgs s_places_of, C8.fnBody s_places_of, C8.fnScope s_places_of, [], []⟩
def d_where_of : He.DefD := ⟨("where_of", none), "where_of", "where_of", C8.fnArgs s_where_of, C8.fnBody s_where_of, C8.fnScope s_where_of, [], []⟩
def d_Voyage_init : He.DefD := ⟨("Voyage", some "__init__"), "__init__", "Voyage.__init__", C8.fnArgs s_Voyage_init, C8.fnBody s_Voyage_init, C8.fnScope s_Voyage_init, [], []⟩
def d_Voyage_come_to : He.DefD := ⟨("Voyage", some "come_to"), "come_to", "Voyage.come_to", C8.fnArgs s_Voyage_come_to, C8.fnBody s_Voyage_come_to, C8.fnScope s_Voyage_come_to, [], []⟩
def d_Voyage_lot_of_watch : He.DefD := ⟨("Voyage", some "lot_of_watch"), "lot_of_watch", "Voyage.lot_of_watch", C8.fnArgs s_Voyage_lot_of_watch, C8.fnBody s_Voyage_lot_of_watch, C8.fnScope s_Voyage_lot_of_watch, [], []⟩
def d_Voyage_by_bill : He.DefD := ⟨("Voyage", some "by_bill"), "by_bill", "Voyage.by_bill", C8.fnArgs s_Voyage_by_bill, C8.fnBody s_Voyage_by_bill, C8.fnScope s_Voyage_by_bill, [], []⟩
def d_Voyage_go_on : He.DefD := ⟨("Voyage", some "go_on"), "go_on", "Voyage.go_on", C8.fnArgs s_Voyage_go_on, C8.fnBody s_Voyage_go_on, C8.fnScope s_Voyage_go_on, [], []⟩
def d_come_so_far : He.DefD := ⟨("come_so_far", none), "come_so_far", "come_so_far", C8.fnArgs s_come_so_far, C8.fnBody s_come_so_far, C8.fnScope s_come_so_far, [], []⟩
def d_posted : He.DefD := ⟨("posted", none), "posted", "posted", C8.fnArgs s_posted, C8.fnBody s_posted, C8.fnScope s_posted, [], []⟩
def d_stations_there : He.DefD := ⟨("stations_there", none), "stations_there", "stations_there", C8.fnArgs s_stations_there, C8.fnBody s_stations_there, C8.fnScope s_stations_there, [], []⟩
def d_stations : He.DefD := ⟨("stations", none), "stations", "stations", C8.fnArgs s_stations, C8.fnBody s_stations, C8.fnScope s_stations, [], []⟩
def d_all_stations : He.DefD := ⟨("all_stations", none), "all_stations", "all_stations", C8.fnArgs s_all_stations, C8.fnBody s_all_stations, C8.fnScope s_all_stations, [], []⟩
def d_day_begins : He.DefD := ⟨("day_begins", none), "day_begins", "day_begins", C8.fnArgs s_day_begins, C8.fnBody s_day_begins, C8.fnScope s_day_begins, [], []⟩
def d_comes_round : He.DefD := ⟨("comes_round", none), "comes_round", "comes_round", C8.fnArgs s_comes_round, C8.fnBody s_comes_round, C8.fnScope s_comes_round, [], []⟩
def d__law_hand : He.DefD := ⟨("_law_hand", none), "_law_hand", "_law_hand", C8.fnArgs s__law_hand, C8.fnBody s__law_hand, C8.fnScope s__law_hand, [], []⟩
def d__law_take : He.DefD := ⟨("_law_take", none), "_law_take", "_law_take", C8.fnArgs s__law_take, C8.fnBody s__law_take, C8.fnScope s__law_take, [], []⟩
def d__law_of : He.DefD := ⟨("_law_of", none), "_law_of", "_law_of", C8.fnArgs s__law_of, C8.fnBody s__law_of, C8.fnScope s__law_of, [], []⟩
def d__law_order : He.DefD := ⟨("_law_order", none), "_law_order", "_law_order", C8.fnArgs s__law_order, C8.fnBody s__law_order, C8.fnScope s__law_order, [], []⟩
def d__law_names : He.DefD := ⟨("_law_names", none), "_law_names", "_law_names", C8.fnArgs s__law_names, C8.fnBody s__law_names, C8.fnScope s__law_names, [], []⟩
def d__law_lot : He.DefD := ⟨("_law_lot", none), "_law_lot", "_law_lot", C8.fnArgs s__law_lot, C8.fnBody s__law_lot, C8.fnScope s__law_lot, [], []⟩
def d__law_roll : He.DefD := ⟨("_law_roll", none), "_law_roll", "_law_roll", C8.fnArgs s__law_roll, C8.fnBody s__law_roll, C8.fnScope s__law_roll, [], []⟩
def d__law_ship : He.DefD := ⟨("_law_ship", none), "_law_ship", "_law_ship", C8.fnArgs s__law_ship, C8.fnBody s__law_ship, C8.fnScope s__law_ship, [], []⟩
def d__law_begins : He.DefD := ⟨("_law_begins", none), "_law_begins", "_law_begins", C8.fnArgs s__law_begins, C8.fnBody s__law_begins, C8.fnScope s__law_begins, [], []⟩
def d__law_due : He.DefD := ⟨("_law_due", none), "_law_due", "_law_due", C8.fnArgs s__law_due, C8.fnBody s__law_due, C8.fnScope s__law_due, [], []⟩
def d__law_again : He.DefD := ⟨("_law_again", none), "_law_again", "_law_again", C8.fnArgs s__law_again, C8.fnBody s__law_again, C8.fnScope s__law_again, [], []⟩
def d_law : He.DefD := ⟨("law", none), "law", "law", C8.fnArgs s_law, C8.fnBody s_law, C8.fnScope s_law, [], []⟩
def fn : List He.DefD := [d_bells_in, d_watch_at, d_cycle_from, d_cycles, d_divisor, d_round_of, d_order_at, d_kept_by, d_keeper, d_short, d_is_fit, d_lack_price, d_cost_of, d_costs_of, d_Manning_init, d_Manning_fit_places, d_Manning_relax, d_Manning_cheapest, d_Manning_put_along, d_Manning_fill, d_Manning_hand_down, d_Manning_place_down, d_Manning_levelled, d_Manning_paper, d_man, d_names_in, d_in_order, d_Holding_init, d_Holding_mustered, d_with_many, d_places_of, d_where_of, d_Voyage_init, d_Voyage_come_to, d_Voyage_lot_of_watch, d_Voyage_by_bill, d_Voyage_go_on, d_come_so_far, d_posted, d_stations_there, d_stations, d_all_stations, d_day_begins, d_comes_round, d__law_hand, d__law_take, d__law_of, d__law_order, d__law_names, d__law_lot, d__law_roll, d__law_ship, d__law_begins, d__law_due, d__law_again, d_law]
def fa : List He.Fa := [.glo "bells_in", .glo "watch_at", .glo "cycle_from", .glo "cycles", .glo "divisor", .glo "round_of", .glo "order_at", .glo "kept_by", .glo "keeper", .glo "short", .glo "is_fit", .glo "lack_price", .glo "cost_of", .glo "costs_of", .glo "man", .glo "names_in", .glo "in_order", .glo "with_many", .glo "places_of", .glo "where_of", .glo "come_so_far", .glo "posted", .glo "stations_there", .glo "stations", .glo "all_stations", .glo "day_begins", .glo "comes_round", .glo "_law_hand", .glo "_law_take", .glo "_law_of", .glo "_law_order", .glo "_law_names", .glo "_law_lot", .glo "_law_roll", .glo "_law_ship", .glo "_law_begins", .glo "_law_due", .glo "_law_again", .glo "law", .glo "LACK_PRICES", .glo "Manning", .glo "Holding", .glo "Voyage", .free "len", .free "sum", .free "divmod", .free "range", .free "tuple", .free "list", .free "max", .free "min", .free "int", .free "enumerate", .free "zip", .free "sorted", .free "dict", .free "isinstance", .free "bool", .int "FAR" 1000000000000, .int "MOVED_PRICE" 100, .cls "Manning", .mkr "Manning", .noat "Manning" "wanted", .noat "Manning" "bounty", .noat "Manning" "costs", .noat "Manning" "spots", .noat "Manning" "named", .meth "Manning" "fit_places", .meth "Manning" "relax", .meth "Manning" "cheapest", .meth "Manning" "put_along", .meth "Manning" "fill", .meth "Manning" "hand_down", .meth "Manning" "place_down", .meth "Manning" "levelled", .meth "Manning" "paper", .cls "Holding", .mkr "Holding", .noat "Holding" "sections", .noat "Holding" "hands_by", .noat "Holding" "billed", .noat "Holding" "words_kept", .noat "Holding" "ill", .noat "Holding" "wanted", .noat "Holding" "words_up", .meth "Holding" "mustered", .cls "Voyage", .mkr "Voyage", .noat "Voyage" "ship_here", .noat "Voyage" "coming", .noat "Voyage" "holding", .noat "Voyage" "bell_now", .noat "Voyage" "station_by", .noat "Voyage" "was_at", .noat "Voyage" "told_now", .meth "Voyage" "come_to", .meth "Voyage" "lot_of_watch", .meth "Voyage" "by_bill", .meth "Voyage" "go_on"]
def exB (K : PySem.W.Frag) : Bool := He.tupB K "LACK_PRICES" [.int 10000, .int 1000000, .int 100000000]
abbrev tfs : List He.Defn := [("in_order", none)]
abbrev R : PySem.W.OpenRow := PySem.W.OpenLaw.row PySem.Challenge.rw_watchstations_k66_whole_comes_round
abbrev hk : PySem.W.Hook := He.hookX 5 fa fn [] tfs exB
def ob (s : PySem.W.SharedT) : He.AlX := He.obsX 5 fa fn [] tfs exB (HandSHeadRun.getT s)
theorem ob_eq (s : PySem.W.SharedT) : ob s = hk.obs s.abs := He.obsX_eq (HandSHeadRun.getT_eq s)
def loose1 : List Str := ["_wall", "bells_in", "watch_at", "cycle_from", "cycles", "divisor", "round_of", "order_at", "kept_by", "keeper", "LACK_PRICES", "short", "is_fit", "lack_price", "MOVED_PRICE", "FAR", "cost_of", "costs_of", "Manning", "man", "names_in", "MOST_HANDS", "MOST_SKILLS", "in_order", "Holding", "with_many", "places_of", "where_of", "Voyage", "come_so_far"]
def loose2 : List Str := ["posted", "stations_there", "stations", "all_stations", "day_begins", "comes_round", "_law_hand", "_law_take", "_law_of", "_law_order", "_law_names", "_law_lot", "_law_roll", "_law_ship", "_law_begins", "_law_due", "_law_again"]
def loose : List Str := loose1 ++ loose2
theorem run (w : World) : HandSHeadRun.RunEq R (PySem.W.view R.prog [57]) hk ob 3000 loose w := by
  intro os
  kernel_rfl
end WS
set_option Elab.async false
set_option linter.all false
set_option maxRecDepth 100000
set_option maxHeartbeats 0
namespace WS
open PySem PySem.Spec PyProof.Rows L2 LamX

abbrev FnP (K : PySem.W.Frag) (x q : Str) (st : Stmt) (f : Addr) (fd : FuncData) : Prop := FunD K x q (C8.fnArgs st) (C8.fnBody st) (C8.fnScope st) [] [] f fd
theorem c8fun {K : PySem.W.Frag} {x q : Str} {st : Stmt} {f : Addr} {fd : FuncData} (F : FnP K x q st f fd) : C8.Fun K x q st f fd := by
  obtain ⟨oc, od, dV, kV, doc, pm, an, cdv, ct, osl, h1, h2, h3, _, _⟩ := F.ex
  exact ⟨⟨oc, od, dV, kV, doc, pm, an, cdv, ct, osl, h1, h2, h3⟩⟩
abbrev BndP (x q : Str) (st : Stmt) (ps : List Str) : Prop := ∀ (kV doc pm : Value) (an : Option Addr) (cdv ct : Value) (us : List Value), us.length = ps.length → bindArgs (PySem.W.fnOf x q (C8.fnArgs st) (C8.fnBody st) (C8.fnScope st) .none kV doc pm an cdv ct) ⟨us, []⟩ = pure (ps.zip us)
section
variable {K : PySem.W.Frag} {h : Heap} {mg : Str → Option Value}
theorem hasDef (X : K.In h) (G : h.Ns mainGlobals mg) {x : Str} {st : Stmt} {ps : List Str} {fd : FuncData} (F : FnP K x x st (He.ga K x) fd) (c : (He.Fa.glo x).ok K = true) (hb : BndP x x st ps) : HasDef K mg x st ps := ⟨_, fd, ⟨c8fun F, He.glo_ok X G c, F.kp⟩, F.bindsN hb⟩
theorem hasDefC (X : K.In h) (G : h.Ns mainGlobals mg) {x : Str} {st : Stmt} {ps : List Str} {fd : FuncData} (F : FnP K x x st (He.ga K x) fd) (c : (He.Fa.glo x).ok K = true) (hb : BndP x x st ps) : HasDefC K mg x st ps (He.cT K (x, none)).1 := by
  refine ⟨_, fd, ⟨c8fun F, He.glo_ok X G c, F.kp⟩, F.bindsN hb, ?_⟩
  obtain ⟨oc, od, dV, kV, doc, pm, an, cdv, ct, osl, h1, h2, h3, _, _⟩ := F.ex
  obtain ⟨c', e⟩ := He.codeIn_ref h3
  have ec : fd.code = .ref c' := by rw [h1, e]
  rw [ec]
  exact congrArg Value.ref (He.codeOf_eq (p := (x, none)) h2 ec).symm
theorem hasMeth {x m q : Str} {st : Stmt} {ps : List Str} {fd : FuncData} (F : FnP K m q st (He.ma K (He.ga K x) m) fd) (c1 : (He.Fa.cls x).ok K = true) (c2 : (He.Fa.meth x m).ok K = true) (hb : BndP m q st ps) : HasMeth K (He.ga K x) m q st ps := ⟨He.cls_ok c1, _, fd, He.meth_ok c2, c8fun F, F.bindsN hb⟩
theorem hasInit (X : K.In h) (G : h.Ns mainGlobals mg) {x q : Str} {st : Stmt} {ps : List Str} {fd : FuncData} (F : FnP K "__init__" q st (He.ma K (He.ga K x) "__init__") fd) (c1 : (He.Fa.glo x).ok K = true) (c2 : (He.Fa.mkr x).ok K = true) (hb : BndP "__init__" q st ps) : HasInit K mg x (He.ga K x) q st ps := ⟨He.glo_ok X G c1, _, fd, He.mkr_ok c2, c8fun F, F.bindsN hb⟩
end

theorem b_bells_in : BndP "bells_in" "bells_in" s_bells_in ["day"] := fun _ _ _ _ _ _ us hl => match us, hl with | [_], _ => rfl
theorem b_watch_at : BndP "watch_at" "watch_at" s_watch_at ["day", "bell"] := fun _ _ _ _ _ _ us hl => match us, hl with | [_, _], _ => rfl
theorem b_cycle_from : BndP "cycle_from" "cycle_from" s_cycle_from ["turn", "first"] := fun _ _ _ _ _ _ us hl => match us, hl with | [_, _], _ => rfl
theorem b_cycles : BndP "cycles" "cycles" s_cycles ["turn"] := fun _ _ _ _ _ _ us hl => match us, hl with | [_], _ => rfl
theorem b_divisor : BndP "divisor" "divisor" s_divisor ["one", "other"] := fun _ _ _ _ _ _ us hl => match us, hl with | [_, _], _ => rfl
theorem b_round_of : BndP "round_of" "round_of" s_round_of ["turn"] := fun _ _ _ _ _ _ us hl => match us, hl with | [_], _ => rfl
theorem b_order_at : BndP "order_at" "order_at" s_order_at ["turn", "day"] := fun _ _ _ _ _ _ us hl => match us, hl with | [_, _], _ => rfl
theorem b_kept_by : BndP "kept_by" "kept_by" s_kept_by ["turn", "number", "watch"] := fun _ _ _ _ _ _ us hl => match us, hl with | [_, _, _], _ => rfl
theorem b_keeper : BndP "keeper" "keeper" s_keeper ["day", "turn", "bell"] := fun _ _ _ _ _ _ us hl => match us, hl with | [_, _, _], _ => rfl
theorem b_short : BndP "short" "short" s_short ["hand", "place"] := fun _ _ _ _ _ _ us hl => match us, hl with | [_, _], _ => rfl
theorem b_is_fit : BndP "is_fit" "is_fit" s_is_fit ["hand", "place"] := fun _ _ _ _ _ _ us hl => match us, hl with | [_, _], _ => rfl
theorem b_lack_price : BndP "lack_price" "lack_price" s_lack_price ["grade"] := fun _ _ _ _ _ _ us hl => match us, hl with | [_], _ => rfl
theorem b_cost_of : BndP "cost_of" "cost_of" s_cost_of ["hand", "place", "stood"] := fun _ _ _ _ _ _ us hl => match us, hl with | [_, _, _], _ => rfl
theorem b_costs_of : BndP "costs_of" "costs_of" s_costs_of ["hand", "lot", "stood"] := fun _ _ _ _ _ _ us hl => match us, hl with | [_, _, _], _ => rfl
theorem b_Manning_init : BndP "__init__" "Manning.__init__" s_Manning_init ["self", "hands", "lot", "stood"] := fun _ _ _ _ _ _ us hl => match us, hl with | [_, _, _, _], _ => rfl
theorem b_Manning_fit_places : BndP "fit_places" "Manning.fit_places" s_Manning_fit_places ["self", "hand"] := fun _ _ _ _ _ _ us hl => match us, hl with | [_, _], _ => rfl
theorem b_Manning_relax : BndP "relax" "Manning.relax" s_Manning_relax ["self", "far", "ways"] := fun _ _ _ _ _ _ us hl => match us, hl with | [_, _, _], _ => rfl
theorem b_Manning_cheapest : BndP "cheapest" "Manning.cheapest" s_Manning_cheapest ["self"] := fun _ _ _ _ _ _ us hl => match us, hl with | [_], _ => rfl
theorem b_Manning_put_along : BndP "put_along" "Manning.put_along" s_Manning_put_along ["self", "place", "ways"] := fun _ _ _ _ _ _ us hl => match us, hl with | [_, _, _], _ => rfl
theorem b_Manning_fill : BndP "fill" "Manning.fill" s_Manning_fill ["self"] := fun _ _ _ _ _ _ us hl => match us, hl with | [_], _ => rfl
theorem b_Manning_hand_down : BndP "hand_down" "Manning.hand_down" s_Manning_hand_down ["self", "hand", "heights", "ground", "place_heights"] := fun _ _ _ _ _ _ us hl => match us, hl with | [_, _, _, _, _], _ => rfl
theorem b_Manning_place_down : BndP "place_down" "Manning.place_down" s_Manning_place_down ["self", "place", "height", "ground"] := fun _ _ _ _ _ _ us hl => match us, hl with | [_, _, _, _], _ => rfl
theorem b_Manning_levelled : BndP "levelled" "Manning.levelled" s_Manning_levelled ["self", "hands", "places", "ground"] := fun _ _ _ _ _ _ us hl => match us, hl with | [_, _, _, _], _ => rfl
theorem b_Manning_paper : BndP "paper" "Manning.paper" s_Manning_paper ["self"] := fun _ _ _ _ _ _ us hl => match us, hl with | [_], _ => rfl
theorem b_man : BndP "man" "man" s_man ["hands", "lot", "stood"] := fun _ _ _ _ _ _ us hl => match us, hl with | [_, _, _], _ => rfl
theorem b_names_in : BndP "names_in" "names_in" s_names_in ["lots"] := fun _ _ _ _ _ _ us hl => match us, hl with | [_], _ => rfl
theorem b_in_order : BndP "in_order" "in_order" s_in_order ["pages"] := fun _ _ _ _ _ _ us hl => match us, hl with | [_], _ => rfl
theorem b_Holding_init : BndP "__init__" "Holding.__init__" s_Holding_init ["self", "ship"] := fun _ _ _ _ _ _ us hl => match us, hl with | [_, _], _ => rfl
theorem b_Holding_mustered : BndP "mustered" "Holding.mustered" s_Holding_mustered ["self"] := fun _ _ _ _ _ _ us hl => match us, hl with | [_], _ => rfl
theorem b_with_many : BndP "with_many" "with_many" s_with_many ["place", "many"] := fun _ _ _ _ _ _ us hl => match us, hl with | [_, _], _ => rfl
theorem b_places_of : BndP "places_of" "places_of" s_places_of ["hands", "posts"] := fun _ _ _ _ _ _ us hl => match us, hl with | [_, _], _ => rfl
theorem b_where_of : BndP "where_of" "where_of" s_where_of ["name", "there", "sick"] := fun _ _ _ _ _ _ us hl => match us, hl with | [_, _, _], _ => rfl
theorem b_Voyage_init : BndP "__init__" "Voyage.__init__" s_Voyage_init ["self", "ship", "pages"] := fun _ _ _ _ _ _ us hl => match us, hl with | [_, _, _], _ => rfl
theorem b_Voyage_come_to : BndP "come_to" "Voyage.come_to" s_Voyage_come_to ["self"] := fun _ _ _ _ _ _ us hl => match us, hl with | [_], _ => rfl
theorem b_Voyage_lot_of_watch : BndP "lot_of_watch" "Voyage.lot_of_watch" s_Voyage_lot_of_watch ["self"] := fun _ _ _ _ _ _ us hl => match us, hl with | [_], _ => rfl
theorem b_Voyage_by_bill : BndP "by_bill" "Voyage.by_bill" s_Voyage_by_bill ["self"] := fun _ _ _ _ _ _ us hl => match us, hl with | [_], _ => rfl
theorem b_Voyage_go_on : BndP "go_on" "Voyage.go_on" s_Voyage_go_on ["self"] := fun _ _ _ _ _ _ us hl => match us, hl with | [_], _ => rfl
theorem b_come_so_far : BndP "come_so_far" "come_so_far" s_come_so_far ["ship", "pages", "bell"] := fun _ _ _ _ _ _ us hl => match us, hl with | [_, _, _], _ => rfl
theorem b_posted : BndP "posted" "posted" s_posted ["ship", "pages", "bells"] := fun _ _ _ _ _ _ us hl => match us, hl with | [_, _, _], _ => rfl
theorem b_stations_there : BndP "stations_there" "stations_there" s_stations_there ["voyage"] := fun _ _ _ _ _ _ us hl => match us, hl with | [_], _ => rfl
theorem b_stations : BndP "stations" "stations" s_stations ["ship", "pages", "bell"] := fun _ _ _ _ _ _ us hl => match us, hl with | [_, _, _], _ => rfl
theorem b_all_stations : BndP "all_stations" "all_stations" s_all_stations ["ship", "pages", "bells"] := fun _ _ _ _ _ _ us hl => match us, hl with | [_, _, _], _ => rfl
theorem b_day_begins : BndP "day_begins" "day_begins" s_day_begins ["ship", "most"] := fun _ _ _ _ _ _ us hl => match us, hl with | [_, _], _ => rfl
theorem b_comes_round : BndP "comes_round" "comes_round" s_comes_round ["ship", "most"] := fun _ _ _ _ _ _ us hl => match us, hl with | [_, _], _ => rfl
theorem b__law_hand : BndP "_law_hand" "_law_hand" s__law_hand ["_law_script", "_law_k"] := fun _ _ _ _ _ _ us hl => match us, hl with | [_, _], _ => rfl
theorem b__law_take : BndP "_law_take" "_law_take" s__law_take ["_law_hand_here", "_law_many"] := fun _ _ _ _ _ _ us hl => match us, hl with | [_, _], _ => rfl
theorem b__law_of : BndP "_law_of" "_law_of" s__law_of ["_law_hand_here", "_law_some"] := fun _ _ _ _ _ _ us hl => match us, hl with | [_, _], _ => rfl
theorem b__law_order : BndP "_law_order" "_law_order" s__law_order ["_law_hand_here", "_law_some"] := fun _ _ _ _ _ _ us hl => match us, hl with | [_, _], _ => rfl
theorem b__law_names : BndP "_law_names" "_law_names" s__law_names ["_law_hand_here", "_law_many"] := fun _ _ _ _ _ _ us hl => match us, hl with | [_, _], _ => rfl
theorem b__law_lot : BndP "_law_lot" "_law_lot" s__law_lot ["_law_hand_here", "_law_names_here", "_law_pool"] := fun _ _ _ _ _ _ us hl => match us, hl with | [_, _, _], _ => rfl
theorem b__law_roll : BndP "_law_roll" "_law_roll" s__law_roll ["_law_hand_here", "_law_many", "_law_pool", "_law_sections"] := fun _ _ _ _ _ _ us hl => match us, hl with | [_, _, _, _], _ => rfl
theorem b__law_ship : BndP "_law_ship" "_law_ship" s__law_ship ["_law_hand_here", "_law_far"] := fun _ _ _ _ _ _ us hl => match us, hl with | [_, _], _ => rfl
theorem b__law_begins : BndP "_law_begins" "_law_begins" s__law_begins ["_law_ship_here", "_law_rows", "_law_most"] := fun _ _ _ _ _ _ us hl => match us, hl with | [_, _, _], _ => rfl
theorem b__law_due : BndP "_law_due" "_law_due" s__law_due ["_law_dawns"] := fun _ _ _ _ _ _ us hl => match us, hl with | [_], _ => rfl
theorem b__law_again : BndP "_law_again" "_law_again" s__law_again ["_law_rows", "_law_bells", "_law_first", "_law_days"] := fun _ _ _ _ _ _ us hl => match us, hl with | [_, _, _, _], _ => rfl
theorem b_law : BndP "law" "law" s_law ["_law_script"] := fun _ _ _ _ _ _ us hl => match us, hl with | [_], _ => rfl
section
variable {P : Program} {w : World} {K : PySem.W.Frag} {h : Heap} {mg : Str → Option Value} {base : Heap}
theorem txt (X : K.In h) (G : h.Ns mainGlobals mg) (c : He.SaysD fa fn K) (hx : exB K = true) : Txt K mg (He.ga K "Manning") (He.ga K "Holding") (He.ga K "Voyage") (He.ga K "LACK_PRICES") where
  m_len := He.free_ok X G (c.fact 43 rfl)
  m_sum := He.free_ok X G (c.fact 44 rfl)
  m_divmod := He.free_ok X G (c.fact 45 rfl)
  m_range := He.free_ok X G (c.fact 46 rfl)
  m_tuple := He.free_ok X G (c.fact 47 rfl)
  m_list := He.free_ok X G (c.fact 48 rfl)
  m_max := He.free_ok X G (c.fact 49 rfl)
  m_min := He.free_ok X G (c.fact 50 rfl)
  m_int := He.free_ok X G (c.fact 51 rfl)
  m_enumerate := He.free_ok X G (c.fact 52 rfl)
  m_zip := He.free_ok X G (c.fact 53 rfl)
  m_sorted := He.free_ok X G (c.fact 54 rfl)
  m_dict := He.free_ok X G (c.fact 55 rfl)
  m_isinstance := He.free_ok X G (c.fact 56 rfl)
  m_bool := He.free_ok X G (c.fact 57 rfl)
  c_FAR := by
    obtain ⟨t, e⟩ := He.int_ok X G (c.fact 58 (f := .int "FAR" 1000000000000) rfl)
    exact ⟨_, e, t, rfl⟩
  c_MOVED_PRICE := by
    obtain ⟨t, e⟩ := He.int_ok X G (c.fact 59 (f := .int "MOVED_PRICE" 100) rfl)
    exact ⟨_, e, t, rfl⟩
  c_LACK_PRICES := ⟨_, He.glo_ok X G (c.fact 39 (f := .glo "LACK_PRICES") rfl), rfl⟩
  lp := fun H => He.tupB_ok (vs := [.int 10000, .int 1000000, .int 100000000]) hx H
  clM := He.cls_ok (c.fact 60 (f := .cls "Manning") rfl)
  clH := He.cls_ok (c.fact 76 (f := .cls "Holding") rfl)
  clV := He.cls_ok (c.fact 86 (f := .cls "Voyage") rfl)
  nM := by
    intro f hf
    simp only [List.mem_cons, List.not_mem_nil, or_false] at hf
    rcases hf with rfl | rfl | rfl | rfl | rfl
    · exact He.noat_ok (c.fact 62 (f := .noat "Manning" "wanted") rfl)
    · exact He.noat_ok (c.fact 63 (f := .noat "Manning" "bounty") rfl)
    · exact He.noat_ok (c.fact 64 (f := .noat "Manning" "costs") rfl)
    · exact He.noat_ok (c.fact 65 (f := .noat "Manning" "spots") rfl)
    · exact He.noat_ok (c.fact 66 (f := .noat "Manning" "named") rfl)
  nH := by
    intro f hf
    simp only [List.mem_cons, List.not_mem_nil, or_false] at hf
    rcases hf with rfl | rfl | rfl | rfl | rfl | rfl | rfl
    · exact He.noat_ok (c.fact 78 (f := .noat "Holding" "sections") rfl)
    · exact He.noat_ok (c.fact 79 (f := .noat "Holding" "hands_by") rfl)
    · exact He.noat_ok (c.fact 80 (f := .noat "Holding" "billed") rfl)
    · exact He.noat_ok (c.fact 81 (f := .noat "Holding" "words_kept") rfl)
    · exact He.noat_ok (c.fact 82 (f := .noat "Holding" "ill") rfl)
    · exact He.noat_ok (c.fact 83 (f := .noat "Holding" "wanted") rfl)
    · exact He.noat_ok (c.fact 84 (f := .noat "Holding" "words_up") rfl)
  nV := by
    intro f hf
    simp only [List.mem_cons, List.not_mem_nil, or_false] at hf
    rcases hf with rfl | rfl | rfl | rfl | rfl | rfl | rfl
    · exact He.noat_ok (c.fact 88 (f := .noat "Voyage" "ship_here") rfl)
    · exact He.noat_ok (c.fact 89 (f := .noat "Voyage" "coming") rfl)
    · exact He.noat_ok (c.fact 90 (f := .noat "Voyage" "holding") rfl)
    · exact He.noat_ok (c.fact 91 (f := .noat "Voyage" "bell_now") rfl)
    · exact He.noat_ok (c.fact 92 (f := .noat "Voyage" "station_by") rfl)
    · exact He.noat_ok (c.fact 93 (f := .noat "Voyage" "was_at") rfl)
    · exact He.noat_ok (c.fact 94 (f := .noat "Voyage" "told_now") rfl)
theorem law_ok (X : K.In h) (G : h.Ns mainGlobals mg) (c : He.SaysD fa fn K) (hx : exB K = true) (TB : TabB base mg (He.cT K ("in_order", none)).1 (He.cT K ("in_order", none)).2) {fdL : FuncData} (FL : FnP K "law" "law" s_law (He.ga K "law") fdL) :
    FnOk P w K mg base C8.CX0 12 (He.ga K "law") fdL ["_law_script"] (sp_law (K := K) (He.cT K ("in_order", none)).2) := by
  have T := txt X G c hx
  obtain ⟨fd_bells_in, F_bells_in⟩ := c.def_ 0 (d := d_bells_in) rfl
  have F_bells_in : FnP K "bells_in" "bells_in" s_bells_in (He.ga K "bells_in") fd_bells_in := F_bells_in
  have h_bells_in := hasDef (x := "bells_in") X G F_bells_in (c.fact 0 (f := .glo "bells_in") rfl) b_bells_in
  obtain ⟨fd_watch_at, F_watch_at⟩ := c.def_ 1 (d := d_watch_at) rfl
  have F_watch_at : FnP K "watch_at" "watch_at" s_watch_at (He.ga K "watch_at") fd_watch_at := F_watch_at
  have h_watch_at := hasDef (x := "watch_at") X G F_watch_at (c.fact 1 (f := .glo "watch_at") rfl) b_watch_at
  obtain ⟨fd_cycle_from, F_cycle_from⟩ := c.def_ 2 (d := d_cycle_from) rfl
  have F_cycle_from : FnP K "cycle_from" "cycle_from" s_cycle_from (He.ga K "cycle_from") fd_cycle_from := F_cycle_from
  have h_cycle_from := hasDef (x := "cycle_from") X G F_cycle_from (c.fact 2 (f := .glo "cycle_from") rfl) b_cycle_from
  obtain ⟨fd_cycles, F_cycles⟩ := c.def_ 3 (d := d_cycles) rfl
  have F_cycles : FnP K "cycles" "cycles" s_cycles (He.ga K "cycles") fd_cycles := F_cycles
  have h_cycles := hasDef (x := "cycles") X G F_cycles (c.fact 3 (f := .glo "cycles") rfl) b_cycles
  obtain ⟨fd_divisor, F_divisor⟩ := c.def_ 4 (d := d_divisor) rfl
  have F_divisor : FnP K "divisor" "divisor" s_divisor (He.ga K "divisor") fd_divisor := F_divisor
  have h_divisor := hasDef (x := "divisor") X G F_divisor (c.fact 4 (f := .glo "divisor") rfl) b_divisor
  obtain ⟨fd_round_of, F_round_of⟩ := c.def_ 5 (d := d_round_of) rfl
  have F_round_of : FnP K "round_of" "round_of" s_round_of (He.ga K "round_of") fd_round_of := F_round_of
  have h_round_of := hasDef (x := "round_of") X G F_round_of (c.fact 5 (f := .glo "round_of") rfl) b_round_of
  obtain ⟨fd_order_at, F_order_at⟩ := c.def_ 6 (d := d_order_at) rfl
  have F_order_at : FnP K "order_at" "order_at" s_order_at (He.ga K "order_at") fd_order_at := F_order_at
  have h_order_at := hasDef (x := "order_at") X G F_order_at (c.fact 6 (f := .glo "order_at") rfl) b_order_at
  obtain ⟨fd_kept_by, F_kept_by⟩ := c.def_ 7 (d := d_kept_by) rfl
  have F_kept_by : FnP K "kept_by" "kept_by" s_kept_by (He.ga K "kept_by") fd_kept_by := F_kept_by
  have h_kept_by := hasDef (x := "kept_by") X G F_kept_by (c.fact 7 (f := .glo "kept_by") rfl) b_kept_by
  obtain ⟨fd_keeper, F_keeper⟩ := c.def_ 8 (d := d_keeper) rfl
  have F_keeper : FnP K "keeper" "keeper" s_keeper (He.ga K "keeper") fd_keeper := F_keeper
  have h_keeper := hasDef (x := "keeper") X G F_keeper (c.fact 8 (f := .glo "keeper") rfl) b_keeper
  obtain ⟨fd_short, F_short⟩ := c.def_ 9 (d := d_short) rfl
  have F_short : FnP K "short" "short" s_short (He.ga K "short") fd_short := F_short
  have h_short := hasDef (x := "short") X G F_short (c.fact 9 (f := .glo "short") rfl) b_short
  obtain ⟨fd_is_fit, F_is_fit⟩ := c.def_ 10 (d := d_is_fit) rfl
  have F_is_fit : FnP K "is_fit" "is_fit" s_is_fit (He.ga K "is_fit") fd_is_fit := F_is_fit
  have h_is_fit := hasDef (x := "is_fit") X G F_is_fit (c.fact 10 (f := .glo "is_fit") rfl) b_is_fit
  obtain ⟨fd_lack_price, F_lack_price⟩ := c.def_ 11 (d := d_lack_price) rfl
  have F_lack_price : FnP K "lack_price" "lack_price" s_lack_price (He.ga K "lack_price") fd_lack_price := F_lack_price
  have h_lack_price := hasDef (x := "lack_price") X G F_lack_price (c.fact 11 (f := .glo "lack_price") rfl) b_lack_price
  obtain ⟨fd_cost_of, F_cost_of⟩ := c.def_ 12 (d := d_cost_of) rfl
  have F_cost_of : FnP K "cost_of" "cost_of" s_cost_of (He.ga K "cost_of") fd_cost_of := F_cost_of
  have h_cost_of := hasDef (x := "cost_of") X G F_cost_of (c.fact 12 (f := .glo "cost_of") rfl) b_cost_of
  obtain ⟨fd_costs_of, F_costs_of⟩ := c.def_ 13 (d := d_costs_of) rfl
  have F_costs_of : FnP K "costs_of" "costs_of" s_costs_of (He.ga K "costs_of") fd_costs_of := F_costs_of
  have h_costs_of := hasDef (x := "costs_of") X G F_costs_of (c.fact 13 (f := .glo "costs_of") rfl) b_costs_of
  obtain ⟨fd_Manning_init, F_Manning_init⟩ := c.def_ 14 (d := d_Manning_init) rfl
  have F_Manning_init : FnP K "__init__" "Manning.__init__" s_Manning_init (He.ma K (He.ga K "Manning") "__init__") fd_Manning_init := F_Manning_init
  have h_Manning_init := hasInit (x := "Manning") X G F_Manning_init (c.fact 40 (f := .glo "Manning") rfl) (c.fact 61 (f := .mkr "Manning") rfl) b_Manning_init
  obtain ⟨fd_Manning_fit_places, F_Manning_fit_places⟩ := c.def_ 15 (d := d_Manning_fit_places) rfl
  have F_Manning_fit_places : FnP K "fit_places" "Manning.fit_places" s_Manning_fit_places (He.ma K (He.ga K "Manning") "fit_places") fd_Manning_fit_places := F_Manning_fit_places
  have h_Manning_fit_places := hasMeth (x := "Manning") (m := "fit_places") F_Manning_fit_places (c.fact 60 (f := .cls "Manning") rfl) (c.fact 67 (f := .meth "Manning" "fit_places") rfl) b_Manning_fit_places
  obtain ⟨fd_Manning_relax, F_Manning_relax⟩ := c.def_ 16 (d := d_Manning_relax) rfl
  have F_Manning_relax : FnP K "relax" "Manning.relax" s_Manning_relax (He.ma K (He.ga K "Manning") "relax") fd_Manning_relax := F_Manning_relax
  have h_Manning_relax := hasMeth (x := "Manning") (m := "relax") F_Manning_relax (c.fact 60 (f := .cls "Manning") rfl) (c.fact 68 (f := .meth "Manning" "relax") rfl) b_Manning_relax
  obtain ⟨fd_Manning_cheapest, F_Manning_cheapest⟩ := c.def_ 17 (d := d_Manning_cheapest) rfl
  have F_Manning_cheapest : FnP K "cheapest" "Manning.cheapest" s_Manning_cheapest (He.ma K (He.ga K "Manning") "cheapest") fd_Manning_cheapest := F_Manning_cheapest
  have h_Manning_cheapest := hasMeth (x := "Manning") (m := "cheapest") F_Manning_cheapest (c.fact 60 (f := .cls "Manning") rfl) (c.fact 69 (f := .meth "Manning" "cheapest") rfl) b_Manning_cheapest
  obtain ⟨fd_Manning_put_along, F_Manning_put_along⟩ := c.def_ 18 (d := d_Manning_put_along) rfl
  have F_Manning_put_along : FnP K "put_along" "Manning.put_along" s_Manning_put_along (He.ma K (He.ga K "Manning") "put_along") fd_Manning_put_along := F_Manning_put_along
  have h_Manning_put_along := hasMeth (x := "Manning") (m := "put_along") F_Manning_put_along (c.fact 60 (f := .cls "Manning") rfl) (c.fact 70 (f := .meth "Manning" "put_along") rfl) b_Manning_put_along
  obtain ⟨fd_Manning_fill, F_Manning_fill⟩ := c.def_ 19 (d := d_Manning_fill) rfl
  have F_Manning_fill : FnP K "fill" "Manning.fill" s_Manning_fill (He.ma K (He.ga K "Manning") "fill") fd_Manning_fill := F_Manning_fill
  have h_Manning_fill := hasMeth (x := "Manning") (m := "fill") F_Manning_fill (c.fact 60 (f := .cls "Manning") rfl) (c.fact 71 (f := .meth "Manning" "fill") rfl) b_Manning_fill
  obtain ⟨fd_Manning_hand_down, F_Manning_hand_down⟩ := c.def_ 20 (d := d_Manning_hand_down) rfl
  have F_Manning_hand_down : FnP K "hand_down" "Manning.hand_down" s_Manning_hand_down (He.ma K (He.ga K "Manning") "hand_down") fd_Manning_hand_down := F_Manning_hand_down
  have h_Manning_hand_down := hasMeth (x := "Manning") (m := "hand_down") F_Manning_hand_down (c.fact 60 (f := .cls "Manning") rfl) (c.fact 72 (f := .meth "Manning" "hand_down") rfl) b_Manning_hand_down
  obtain ⟨fd_Manning_place_down, F_Manning_place_down⟩ := c.def_ 21 (d := d_Manning_place_down) rfl
  have F_Manning_place_down : FnP K "place_down" "Manning.place_down" s_Manning_place_down (He.ma K (He.ga K "Manning") "place_down") fd_Manning_place_down := F_Manning_place_down
  have h_Manning_place_down := hasMeth (x := "Manning") (m := "place_down") F_Manning_place_down (c.fact 60 (f := .cls "Manning") rfl) (c.fact 73 (f := .meth "Manning" "place_down") rfl) b_Manning_place_down
  obtain ⟨fd_Manning_levelled, F_Manning_levelled⟩ := c.def_ 22 (d := d_Manning_levelled) rfl
  have F_Manning_levelled : FnP K "levelled" "Manning.levelled" s_Manning_levelled (He.ma K (He.ga K "Manning") "levelled") fd_Manning_levelled := F_Manning_levelled
  have h_Manning_levelled := hasMeth (x := "Manning") (m := "levelled") F_Manning_levelled (c.fact 60 (f := .cls "Manning") rfl) (c.fact 74 (f := .meth "Manning" "levelled") rfl) b_Manning_levelled
  obtain ⟨fd_Manning_paper, F_Manning_paper⟩ := c.def_ 23 (d := d_Manning_paper) rfl
  have F_Manning_paper : FnP K "paper" "Manning.paper" s_Manning_paper (He.ma K (He.ga K "Manning") "paper") fd_Manning_paper := F_Manning_paper
  have h_Manning_paper := hasMeth (x := "Manning") (m := "paper") F_Manning_paper (c.fact 60 (f := .cls "Manning") rfl) (c.fact 75 (f := .meth "Manning" "paper") rfl) b_Manning_paper
  obtain ⟨fd_man, F_man⟩ := c.def_ 24 (d := d_man) rfl
  have F_man : FnP K "man" "man" s_man (He.ga K "man") fd_man := F_man
  have h_man := hasDef (x := "man") X G F_man (c.fact 14 (f := .glo "man") rfl) b_man
  obtain ⟨fd_names_in, F_names_in⟩ := c.def_ 25 (d := d_names_in) rfl
  have F_names_in : FnP K "names_in" "names_in" s_names_in (He.ga K "names_in") fd_names_in := F_names_in
  have h_names_in := hasDef (x := "names_in") X G F_names_in (c.fact 15 (f := .glo "names_in") rfl) b_names_in
  obtain ⟨fd_in_order, F_in_order⟩ := c.def_ 26 (d := d_in_order) rfl
  have F_in_order : FnP K "in_order" "in_order" s_in_order (He.ga K "in_order") fd_in_order := F_in_order
  have h_in_order := hasDefC (x := "in_order") X G F_in_order (c.fact 16 (f := .glo "in_order") rfl) b_in_order
  obtain ⟨fd_Holding_init, F_Holding_init⟩ := c.def_ 27 (d := d_Holding_init) rfl
  have F_Holding_init : FnP K "__init__" "Holding.__init__" s_Holding_init (He.ma K (He.ga K "Holding") "__init__") fd_Holding_init := F_Holding_init
  have h_Holding_init := hasInit (x := "Holding") X G F_Holding_init (c.fact 41 (f := .glo "Holding") rfl) (c.fact 77 (f := .mkr "Holding") rfl) b_Holding_init
  obtain ⟨fd_Holding_mustered, F_Holding_mustered⟩ := c.def_ 28 (d := d_Holding_mustered) rfl
  have F_Holding_mustered : FnP K "mustered" "Holding.mustered" s_Holding_mustered (He.ma K (He.ga K "Holding") "mustered") fd_Holding_mustered := F_Holding_mustered
  have h_Holding_mustered := hasMeth (x := "Holding") (m := "mustered") F_Holding_mustered (c.fact 76 (f := .cls "Holding") rfl) (c.fact 85 (f := .meth "Holding" "mustered") rfl) b_Holding_mustered
  obtain ⟨fd_with_many, F_with_many⟩ := c.def_ 29 (d := d_with_many) rfl
  have F_with_many : FnP K "with_many" "with_many" s_with_many (He.ga K "with_many") fd_with_many := F_with_many
  have h_with_many := hasDef (x := "with_many") X G F_with_many (c.fact 17 (f := .glo "with_many") rfl) b_with_many
  obtain ⟨fd_places_of, F_places_of⟩ := c.def_ 30 (d := d_places_of) rfl
  have F_places_of : FnP K "places_of" "places_of" s_places_of (He.ga K "places_of") fd_places_of := F_places_of
  have h_places_of := hasDef (x := "places_of") X G F_places_of (c.fact 18 (f := .glo "places_of") rfl) b_places_of
  obtain ⟨fd_where_of, F_where_of⟩ := c.def_ 31 (d := d_where_of) rfl
  have F_where_of : FnP K "where_of" "where_of" s_where_of (He.ga K "where_of") fd_where_of := F_where_of
  have h_where_of := hasDef (x := "where_of") X G F_where_of (c.fact 19 (f := .glo "where_of") rfl) b_where_of
  obtain ⟨fd_Voyage_init, F_Voyage_init⟩ := c.def_ 32 (d := d_Voyage_init) rfl
  have F_Voyage_init : FnP K "__init__" "Voyage.__init__" s_Voyage_init (He.ma K (He.ga K "Voyage") "__init__") fd_Voyage_init := F_Voyage_init
  have h_Voyage_init := hasInit (x := "Voyage") X G F_Voyage_init (c.fact 42 (f := .glo "Voyage") rfl) (c.fact 87 (f := .mkr "Voyage") rfl) b_Voyage_init
  obtain ⟨fd_Voyage_come_to, F_Voyage_come_to⟩ := c.def_ 33 (d := d_Voyage_come_to) rfl
  have F_Voyage_come_to : FnP K "come_to" "Voyage.come_to" s_Voyage_come_to (He.ma K (He.ga K "Voyage") "come_to") fd_Voyage_come_to := F_Voyage_come_to
  have h_Voyage_come_to := hasMeth (x := "Voyage") (m := "come_to") F_Voyage_come_to (c.fact 86 (f := .cls "Voyage") rfl) (c.fact 95 (f := .meth "Voyage" "come_to") rfl) b_Voyage_come_to
  obtain ⟨fd_Voyage_lot_of_watch, F_Voyage_lot_of_watch⟩ := c.def_ 34 (d := d_Voyage_lot_of_watch) rfl
  have F_Voyage_lot_of_watch : FnP K "lot_of_watch" "Voyage.lot_of_watch" s_Voyage_lot_of_watch (He.ma K (He.ga K "Voyage") "lot_of_watch") fd_Voyage_lot_of_watch := F_Voyage_lot_of_watch
  have h_Voyage_lot_of_watch := hasMeth (x := "Voyage") (m := "lot_of_watch") F_Voyage_lot_of_watch (c.fact 86 (f := .cls "Voyage") rfl) (c.fact 96 (f := .meth "Voyage" "lot_of_watch") rfl) b_Voyage_lot_of_watch
  obtain ⟨fd_Voyage_by_bill, F_Voyage_by_bill⟩ := c.def_ 35 (d := d_Voyage_by_bill) rfl
  have F_Voyage_by_bill : FnP K "by_bill" "Voyage.by_bill" s_Voyage_by_bill (He.ma K (He.ga K "Voyage") "by_bill") fd_Voyage_by_bill := F_Voyage_by_bill
  have h_Voyage_by_bill := hasMeth (x := "Voyage") (m := "by_bill") F_Voyage_by_bill (c.fact 86 (f := .cls "Voyage") rfl) (c.fact 97 (f := .meth "Voyage" "by_bill") rfl) b_Voyage_by_bill
  obtain ⟨fd_Voyage_go_on, F_Voyage_go_on⟩ := c.def_ 36 (d := d_Voyage_go_on) rfl
  have F_Voyage_go_on : FnP K "go_on" "Voyage.go_on" s_Voyage_go_on (He.ma K (He.ga K "Voyage") "go_on") fd_Voyage_go_on := F_Voyage_go_on
  have h_Voyage_go_on := hasMeth (x := "Voyage") (m := "go_on") F_Voyage_go_on (c.fact 86 (f := .cls "Voyage") rfl) (c.fact 98 (f := .meth "Voyage" "go_on") rfl) b_Voyage_go_on
  obtain ⟨fd_come_so_far, F_come_so_far⟩ := c.def_ 37 (d := d_come_so_far) rfl
  have F_come_so_far : FnP K "come_so_far" "come_so_far" s_come_so_far (He.ga K "come_so_far") fd_come_so_far := F_come_so_far
  have h_come_so_far := hasDef (x := "come_so_far") X G F_come_so_far (c.fact 20 (f := .glo "come_so_far") rfl) b_come_so_far
  obtain ⟨fd_posted, F_posted⟩ := c.def_ 38 (d := d_posted) rfl
  have F_posted : FnP K "posted" "posted" s_posted (He.ga K "posted") fd_posted := F_posted
  have h_posted := hasDef (x := "posted") X G F_posted (c.fact 21 (f := .glo "posted") rfl) b_posted
  obtain ⟨fd_stations_there, F_stations_there⟩ := c.def_ 39 (d := d_stations_there) rfl
  have F_stations_there : FnP K "stations_there" "stations_there" s_stations_there (He.ga K "stations_there") fd_stations_there := F_stations_there
  have h_stations_there := hasDef (x := "stations_there") X G F_stations_there (c.fact 22 (f := .glo "stations_there") rfl) b_stations_there
  obtain ⟨fd_stations, F_stations⟩ := c.def_ 40 (d := d_stations) rfl
  have F_stations : FnP K "stations" "stations" s_stations (He.ga K "stations") fd_stations := F_stations
  have h_stations := hasDef (x := "stations") X G F_stations (c.fact 23 (f := .glo "stations") rfl) b_stations
  obtain ⟨fd_all_stations, F_all_stations⟩ := c.def_ 41 (d := d_all_stations) rfl
  have F_all_stations : FnP K "all_stations" "all_stations" s_all_stations (He.ga K "all_stations") fd_all_stations := F_all_stations
  have h_all_stations := hasDef (x := "all_stations") X G F_all_stations (c.fact 24 (f := .glo "all_stations") rfl) b_all_stations
  obtain ⟨fd_day_begins, F_day_begins⟩ := c.def_ 42 (d := d_day_begins) rfl
  have F_day_begins : FnP K "day_begins" "day_begins" s_day_begins (He.ga K "day_begins") fd_day_begins := F_day_begins
  have h_day_begins := hasDef (x := "day_begins") X G F_day_begins (c.fact 25 (f := .glo "day_begins") rfl) b_day_begins
  obtain ⟨fd_comes_round, F_comes_round⟩ := c.def_ 43 (d := d_comes_round) rfl
  have F_comes_round : FnP K "comes_round" "comes_round" s_comes_round (He.ga K "comes_round") fd_comes_round := F_comes_round
  have h_comes_round := hasDef (x := "comes_round") X G F_comes_round (c.fact 26 (f := .glo "comes_round") rfl) b_comes_round
  obtain ⟨fd__law_hand, F__law_hand⟩ := c.def_ 44 (d := d__law_hand) rfl
  have F__law_hand : FnP K "_law_hand" "_law_hand" s__law_hand (He.ga K "_law_hand") fd__law_hand := F__law_hand
  have h__law_hand := hasDef (x := "_law_hand") X G F__law_hand (c.fact 27 (f := .glo "_law_hand") rfl) b__law_hand
  obtain ⟨fd__law_take, F__law_take⟩ := c.def_ 45 (d := d__law_take) rfl
  have F__law_take : FnP K "_law_take" "_law_take" s__law_take (He.ga K "_law_take") fd__law_take := F__law_take
  have h__law_take := hasDef (x := "_law_take") X G F__law_take (c.fact 28 (f := .glo "_law_take") rfl) b__law_take
  obtain ⟨fd__law_of, F__law_of⟩ := c.def_ 46 (d := d__law_of) rfl
  have F__law_of : FnP K "_law_of" "_law_of" s__law_of (He.ga K "_law_of") fd__law_of := F__law_of
  have h__law_of := hasDef (x := "_law_of") X G F__law_of (c.fact 29 (f := .glo "_law_of") rfl) b__law_of
  obtain ⟨fd__law_order, F__law_order⟩ := c.def_ 47 (d := d__law_order) rfl
  have F__law_order : FnP K "_law_order" "_law_order" s__law_order (He.ga K "_law_order") fd__law_order := F__law_order
  have h__law_order := hasDef (x := "_law_order") X G F__law_order (c.fact 30 (f := .glo "_law_order") rfl) b__law_order
  obtain ⟨fd__law_names, F__law_names⟩ := c.def_ 48 (d := d__law_names) rfl
  have F__law_names : FnP K "_law_names" "_law_names" s__law_names (He.ga K "_law_names") fd__law_names := F__law_names
  have h__law_names := hasDef (x := "_law_names") X G F__law_names (c.fact 31 (f := .glo "_law_names") rfl) b__law_names
  obtain ⟨fd__law_lot, F__law_lot⟩ := c.def_ 49 (d := d__law_lot) rfl
  have F__law_lot : FnP K "_law_lot" "_law_lot" s__law_lot (He.ga K "_law_lot") fd__law_lot := F__law_lot
  have h__law_lot := hasDef (x := "_law_lot") X G F__law_lot (c.fact 32 (f := .glo "_law_lot") rfl) b__law_lot
  obtain ⟨fd__law_roll, F__law_roll⟩ := c.def_ 50 (d := d__law_roll) rfl
  have F__law_roll : FnP K "_law_roll" "_law_roll" s__law_roll (He.ga K "_law_roll") fd__law_roll := F__law_roll
  have h__law_roll := hasDef (x := "_law_roll") X G F__law_roll (c.fact 33 (f := .glo "_law_roll") rfl) b__law_roll
  obtain ⟨fd__law_ship, F__law_ship⟩ := c.def_ 51 (d := d__law_ship) rfl
  have F__law_ship : FnP K "_law_ship" "_law_ship" s__law_ship (He.ga K "_law_ship") fd__law_ship := F__law_ship
  have h__law_ship := hasDef (x := "_law_ship") X G F__law_ship (c.fact 34 (f := .glo "_law_ship") rfl) b__law_ship
  obtain ⟨fd__law_begins, F__law_begins⟩ := c.def_ 52 (d := d__law_begins) rfl
  have F__law_begins : FnP K "_law_begins" "_law_begins" s__law_begins (He.ga K "_law_begins") fd__law_begins := F__law_begins
  have h__law_begins := hasDef (x := "_law_begins") X G F__law_begins (c.fact 35 (f := .glo "_law_begins") rfl) b__law_begins
  obtain ⟨fd__law_due, F__law_due⟩ := c.def_ 53 (d := d__law_due) rfl
  have F__law_due : FnP K "_law_due" "_law_due" s__law_due (He.ga K "_law_due") fd__law_due := F__law_due
  have h__law_due := hasDef (x := "_law_due") X G F__law_due (c.fact 36 (f := .glo "_law_due") rfl) b__law_due
  obtain ⟨fd__law_again, F__law_again⟩ := c.def_ 54 (d := d__law_again) rfl
  have F__law_again : FnP K "_law_again" "_law_again" s__law_again (He.ga K "_law_again") fd__law_again := F__law_again
  have h__law_again := hasDef (x := "_law_again") X G F__law_again (c.fact 37 (f := .glo "_law_again") rfl) b__law_again
  -- the promises, one upon the other
  have c_bells_in := cal_bells_in (P := P) (w := w) (base := base) T h_bells_in
  have c_watch_at := cal_watch_at (P := P) (w := w) (base := base) T h_watch_at c_bells_in
  have c_divisor := cal_divisor (P := P) (w := w) (base := base) h_divisor
  have c_cycle_from := cal_cycle_from (P := P) (w := w) (base := base) T h_cycle_from
  have c_cycles := cal_cycles (P := P) (w := w) (base := base) T h_cycles c_cycle_from
  have c_round_of := cal_round_of (P := P) (w := w) (base := base) T h_round_of c_cycles c_divisor
  have c_order_at := cal_order_at (P := P) (w := w) (base := base) T h_order_at c_round_of
  have c_kept_by := cal_kept_by (P := P) (w := w) (base := base) T h_kept_by c_order_at
  have c_keeper := cal_keeper (P := P) (w := w) (base := base) h_keeper c_watch_at c_kept_by
  have c_short := cal_short (P := P) (w := w) (base := base) T h_short
  have c_is_fit := cal_is_fit (P := P) (w := w) (base := base) h_is_fit c_short
  have c_lack_price := cal_lack_price (P := P) (w := w) (base := base) T h_lack_price
  have c_cost_of := cal_cost_of (P := P) (w := w) (base := base) T h_cost_of c_short
  have c_costs_of := cal_costs_of (P := P) (w := w) (base := base) h_costs_of c_is_fit c_cost_of
  have c_fit_places := met_fit_places (P := P) (w := w) (base := base) T h_Manning_fit_places
  have c_relax := met_relax (P := P) (w := w) (base := base) T h_Manning_relax c_fit_places
  have c_cheapest := met_cheapest (P := P) (w := w) (base := base) T h_Manning_cheapest c_relax
  have c_put_along := met_put_along (P := P) (w := w) (base := base) T h_Manning_put_along
  have c_fill := met_fill (P := P) (w := w) (base := base) T h_Manning_fill c_cheapest c_put_along
  have c_hand_down := met_hand_down (P := P) (w := w) (base := base) T h_Manning_hand_down
  have c_place_down := met_place_down (P := P) (w := w) (base := base) T h_Manning_place_down
  have c_levelled := met_levelled (P := P) (w := w) (base := base) T h_Manning_levelled c_hand_down c_place_down c_fit_places
  have c_paper := met_paper (P := P) (w := w) (base := base) T h_Manning_paper c_levelled
  have c_Manning := mak_Manning (P := P) (w := w) (base := base) T h_Manning_init c_lack_price c_costs_of
  have c_man := cal_man (P := P) (w := w) (base := base) T h_man c_Manning c_fill c_paper
  have c_names_in := cal_names_in (P := P) (w := w) (base := base) h_names_in
  have c_in_order := cal_in_order (P := P) (w := w) (base := base) T h_in_order TB
  have c_mustered := met_mustered (P := P) (w := w) (base := base) T h_Holding_mustered
  have c_Holding := mak_Holding (P := P) (w := w) (base := base) T h_Holding_init c_names_in
  have c_with_many := cal_with_many (P := P) (w := w) (base := base) h_with_many
  have c_places_of := cal_places_of (P := P) (w := w) (base := base) T h_places_of
  have c_where_of := cal_where_of (P := P) (w := w) (base := base) h_where_of
  have c_come_to := met_come_to (P := P) (w := w) (base := base) T h_Voyage_come_to c_mustered
  have c_lot_of_watch := met_lot_of_watch (P := P) (w := w) (base := base) T h_Voyage_lot_of_watch c_watch_at c_with_many
  have c_by_bill := met_by_bill (P := P) (w := w) (base := base) T h_Voyage_by_bill c_keeper c_lot_of_watch
  have c_go_on := met_go_on (P := P) (w := w) (base := base) T h_Voyage_go_on c_by_bill c_man c_places_of c_come_to c_where_of
  have c_Voyage := mak_Voyage (P := P) (w := w) (base := base) T h_Voyage_init c_in_order c_Holding c_come_to
  have c_stations_there := cal_stations_there (P := P) (w := w) (base := base) T h_stations_there
  have c_come_so_far := cal_come_so_far (P := P) (w := w) (base := base) T h_come_so_far c_Voyage c_go_on
  have c_posted := cal_posted (P := P) (w := w) (base := base) T h_posted c_Voyage c_go_on
  have c_stations := cal_stations (P := P) (w := w) (base := base) h_stations c_come_so_far c_stations_there
  have c_all_stations := cal_all_stations (P := P) (w := w) (base := base) T h_all_stations c_Voyage c_go_on c_stations_there
  have c_day_begins := cal_day_begins (P := P) (w := w) (base := base) T h_day_begins c_bells_in c_all_stations c_order_at
  have c_comes_round := cal_comes_round (P := P) (w := w) (base := base) T h_comes_round c_day_begins
  have c__law_hand := cal__law_hand (P := P) (w := w) (base := base) T h__law_hand
  have c__law_take := cal__law_take (P := P) (w := w) (base := base) T h__law_take
  have c__law_of := cal__law_of (P := P) (w := w) (base := base) T h__law_of c__law_take
  have c__law_order := cal__law_order (P := P) (w := w) (base := base) T h__law_order c__law_take
  have c__law_names := cal__law_names (P := P) (w := w) (base := base) T h__law_names c__law_of
  have c__law_lot := cal__law_lot (P := P) (w := w) (base := base) T h__law_lot c__law_take c__law_of
  have c__law_roll := cal__law_roll (P := P) (w := w) (base := base) T h__law_roll c__law_take c__law_names
  have c__law_ship := cal__law_ship (P := P) (w := w) (base := base) T h__law_ship c__law_take c__law_order c__law_names c__law_lot c__law_roll
  have c__law_begins := cal__law_begins (P := P) (w := w) (base := base) T h__law_begins
  have c__law_due := cal__law_due (P := P) (w := w) (base := base) T h__law_due
  have c__law_again := cal__law_again (P := P) (w := w) (base := base) T h__law_again
  refine C8.fn0 (c8fun FL) sc_law (fun vs H Q E hh => ?_) (fun cdv A outer s H vs Q E hr hh => body_law T c__law_hand c__law_take c__law_ship c_posted c__law_begins c_comes_round c__law_due c_stations c_round_of c__law_again _ cdv A outer s H vs Q E hr hh)
  obtain ⟨a, ns, rfl, _⟩ := hh
  rfl
end
end WS
open PySem PySem.W PySem.Calls PyProof.Rows
theorem PySem.Challenge.cw_watchstations_k66_whole_comes_round_holds : PySem.Challenge.rw_watchstations_k66_whole_comes_round.Holds := by
  w_on; o_law
  refine HandSHeadRun.head_any (r := OpenLaw.row PySem.Challenge.rw_watchstations_k66_whole_comes_round) (q := view (OpenLaw.row PySem.Challenge.rw_watchstations_k66_whole_comes_round).prog [57]) (H := WS.hk) (ob := WS.ob) (M := 3000) (loose := WS.loose) (d := HandSHeadRun.topDef (OpenLaw.row PySem.Challenge.rw_watchstations_k66_whole_comes_round).prog 57) (kwd := []) WS.ob_eq
    (by kernel_rfl) (fun s => by kernel_rfl) WS.run (by kernel_rfl) (by kernel_rfl) (by kernel_rfl) (by rfl) (by first | assumption | decide +kernel) (by decide +kernel) ⟨rfl, rfl, rfl, rfl, rfl, by decide +kernel⟩ ?hw ?hc
  case hw => w_witness2
  case hc =>
    refine LamX.walk_ofTsE (l := PySem.Challenge.rw_watchstations_k66_whole_comes_round) (n := 63) (k := 12) (x := "_law_script") (CX := fun _ => C8.CX0) rfl (by decide) (by kernel_rfl) ⟨rfl, by decide, by decide⟩ ?F (fun _ _ _ _ _ z => z)
    intro w mg fa h Y G hmg0
    obtain ⟨K, KX, c⟩ := Y
    have hmg : mg ("law" : PySem.Str) = some (.ref fa) := by
      have e : (HandSHeadRun.topDef (OpenLaw.row PySem.Challenge.rw_watchstations_k66_whole_comes_round).prog 57).name = ("law" : PySem.Str) := by kernel_rfl
      rw [← e]
      exact hmg0
    have cd := c.t.d
    have e := hmg.symm.trans (He.glo_ok KX G (cd.fact 38 (f := .glo "law") rfl))
    cases e
    obtain ⟨fdL, FL⟩ := cd.def_ 55 (d := WS.d_law) rfl
    have FL : WS.FnP K "law" "law" WS.s_law (He.ga K "law") fdL := FL
    have b := L2.FunD.bindsA (ps := ["_law_script"]) FL WS.b_law
    refine ⟨K, KX, fdL, [He.cT K ("in_order", none)], WS.sp_law (K := K) (He.cT K ("in_order", none)).2, ?_, ?_, ?_, fun s u => b s [u] rfl, ?_, ?_⟩
    · intro p hp
      rw [List.mem_singleton] at hp
      subst hp
      exact c.empty _ (List.mem_singleton.mpr rfl)
    · intro p hp
      rw [List.mem_singleton] at hp
      subst hp
      exact c.out _ (List.mem_singleton.mpr rfl)
    · intro p hp
      rw [List.mem_singleton] at hp
      subst hp
      exact PySem.W.codeHd_of_K KX (c.hd _ (List.mem_singleton.mpr rfl))
    · intro H a ns hl _ hH hS
      exact ⟨a, ns, rfl, hS, hl, LamX.TabS.nil (hH _ (List.mem_singleton.mpr rfl)), fun _ => rfl⟩
    · intro base _ _ hTB
      exact WS.law_ok KX G cd c.more (hTB _ (List.mem_singleton.mpr rfl)) FL
