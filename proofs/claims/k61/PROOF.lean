import PyProof.Rows.All
import Wide.All
import OpenK.AllK
import Wide.FinOn
import HandS.ForMost
import HandS.Exc
import KE.SortData
import HandS.Style
import HandS.Conv
import HandS.WideBits
import HandS.TupAny
import HandS.IsInst
import HandS.Deep
import HandS.SortInts
import HandS.Steps
import HandS.RaiseMore
import HandS.HeadEnd
import HandS.EndBits
import HandS.HeadHook2
import HandS.SetFor
import HandS.Wide
import KE.GoesEnumKw
import KE.GoesMore
import PyProof.ReprBulk
import HandS.Head2
import KE.KStateDown
import PySem.Challenge.RW_checkwright_k61_whole_distances
set_option Elab.async false
set_option linter.all false
set_option maxRecDepth 100000
/-! Ev0: ownership trees over an abstract heap: what stands where, what is kept. -/
namespace Ev
open PySem PySem.Spec PyProof.Rows L2

abbrev D := PyData
abbrev Frag := PySem.W.Frag

/-- a value: frozen data; a list that one owner holds; a tuple with owned things in it -/
inductive O where
  | v (d : D)
  | own (xs : List O)
  | tup (xs : List O)

mutual
def O.d : O → D
  | .v d => d
  | .own xs => .list (O.ds xs)
  | .tup xs => .tuple (O.ds xs)
def O.ds : List O → List D
  | [] => []
  | x :: xs => x.d :: O.ds xs
end
theorem O.ds_map : ∀ xs : List O, O.ds xs = xs.map O.d
  | [] => rfl
  | x :: xs => by rw [O.ds, O.ds_map xs, List.map_cons]
theorem O.ds_v : ∀ ds : List D, O.ds (ds.map O.v) = ds
  | [] => rfl
  | d :: ds => by
    show (O.v d).d :: O.ds (ds.map O.v) = d :: ds
    rw [O.ds_v ds]
    rfl

-- x is the data d, in what is frozen
mutual
inductive Dr (Z : Hp) : V → D → Prop
  | non : Dr Z .non .none
  | bl (b : Bool) : Dr Z (.bl b) (.bool b)
  | int (i : Int) : Dr Z (.int i) (.int i)
  | str (x : Str) : Dr Z (.str x) (.str x)
  | lst {a : Addr} {xs : List V} {ds : List D} : Rd Z a (.lst xs) → DrAll Z xs ds → Dr Z (.ref a) (.list ds)
  | tup {a : Addr} {xs : List V} {ds : List D} : Z a = some (.tup xs) → DrAll Z xs ds → Dr Z (.ref a) (.tuple ds)
inductive DrAll (Z : Hp) : List V → List D → Prop
  | nil : DrAll Z [] []
  | cons {v : V} {vs : List V} {d : D} {ds : List D} : Dr Z v d → DrAll Z vs ds → DrAll Z (v :: vs) (d :: ds)
end
theorem rd_same {Z Z' : Hp} (h : Same Z Z') {a : Addr} {u : HO} : Rd Z a u → Rd Z' a u
  | .inl e => .inl (h _ _ e)
  | .inr ⟨o, e⟩ => .inr ⟨o, h _ _ e⟩
-- x is the thing o: Z what is frozen, H all that stands; F the lists that are owned
mutual
inductive OR (K : Frag) (Z H : Hp) : V → O → List Addr → Prop
  | v {x : V} {d : D} : Dr Z x d → OR K Z H x (.v d) []
  | own {a : Addr} {vs : List V} {os : List O} {F : List Addr} : H a = some (.lst vs) → Z a = none → ORs K Z H vs os F → OR K Z H (.ref a) (.own os) (a :: F)
  | tup {a : Addr} {vs : List V} {os : List O} {F : List Addr} : H a = some (.tup vs) → ORs K Z H vs os F → OR K Z H (.ref a) (.tup os) F
inductive ORs (K : Frag) (Z H : Hp) : List V → List O → List Addr → Prop
  | nil : ORs K Z H [] [] []
  | cons {x : V} {xs : List V} {o : O} {os : List O} {F G : List Addr} : OR K Z H x o F → ORs K Z H xs os G → ORs K Z H (x :: xs) (o :: os) (F ++ G)
end

theorem same_refl (H : Hp) : Same H H := fun _ _ h => h
theorem same_trans {A B C : Hp} (h : Same A B) (g : Same B C) : Same A C := fun b o e => g b o (h b o e)

section
variable {K : Frag} {Z Z' H H' : Hp}

mutual
theorem Dr.sub (h : Same Z Z') : ∀ {x : V} {d : D}, Dr Z x d → Dr Z' x d
  | _, _, .non => .non
  | _, _, .bl b => .bl b
  | _, _, .int i => .int i
  | _, _, .str x => .str x
  | _, _, .lst s a => .lst (rd_same h s) (DrAll.sub h a)
  | _, _, .tup s a => .tup (h _ _ s) (DrAll.sub h a)
theorem DrAll.sub (h : Same Z Z') : ∀ {xs : List V} {ds : List D}, DrAll Z xs ds → DrAll Z' xs ds
  | _, _, .nil => .nil
  | _, _, .cons a b => .cons (Dr.sub h a) (DrAll.sub h b)
end
-- as the library's data
mutual
theorem Dr.dp : ∀ {x : V} {d : D}, Dr Z x d → Dp K Z x d
  | _, _, .non => .non
  | _, _, .bl b => .bl b
  | _, _, .int i => .int i
  | _, _, .str x => .str x
  | _, _, .lst s a => .lst (.inl s) (DrAll.dp a)
  | _, _, .tup s a => .tup (.inl (.inl s)) (DrAll.dp a)
theorem DrAll.dp : ∀ {xs : List V} {ds : List D}, DrAll Z xs ds → DpAll K Z xs ds
  | _, _, .nil => .nil
  | _, _, .cons a b => .cons (Dr.dp a) (DrAll.dp b)
end
theorem DrAll.length : ∀ {xs : List V} {ds : List D}, DrAll Z xs ds → xs.length = ds.length
  | _, _, .nil => rfl
  | _, _, .cons _ b => congrArg Nat.succ (DrAll.length b)
theorem DrAll.get : ∀ {xs : List V} {ds : List D} {i : Nat} {x : V} {d : D}, DrAll Z xs ds → xs[i]? = some x → ds[i]? = some d → Dr Z x d
  | _, _, _, _, _, .nil, e, _ => by simp at e
  | _, _, 0, _, _, .cons a _, e, f => by
    simp at e f
    subst e f
    exact a
  | _, _, i + 1, _, _, .cons _ b, e, f => DrAll.get (i := i) b (by simpa using e) (by simpa using f)
theorem ORs.length : ∀ {xs : List V} {os : List O} {F : List Addr}, ORs K Z H xs os F → xs.length = os.length
  | _, _, _, .nil => rfl
  | _, _, _, .cons _ b => congrArg Nat.succ (ORs.length b)

-- what is owned stands, is a list, is not frozen
mutual
theorem OR.mem : ∀ {x : V} {o : O} {F : List Addr}, OR K Z H x o F → ∀ a ∈ F, (∃ vs, H a = some (.lst vs)) ∧ Z a = none
  | _, _, _, .v _, a, h => nomatch h
  | _, _, _, .own e z r, a, h => by
    rcases List.mem_cons.mp h with q | q
    · rw [q]
      exact ⟨⟨_, e⟩, z⟩
    · exact ORs.mem r a q
  | _, _, _, .tup e r, a, h => ORs.mem r a h
theorem ORs.mem : ∀ {xs : List V} {os : List O} {F : List Addr}, ORs K Z H xs os F → ∀ a ∈ F, (∃ vs, H a = some (.lst vs)) ∧ Z a = none
  | _, _, _, .nil, a, h => nomatch h
  | _, _, _, .cons r s, a, h => by
    rcases List.mem_append.mp h with q | q
    · exact OR.mem r a q
    · exact ORs.mem s a q
end

-- kept where the owned lists, the tuples and the frozen things are kept
mutual
theorem OR.keep (hz : Same Z Z') (ht : ∀ a xs, H a = some (.tup xs) → H' a = some (.tup xs)) : ∀ {x : V} {o : O} {F : List Addr}, OR K Z H x o F → (∀ a ∈ F, H' a = H a ∧ Z' a = none) → OR K Z' H' x o F
  | _, _, _, .v d, _ => .v (Dr.sub hz d)
  | _, _, _, .own e z r, k => .own ((k _ (List.mem_cons_self ..)).1.trans e) (k _ (List.mem_cons_self ..)).2 (ORs.keep hz ht r fun a h => k a (List.mem_cons_of_mem _ h))
  | _, _, _, .tup e r, k => .tup (ht _ _ e) (ORs.keep hz ht r k)
theorem ORs.keep (hz : Same Z Z') (ht : ∀ a xs, H a = some (.tup xs) → H' a = some (.tup xs)) : ∀ {xs : List V} {os : List O} {F : List Addr}, ORs K Z H xs os F → (∀ a ∈ F, H' a = H a ∧ Z' a = none) → ORs K Z' H' xs os F
  | _, _, _, .nil, _ => .nil
  | _, _, _, .cons r s, k => .cons (OR.keep hz ht r fun a h => k a (List.mem_append_left _ h)) (ORs.keep hz ht s fun a h => k a (List.mem_append_right _ h))
end

-- read as data, in all that stands
mutual
theorem OR.dr (hs : Same Z H) : ∀ {x : V} {o : O} {F : List Addr}, OR K Z H x o F → Dr H x o.d
  | _, _, _, .v d => Dr.sub hs d
  | _, _, _, .own e z r => .lst (.inl e) (ORs.dr hs r)
  | _, _, _, .tup e r => .tup e (ORs.dr hs r)
theorem ORs.dr (hs : Same Z H) : ∀ {xs : List V} {os : List O} {F : List Addr}, ORs K Z H xs os F → DrAll H xs (O.ds os)
  | _, _, _, .nil => .nil
  | _, _, _, .cons r s => .cons (OR.dr hs r) (ORs.dr hs s)
end

-- from a set of lists on frozen: all tuples with them -/
def frz (Z H : Hp) (F : List Addr) : Hp := fun a => match Z a with
  | some o => some o
  | none => if a ∈ F then H a else match H a with
    | some (.tup xs) => some (.tup xs)
    | _ => none
theorem frz_z {F : List Addr} : Same Z (frz Z H F) := fun a o e => by
  unfold frz
  rw [e]
theorem frz_sub {F : List Addr} (hs : Same Z H) : Same (frz Z H F) H := fun a o e => by
  unfold frz at e
  cases q : Z a with
  | some u =>
    rw [q] at e
    cases e
    exact hs _ _ q
  | none =>
    rw [q] at e
    simp only at e
    split at e
    · exact e
    · split at e
      · rename_i xs h
        cases e
        exact h
      · cases e
theorem frz_tup {F : List Addr} {a : Addr} {xs : List V} (hs : Same Z H) (e : H a = some (.tup xs)) : frz Z H F a = some (.tup xs) := by
  unfold frz
  cases q : Z a with
  | some u =>
    have := hs _ _ q
    rw [e] at this
    cases this
    rfl
  | none =>
    simp only
    split
    · exact e
    · rw [e]
theorem frz_mem {F : List Addr} {a : Addr} (z : Z a = none) (h : a ∈ F) : frz Z H F a = H a := by
  unfold frz
  rw [z]
  simp only
  rw [if_pos h]
theorem frz_none {F : List Addr} {a : Addr} {vs : List V} (z : Z a = none) (h : a ∉ F) (e : H a = some (.lst vs)) : frz Z H F a = none := by
  unfold frz
  rw [z]
  simp only
  rw [if_neg h, e]
/-- a frozen address was so, is one of these lists, or is a tuple that stands -/
theorem frz_new {F : List Addr} {a : Addr} {o : HO} (e : frz Z H F a = some o) : Z a = some o ∨ (a ∈ F ∧ H a = some o) ∨ ∃ xs, o = .tup xs ∧ H a = some (.tup xs) := by
  unfold frz at e
  cases q : Z a with
  | some u =>
    rw [q] at e
    cases e
    exact .inl rfl
  | none =>
    rw [q] at e
    simp only at e
    split at e
    · rename_i h
      exact .inr (.inl ⟨h, e⟩)
    · split at e
      · rename_i xs h
        cases e
        exact .inr (.inr ⟨xs, rfl, h⟩)
      · cases e
mutual
theorem OR.freeze {F : List Addr} (hs : Same Z H) : ∀ {x : V} {o : O} {G : List Addr}, OR K Z H x o G → (∀ a ∈ G, a ∈ F) → Dr (frz Z H F) x o.d
  | _, _, _, .v d, _ => Dr.sub frz_z d
  | _, _, _, .own e z r, k => .lst (.inl ((frz_mem z (k _ (List.mem_cons_self ..))).trans e)) (ORs.freeze hs r fun a h => k a (List.mem_cons_of_mem _ h))
  | _, _, _, .tup e r, k => .tup (frz_tup hs e) (ORs.freeze hs r k)
theorem ORs.freeze {F : List Addr} (hs : Same Z H) : ∀ {xs : List V} {os : List O} {G : List Addr}, ORs K Z H xs os G → (∀ a ∈ G, a ∈ F) → DrAll (frz Z H F) xs (O.ds os)
  | _, _, _, .nil, _ => .nil
  | _, _, _, .cons r s, k => .cons (OR.freeze hs r fun a h => k a (List.mem_append_left _ h)) (ORs.freeze hs s fun a h => k a (List.mem_append_right _ h))
end
end
end Ev
set_option Elab.async false
set_option linter.all false
set_option maxRecDepth 100000
/-! Ev1: a def's slots as things; what a step keeps. -/
namespace Ev
open PySem PySem.Spec PyProof.Rows L2

abbrev Ve := List (Option O)

/-- the slots σ hold the things env (none: nothing is known); F: the lists that they own -/
inductive Rel (K : Frag) (Z H : Hp) : List (Option V) → Ve → List Addr → Prop
  | nil : Rel K Z H [] [] []
  | skip {s : Option V} {σ : List (Option V)} {env : Ve} {F : List Addr} : Rel K Z H σ env F → Rel K Z H (s :: σ) (none :: env) F
  | some {x : V} {o : O} {σ : List (Option V)} {env : Ve} {F G P : List Addr} : OR K Z H x o F → Rel K Z H σ env G → P.Perm (F ++ G) → Rel K Z H (some x :: σ) (some o :: env) P

section
variable {K : Frag} {Z Z' H H' : Hp} {σ : List (Option V)} {env : Ve} {F : List Addr}
theorem Rel.len : ∀ {σ : List (Option V)} {env : Ve} {F : List Addr}, Rel K Z H σ env F → σ.length = env.length
  | _, _, _, .nil => rfl
  | _, _, _, .skip r => congrArg Nat.succ (Rel.len r)
  | _, _, _, .some _ r _ => congrArg Nat.succ (Rel.len r)
theorem Rel.mem : ∀ {σ : List (Option V)} {env : Ve} {F : List Addr}, Rel K Z H σ env F → ∀ a ∈ F, (∃ vs, H a = Option.some (.lst vs)) ∧ Z a = none
  | _, _, _, .nil, _, h => nomatch h
  | _, _, _, .skip r, a, h => Rel.mem r a h
  | _, _, _, .some q r p, a, h => by
    rcases List.mem_append.mp (p.mem_iff.mp h) with z | z
    · exact OR.mem q a z
    · exact Rel.mem r a z
theorem Rel.perm {G : List Addr} : ∀ {σ : List (Option V)} {env : Ve} {F : List Addr}, Rel K Z H σ env F → G.Perm F → Rel K Z H σ env G
  | _, _, _, .nil, p => by
    rw [p.eq_nil]
    exact .nil
  | _, _, _, .skip r, p => .skip (Rel.perm r p)
  | _, _, _, .some q r p', p => .some q r (p.trans p')
theorem Rel.keep (hz : Same Z Z') (ht : ∀ a xs, H a = Option.some (.tup xs) → H' a = Option.some (.tup xs)) : ∀ {σ : List (Option V)} {env : Ve} {F : List Addr}, Rel K Z H σ env F → (∀ a ∈ F, H' a = H a ∧ Z' a = none) → Rel K Z' H' σ env F
  | _, _, _, .nil, _ => .nil
  | _, _, _, .skip r, k => .skip (Rel.keep hz ht r k)
  | _, _, _, .some q r p, k => .some (OR.keep hz ht q fun a h => k a (p.mem_iff.mpr (List.mem_append_left _ h))) (Rel.keep hz ht r fun a h => k a (p.mem_iff.mpr (List.mem_append_right _ h))) p
/-- a slot's thing taken out -/
theorem Rel.get : ∀ {σ : List (Option V)} {env : Ve} {F : List Addr} {i : Nat} {o : O}, Rel K Z H σ env F → env[i]? = Option.some (Option.some o) →
    ∃ x f G, σ[i]? = Option.some (Option.some x) ∧ OR K Z H x o f ∧ Rel K Z H σ (env.set i none) G ∧ F.Perm (f ++ G)
  | _, _, _, _, _, .nil, e => by simp at e
  | _, _, _, 0, _, .skip r, e => by simp at e
  | _, _, _, i + 1, _, .skip r, e => by
    obtain ⟨x, f, G, h1, h2, h3, h4⟩ := Rel.get (i := i) r (by simpa using e)
    exact ⟨x, f, G, by simpa using h1, h2, .skip h3, h4⟩
  | _, _, _, 0, _, .some q r p, e => by
    simp at e
    subst e
    exact ⟨_, _, _, by simp, q, .skip r, p⟩
  | _, _, _, i + 1, _, .some (F := f1) q r p, e => by
    obtain ⟨x, f, G, h1, h2, h3, h4⟩ := Rel.get (i := i) r (by simpa using e)
    refine ⟨x, f, f1 ++ G, by simpa using h1, h2, .some q h3 (List.Perm.refl _), p.trans ?_⟩
    refine (List.Perm.append_left f1 h4).trans ?_
    rw [← List.append_assoc, ← List.append_assoc]
    exact List.Perm.append_right G List.perm_append_comm
theorem set_self {α : Type} : ∀ {l : List α} {i : Nat} {a : α}, l[i]? = Option.some a → l.set i a = l
  | [], _, _, e => by simp at e
  | _ :: _, 0, _, e => by
    simp at e
    subst e
    rfl
  | x :: l, i + 1, a, e => congrArg (x :: ·) (set_self (l := l) (i := i) (by simpa using e))
/-- a slot forgotten -/
theorem Rel.drop (i : Nat) (r : Rel K Z H σ env F) : ∃ f G, Rel K Z H σ (env.set i none) G ∧ F.Perm (f ++ G) := by
  by_cases hi : i < env.length
  · cases e : env[i]? with
    | none => rw [List.getElem?_eq_none_iff] at e; omega
    | some u =>
      cases u with
      | none =>
        refine ⟨[], F, ?_, List.Perm.refl _⟩
        rw [set_self e]
        exact r
      | some o =>
        obtain ⟨x, f, G, _, _, h3, h4⟩ := r.get e
        exact ⟨f, G, h3, h4⟩
  · refine ⟨[], F, ?_, List.Perm.refl _⟩
    rw [List.set_eq_of_length_le (by omega)]
    exact r
/-- an empty slot gets a thing -/
theorem Rel.put {x : V} {o : O} {f : List Addr} : ∀ {σ : List (Option V)} {env : Ve} {F : List Addr} {i : Nat}, Rel K Z H σ env F → env[i]? = Option.some none → OR K Z H x o f → Rel K Z H (σ.set i (Option.some x)) (env.set i (Option.some o)) (f ++ F)
  | _, _, _, _, .nil, e, _ => by simp at e
  | _, _, _, 0, .skip r, e, q => .some q r (List.Perm.refl _)
  | _, _, _, i + 1, .skip r, e, q => .skip (Rel.put (i := i) r (by simpa using e) q)
  | _, _, _, 0, .some _ _ _, e, _ => by simp at e
  | _, _, _, i + 1, .some (F := f1) (G := G) q' r p, e, q => by
    refine .some q' (Rel.put (i := i) r (by simpa using e) q) ?_
    refine (List.Perm.append_left f p).trans ?_
    rw [← List.append_assoc, ← List.append_assoc]
    exact List.Perm.append_right G List.perm_append_comm
/-- an empty slot may hold anything -/
theorem Rel.any {s : Option V} : ∀ {σ : List (Option V)} {env : Ve} {F : List Addr} {i : Nat}, Rel K Z H σ env F → env[i]? = Option.some none → Rel K Z H (σ.set i s) env F
  | _, _, _, _, .nil, e => by simp at e
  | _, _, _, 0, .skip r, e => .skip r
  | _, _, _, i + 1, .skip r, e => .skip (Rel.any (i := i) r (by simpa using e))
  | _, _, _, 0, .some _ _ _, e => by simp at e
  | _, _, _, i + 1, .some q r p, e => .some q (Rel.any (i := i) r (by simpa using e)) p
theorem set_set_same {α : Type} : ∀ (l : List α) (i : Nat) (a b : α), (l.set i a).set i b = l.set i b
  | [], _, _, _ => rfl
  | _ :: _, 0, _, _ => rfl
  | x :: l, i + 1, a, b => congrArg (x :: ·) (set_set_same l i a b)
theorem get_set_self {α : Type} {l : List α} {i : Nat} {a : α} (h : i < l.length) : (l.set i a)[i]? = Option.some a := by
  rw [List.getElem?_set]
  simp [h]
/-- the slot's thing put back in another form -/
theorem Rel.back {i : Nat} {x : V} {o : O} {f G : List Addr} (r : Rel K Z H σ (env.set i none) G) (hs : σ[i]? = Option.some (Option.some x)) (q : OR K Z H x o f) : Rel K Z H σ (env.set i (Option.some o)) (f ++ G) := by
  have hl : i < env.length := by
    have := r.len
    rw [List.length_set] at this
    have h2 : i < σ.length := by
      rcases Nat.lt_or_ge i σ.length with h | h
      · exact h
      · rw [List.getElem?_eq_none_iff.mpr h] at hs
        cases hs
    omega
  have p := Rel.put (i := i) r (get_set_self hl) q
  rw [set_set_same, set_self hs] at p
  exact p
end

/-- from (Z, H, owned F) to (Z', H', owned G) -/
structure Ext (Z H : Hp) (F : List Addr) (Z' H' : Hp) (G : List Addr) : Prop where
  zz : Same Z Z'
  fr : ∀ a o, H a = some o → a ∉ F → H' a = some o
  zn : ∀ a o, Z' a = some o → (∃ u, Z a = some u) ∨ a ∈ F ∨ H a = none ∨ ∃ xs, H a = some (.tup xs)
  gn : ∀ a ∈ G, a ∈ F ∨ H a = none
  tu : ∀ a xs, H a = some (.tup xs) → H' a = some (.tup xs)
section
variable {K : Frag} {Z Z1 Z2 H H1 H2 : Hp} {σ : List (Option V)} {env : Ve} {F F1 F2 G G1 G2 P : List Addr}
theorem Ext.refl : Ext Z H F Z H F := ⟨same_refl _, fun _ _ h _ => h, fun _ o h => .inl ⟨o, h⟩, fun _ h => .inl h, fun _ _ h => h⟩
theorem Ext.sub (e : Ext Z H F Z1 H1 G) (h : ∀ a ∈ G1, a ∈ G) : Ext Z H F Z1 H1 G1 := ⟨e.zz, e.fr, e.zn, fun a m => e.gn a (h a m), e.tu⟩
theorem Ext.trans (a : Ext Z H F Z1 H1 G1) (b : Ext Z1 H1 F1 Z2 H2 G2) (h : ∀ a ∈ F1, a ∈ G1) : Ext Z H F Z2 H2 G2 := by
  have back : ∀ x, (x ∈ F1 ∨ H1 x = none) → x ∈ F ∨ H x = none := fun x q => by
    rcases q with q | q
    · exact a.gn x (h x q)
    · by_cases m : x ∈ F
      · exact .inl m
      · cases e : H x with
        | none => exact .inr rfl
        | some o =>
          have := a.fr x o e m
          rw [q] at this
          cases this
  refine ⟨same_trans a.zz b.zz, fun x o e m => b.fr x o (a.fr x o e m) fun q => ?_, fun x o e => ?_, fun x m => back x (b.gn x m), fun x xs e => b.tu x xs (a.tu x xs e)⟩
  · rcases a.gn x (h x q) with z | z
    · exact m z
    · rw [e] at z
      cases z
  · rcases b.zn x o e with ⟨u, z⟩ | z | z | ⟨xs, z⟩
    · exact a.zn x u z
    · exact .inr ((back x (.inl z)).elim .inl fun q => .inr (.inl q))
    · exact .inr ((back x (.inr z)).elim .inl fun q => .inr (.inl q))
    · by_cases m : x ∈ F
      · exact .inr (.inl m)
      · cases q : H x with
        | none => exact .inr (.inr (.inl rfl))
        | some u =>
          have w := a.fr x u q m
          rw [z] at w
          cases w
          exact .inr (.inr (.inr ⟨xs, rfl⟩))
/-- pending things lie apart from what is owned now -/
theorem apart_of (hd : (F ++ P).Nodup) : ∀ a ∈ P, a ∉ F := fun a h q => by
  rw [List.nodup_append] at hd
  exact hd.2.2 a q a h rfl
theorem Ext.pend (a : Ext Z H F Z1 H1 (F1 ++ P)) (b : Ext Z1 H1 F1 Z2 H2 G2) : Ext Z H F Z2 H2 (G2 ++ P) := by
  have t := a.trans b fun x h => List.mem_append_left _ h
  exact ⟨t.zz, t.fr, t.zn, fun x m => (List.mem_append.mp m).elim (t.gn x) fun q => a.gn x (List.mem_append_right _ q), t.tu⟩
theorem Ext.at (b : Ext Z1 H1 F1 Z2 H2 G2) {a : Addr} {l : List V} (h : H1 a = some (.lst l)) (z : Z1 a = none) (n : a ∉ F1) : H2 a = H1 a ∧ Z2 a = none := by
  refine ⟨(b.fr a _ h n).trans h.symm, ?_⟩
  cases e : Z2 a with
  | none => rfl
  | some u =>
    rcases b.zn a u e with ⟨w, q⟩ | q | q | ⟨xs, q⟩
    · rw [z] at q
      cases q
    · exact absurd q n
    · rw [h] at q
      cases q
    · rw [h] at q
      cases q
theorem Ext.ors {xs : List V} {os : List O} (b : Ext Z1 H1 F1 Z2 H2 G2) (r : ORs K Z1 H1 xs os P) (n : ∀ a ∈ P, a ∉ F1) : ORs K Z2 H2 xs os P :=
  ORs.keep b.zz b.tu r fun a h => let ⟨⟨_, e⟩, z⟩ := ORs.mem r a h; b.at e z (n a h)
theorem Ext.or {x : V} {o : O} (b : Ext Z1 H1 F1 Z2 H2 G2) (r : OR K Z1 H1 x o P) (n : ∀ a ∈ P, a ∉ F1) : OR K Z2 H2 x o P :=
  OR.keep b.zz b.tu r fun a h => let ⟨⟨_, e⟩, z⟩ := OR.mem r a h; b.at e z (n a h)
theorem Ext.nd (b : Ext Z1 H1 F1 Z2 H2 G2) (hd : (F1 ++ P).Nodup) (st : ∀ a ∈ P, ∃ o, H1 a = some o) (g : G2.Nodup) : (G2 ++ P).Nodup := by
  have hp := hd
  rw [List.nodup_append] at hp ⊢
  refine ⟨g, hp.2.1, fun x hx y hy e => ?_⟩
  subst e
  rcases b.gn x hx with q | q
  · exact hp.2.2 x q x hy rfl
  · obtain ⟨o, h⟩ := st x hy
    rw [h] at q
    cases q
end
end Ev
set_option Elab.async false
set_option linter.all false
set_option maxRecDepth 100000
/-! Ev2: the small language: what an expression, a statement, a def is worth, as plain functions. -/
namespace Ev
open PySem PySem.Spec PyProof.Rows L2

inductive Res (α : Type) where
  | ok (a : α) (e : Ve)
  | err (c : Str) (d : D) (e : Ve)
  | stuck
def Res.bind {α β : Type} (r : Res α) (k : α → Ve → Res β) : Res β := match r with
  | .ok a e => k a e
  | .err c d e => .err c d e
  | .stuck => .stuck
def lift {α : Type} (x : Option α) (e : Ve) : Res α := match x with
  | some a => .ok a e
  | none => .stuck

/-- how a def ends: its value and what its first argument has become (where it changes it); an error of a class, with its value -/
inductive FRes where
  | ok (o : O) (out : Option O)
  | err (c : Str) (d : D)
  | stuck
abbrev Fn := List O → FRes
structure FnE where
  name : Str
  ps : List Str
  io : Bool
  sem : Fn

def O.isV : O → Bool
  | .v _ => true
  | _ => false
/-- a tuple: data, if all in it is -/
def mkTup (os : List O) : O := if os.all O.isV then .v (.tuple (O.ds os)) else .tup os
/-- the items of a list (true) or a tuple (false); t: nobody else holds it -/
def elems (t : Bool) : O → Option (Bool × List O)
  | .v (.list ds) => some (true, ds.map .v)
  | .v (.tuple ds) => some (false, ds.map .v)
  | .own os => if t || os.all O.isV then some (true, os) else none
  | .tup os => if t || os.all O.isV then some (false, os) else none
  | _ => none
def fits (os : List O) : Bool := decide (os.length ≤ sizeLine)
def mkLst (os : List O) : Option O := if fits os then some (.own os) else none
def mkTupF (os : List O) : Option O := if fits os then some (mkTup os) else none

inductive Prim where
  | add | sub | mul | fdiv | mod | pow | neg | not
  | eq | ne | lt | le | gt | ge | isin | notin | isN | notN | isB (b : Bool) | notB (b : Bool)
  | len | rev | revTail | listOf | tupleOf | range1 | range2 | sorted | sum | min2 | max2 | minL | maxL | int | repr | isinst (T : String)
  | divmod | count | bitlen
  deriving DecidableEq

/-- within the machine's bounds (said so that nothing unfolds far) -/
def mag (n : Int) : Bool := Nat.ble n.natAbs 4611686018427387903
theorem mag_sp {n : Int} (h : mag n = true) : -(2 ^ 62) ≤ n ∧ n < 2 ^ 62 := by
  have := Nat.le_of_ble_eq_true h
  omega
theorem mag_of {n : Int} (h : n.natAbs < 4611686018427387904) : mag n = true := Nat.ble_eq_true_of_le (by omega)
def small (i : Int) : Bool := decide (i.natAbs < 18446744073709551616)
def mulOk (i j : Int) : Bool := small i || small j || decide (Builtin.Int.intBits i + Builtin.Int.intBits j ≤ 134217728)
def divOk (j : Int) : Bool := decide (0 < j) && decide (j.natAbs.log2 < 9000)
def powOk (i j : Int) : Bool := decide (0 ≤ j) && decide ((Builtin.Int.intBits i : Int) * j ≤ 134217728)
def twoStr : D → D → Bool
  | .str _, .str _ => true
  | _, _ => false
def bool2 (f : D → D → Bool) (x y : D) : Option O := if (SeqAt.shaped x && SeqAt.shaped y) || twoStr x y then some (.v (.bool (f x y))) else none
def intsOf : List D → Option (List Int)
  | [] => some []
  | .int i :: r => (intsOf r).map (i :: ·)
  | _ :: _ => none
/-- the order of sorted -/
def sortO (os : List O) : List O := os.mergeSort (PySem.W.dataLe false O.d)
def tupNE : D → Bool
  | .tuple (_ :: _) => true
  | _ => false
def plainKey : D → Bool
  | .none => false
  | .tuple _ => false
  | _ => true
/-- what sorted can put in order -/
def sortable (ds : List D) : Bool := (ds.all fun d => ds.all fun e => PySem.W.alike d e) && (ds.all tupNE || ds.all plainKey) && ds.all SeqAt.shaped
def rangeO (a b : Int) : List O := (List.range (b - a).toNat).map fun i => .v (.int (a + (i : Nat)))
def rgOk (a b : Int) : Bool := mag a && mag b && Nat.ble (b - a).toNat 16777216
def cutO (xs : List O) (lo hi : Option Int) : List O := (xs.drop (HT.sIx xs.length 0 lo)).take (HT.sIx xs.length xs.length hi - HT.sIx xs.length 0 lo)
def kindD : D → String
  | .none => "NoneType" | .bool _ => "bool" | .int _ => "int" | .str _ => "str" | .list _ => "list" | .tuple _ => "tuple" | .dict _ => "dict"
def isiD (d : D) (T : String) : Bool := kindD d == T || (kindD d == "bool" && T == "int")
def reprKind : D → Bool
  | .int _ => true
  | .list _ => true
  | .tuple _ => true
  | _ => false
def reprOk (d : D) : Bool := reprKind d && SeqAt.shaped d && d.showable && decide (d.shown.length ≤ sizeLine)
def findD (d : D) : List D → Nat → Option Nat
  | [], _ => none
  | z :: r, n => if PyData.eqv z d then some n else findD d r (n + 1)

abbrev Arg := Bool × O
def pr1 (as : List Arg) (f : Bool → O → Option O) : Option O := match as with
  | [(s, x)] => f s x
  | _ => none
def pr2 (as : List Arg) (f : Bool → O → Bool → O → Option O) : Option O := match as with
  | [(s, x), (t, y)] => f s x t y
  | _ => none
def intOf : O → Option Int
  | .v (.int i) => some i
  | _ => none
def int1 (as : List Arg) (f : Int → Option O) : Option O := pr1 as fun _ x => match intOf x with
  | some i => f i
  | none => none
def int2 (as : List Arg) (f : Int → Int → Option O) : Option O := pr2 as fun _ x _ y => match intOf x, intOf y with
  | some i, some j => f i j
  | _, _ => none
def data2 (as : List Arg) (f : D → D → Bool) : Option O := pr2 as fun _ x _ y => bool2 f x.d y.d
def oI (i : Int) : Option O := some (.v (.int i))
def oB (b : Bool) : Option O := some (.v (.bool b))
def seqO (k : Bool) (os : List O) : O := if k then .own os else mkTup os
def addS (s : Bool) (x : O) (t : Bool) (y : O) : Option O := match elems s x, elems t y with
  | some (true, xs), some (true, ys) => mkLst (xs ++ ys)
  | some (false, xs), some (false, ys) => mkTupF (xs ++ ys)
  | _, _ => none
def addV (s : Bool) (x : O) (t : Bool) (y : O) : Option O := match x, y with
  | .v (.int i), .v (.int j) => oI (i + j)
  | .v (.str a), .v (.str b) => if a.length + b.length ≤ sizeLine then some (.v (.str (a ++ b))) else none
  | _, _ => addS s x t y
def mulV (s : Bool) (x y : O) : Option O := match intOf y with
  | none => none
  | some j => match intOf x with
    | some i => if mulOk i j then oI (i * j) else none
    | none => match x with
      | .own xs => if s || xs.all O.isV then (if mag j && decide (xs.length * j.toNat ≤ sizeLine) then some (.own ((List.replicate j.toNat (O.ds xs)).flatten.map .v)) else none) else none
      | _ => none
def inV (x y : O) (neg : Bool) : Option O := match y.d with
  | .list ds => if SeqAt.shaped x.d && SeqAt.shaped (.list ds) then oB (if neg then !ds.any fun z => PyData.eqv z x.d else ds.any fun z => PyData.eqv z x.d) else none
  | _ => none
def isNone : O → Bool
  | .v .none => true
  | _ => false
def isBool (b : Bool) : O → Option Bool
  | .v (.bool c) => some (c == b)
  | _ => none
def lenV (x : O) : Option O := match x.d with
  | .list ds => oI ds.length
  | .tuple ds => oI ds.length
  | _ => none
def pr (p : Prim) (as : List Arg) : Option O := match p with
  | .add => pr2 as addV
  | .sub => int2 as fun i j => oI (i - j)
  | .mul => pr2 as fun s x _ y => mulV s x y
  | .fdiv => int2 as fun i j => if divOk j then oI (i / j) else none
  | .mod => int2 as fun i j => if 0 < j then oI (i % j) else none
  | .pow => int2 as fun i j => if powOk i j then oI (i ^ j.toNat) else none
  | .neg => int1 as fun i => oI (-i)
  | .not => pr1 as fun _ x => match x with
    | .v (.bool b) => oB (!b)
    | _ => none
  | .eq => data2 as PyData.eqv
  | .ne => data2 as fun a b => !PyData.eqv a b
  | .lt => int2 as fun i j => oB (decide (i < j))
  | .le => int2 as fun i j => oB (decide (i ≤ j))
  | .gt => int2 as fun i j => oB (decide (j < i))
  | .ge => int2 as fun i j => oB (decide (j ≤ i))
  | .isin => pr2 as fun _ x _ y => inV x y false
  | .notin => pr2 as fun _ x _ y => inV x y true
  | .isN => pr1 as fun _ x => oB (isNone x)
  | .notN => pr1 as fun _ x => oB (!isNone x)
  | .isB b => pr1 as fun _ x => (isBool b x).map fun c => .v (.bool c)
  | .notB b => pr1 as fun _ x => (isBool b x).map fun c => .v (.bool (!c))
  | .len => pr1 as fun _ x => lenV x
  | .rev => pr1 as fun s x => (elems s x).map fun r => seqO r.1 r.2.reverse
  | .revTail => pr1 as fun s x => match elems s x with
    | some (true, xs) => some (.own (xs.reverse.drop 1))
    | _ => none
  | .listOf => pr1 as fun s x => (elems s x).map fun r => .own r.2
  | .tupleOf => pr1 as fun s x => (elems s x).map fun r => mkTup r.2
  | .range1 => int1 as fun n => if rgOk 0 n then some (.own (rangeO 0 n)) else none
  | .range2 => int2 as fun a b => if rgOk a b then some (.own (rangeO a b)) else none
  | .sorted => pr1 as fun s x => match elems s x with
    | some (true, xs) => if sortable (O.ds xs) then some (.own (sortO xs)) else none
    | _ => none
  | .sum => pr1 as fun _ x => match x.d with
    | .list ds => (intsOf ds).map fun is => .v (.int is.sum)
    | _ => none
  | .min2 => int2 as fun i j => oI (if j < i then j else i)
  | .max2 => int2 as fun i j => oI (if j > i then j else i)
  | .minL => none
  | .maxL => none
  | .int => pr1 as fun _ x => match x with
    | .v (.int i) => oI i
    | .v (.bool b) => oI (if b then 1 else 0)
    | _ => none
  | .repr => pr1 as fun _ x => if reprOk x.d then some (.v (.str x.d.shown)) else none
  | .isinst T => pr1 as fun _ x => oB (isiD x.d T)
  | .divmod => int2 as fun i j => if divOk j then some (.v (.tuple [.int (i / j), .int (i % j)])) else none
  | .count => pr2 as fun _ x _ y => match x.d, intOf y with
    | .list ds, some k => (intsOf ds).map fun is => .v (.int (is.count k))
    | _, _ => none
  | .bitlen => int1 as fun i => oI (Builtin.Int.intBits i)

/-! ### the language -/
inductive Tgt where
  | one (i : Nat)
  | many (is : List Nat)
mutual
inductive IE where
  | lit (d : D)
  | var (i : Nat)
  | mv (i : Nat)
  | prim (p : Prim) (as : List IP)
  | lst (es : List IE)
  | tup (es : List IE)
  | idx (a : IP) (k : IE)
  | and (a b : IE)
  | or (a b : IE)
  | ite (c a b : IE)
  | call (f : Nat) (as : List IP)
  | callK (f : Nat) (ks : List Nat) (as : List IP)
  | comp (elt : IE) (tg : Tgt) (it : Iter) (cond : Option IE)
  | pop (i : Nat) (k : IE)
  | cut (a : IP) (l h : Option IE)
  | indx (a : IP) (k : IE)
inductive IP where
  | e (a : IE)
  | s (i : Nat)
inductive Iter where
  | seq (a : IE)
  | range (as : List IE)
  | enum (a : IE)
  | zip (st : Bool) (a b : IE)
end

abbrev AV := O ⊕ Nat
def look (env : Ve) (i : Nat) : Option O := (env[i]?).join
def res1 (env : Ve) : AV → Option Arg
  | .inl o => some (true, o)
  | .inr i => (look env i).map fun o => (false, o)
def resAll (env : Ve) : List AV → Option (List Arg)
  | [] => some []
  | a :: r => match res1 env a, resAll env r with
    | some x, some xs => some (x :: xs)
    | _, _ => none
/-- a slot's value: what is owned is frozen -/
def rdVar (i : Nat) (env : Ve) : Res O := match look env i with
  | some o => .ok (.v o.d) (env.set i (some (.v o.d)))
  | none => .stuck
def mvVar (i : Nat) (env : Ve) : Res O := match look env i with
  | some (.v d) => .ok (.v d) env
  | some o => .ok o (env.set i none)
  | none => .stuck
def rdIdx (a : AV) (k : O) (env : Ve) : Res O := match k with
  | .v (.int n) => match a with
    | .inl x => match elems true x with
      | some (_, os) => lift (atI os n) env
      | none => .stuck
    | .inr i => match look env i with
      | some (.own os) => match ixN os.length n with
        | some j => match os[j]? with
          | some o => .ok (.v o.d) (env.set i (some (.own (os.set j (.v o.d)))))
          | none => .stuck
        | none => .stuck
      | some (.tup os) => match ixN os.length n with
        | some j => match os[j]? with
          | some o => .ok (.v o.d) (env.set i (some (.tup (os.set j (.v o.d)))))
          | none => .stuck
        | none => .stuck
      | some (.v d) => match elems false (.v d) with
        | some (_, os) => lift (atI os n) env
        | none => .stuck
      | none => .stuck
  | _ => .stuck
def asBool (r : Res O) : Res Bool := r.bind fun o e => match o with
  | .v (.bool b) => .ok b e
  | _ => .stuck
-- data without a list in it
mutual
def noList : D → Bool
  | .list _ => false
  | .tuple xs => noLists xs
  | .dict _ => false
  | _ => true
def noLists : List D → Bool
  | [] => true
  | x :: xs => noList x && noLists xs
end
mutual
def leafy : O → Bool
  | .v d => noList d
  | .own xs => leafys xs
  | .tup xs => leafys xs
def leafys : List O → Bool
  | [] => true
  | x :: xs => leafy x && leafys xs
end
def argO (env : Ve) : AV → Option O
  | .inl o => some (.v o.d)
  | .inr i => (look env i).map fun o => .v o.d
def argOs (env : Ve) : List AV → Option (List O)
  | [] => some []
  | a :: r => match argO env a, argOs env r with
    | some x, some xs => some (x :: xs)
    | _, _ => none
/-- is it a slot whose things are owned -/
def borrowed (env : Ve) : AV → Bool
  | .inl _ => false
  | .inr i => match look env i with
    | some (.v _) => false
    | _ => true
/-- b: owned things were lent; k: the slots behind the call -/
def leafyOut : Option O → Bool
  | some u => leafy u
  | none => true
def endCall (b : Bool) (r : FRes) (k : Option O → Option Ve) : Res O := match r with
  | .ok z out => if b && !(leafy z && leafyOut out) then .stuck else (match k out with
    | some e => .ok z e
    | none => .stuck)
  | .err _ _ => .stuck
  | .stuck => .stuck
/-- by name: ks says which parameter each one is -/
def perm {α : Type} (n : Nat) (ks : List Nat) (l : List α) : Option (List α) := (List.range n).mapM fun i => (ks.findIdx? (· == i)).bind fun j => l[j]?
def lent (env : Ve) (as : List AV) : Bool := as.any (borrowed env)
def doCall (f : FnE) (as : List AV) (env : Ve) : Res O :=
  if f.io then match as with
    | .inl o :: r => match argOs env r with
      | some xs => endCall (lent env r) (f.sem (o :: xs)) fun _ => some env
      | none => .stuck
    | .inr i :: r => match look env i, argOs (env.set i none) r with
      | some o, some xs => endCall (lent (env.set i none) r) (f.sem (o :: xs)) fun o' => o'.map fun u => env.set i (some u)
      | _, _ => .stuck
    | _ => .stuck
  else match argOs env as with
    | some xs => endCall (lent env as) (f.sem xs) fun _ => some env
    | none => .stuck
def wipeE (env : Ve) : List Nat → Ve
  | [] => env
  | v :: vs => (wipeE env vs).set v none
def Tgt.slots : Tgt → List Nat
  | .one i => [i]
  | .many is => is
def setMany : List Nat → List D → Ve → Option Ve
  | [], [], e => some e
  | i :: is, d :: ds, e => if i < e.length then setMany is ds (e.set i (some (.v d))) else none
  | _, _, _ => none
def Tgt.put (t : Tgt) (d : D) (e : Ve) : Option Ve := match t with
  | .one i => if i < e.length then some (e.set i (some (.v d))) else none
  | .many is => match d with
    | .tuple ds => setMany is ds e
    | _ => none
/-- what a block of its own leaves of a slot: data only -/
def keepV : Option O → Option O
  | some (.v d) => some (.v d)
  | _ => none
def backE (env0 env : Ve) : List Nat → Ve
  | [] => env
  | v :: vs => (backE env0 env vs).set v (keepV (look env0 v))
def compGo (tg : Tgt) (cond : Ve → Res Bool) (elt : Ve → Res O) : List D → List O → Ve → Res (List O)
  | [], acc, e => .ok acc e
  | d :: ds, acc, e => match tg.put d (wipeE e tg.slots) with
    | none => .stuck
    | some e1 => match cond e1 with
      | .ok true e2 => (match elt e2 with
        | .ok o e3 => if acc.length < sizeLine then compGo tg cond elt ds (acc ++ [o]) e3 else .stuck
        | _ => .stuck)
      | .ok false e2 => compGo tg cond elt ds acc e2
      | _ => .stuck
def rangeD (a c : Int) (n : Nat) : List D := (List.range n).map fun i => .int (a + (i : Nat) * c)
def enumD (n : Nat) : List D → List D
  | [] => []
  | d :: ds => .tuple [.int n, d] :: enumD (n + 1) ds
def zipD : List D → List D → List D
  | x :: xs, y :: ys => .tuple [x, y] :: zipD xs ys
  | _, _ => []
def seqD : O → Option (List D)
  | o => match o.d with
    | .list ds => some ds
    | .tuple ds => some ds
    | _ => none
def rangeIt : List O → Option (List D)
  | [.v (.int b)] => if mag b then some (rangeD 0 1 b.toNat) else none
  | [.v (.int a), .v (.int b)] => if mag a && mag b then some (rangeD a 1 (b - a).toNat) else none
  | [.v (.int a), .v (.int b), .v (.int c)] => if decide (c ≠ 0) && decide (c.natAbs < 1073741824) && Builtin.Range.small a b c && decide (0 ≤ Builtin.Range.rangeSize a b c) then some (rangeD a c (Builtin.Range.rangeSize a b c).toNat) else none
  | _ => none

def isListD : D → Bool
  | .list _ => true
  | _ => false
def isListA (e : Ve) (v : AV) : Bool := match res1 e v with
  | some (_, x) => isListD x.d
  | none => false
def idxV (x d : D) : Option O := match x with
  | .list ds => if SeqAt.shaped d && SeqAt.shaped (.list ds) then (findD d ds 0).map fun n => .v (.int n) else none
  | _ => none
mutual
def den (L : List FnE) : IE → Ve → Res O
  | .lit d, e => .ok (.v d) e
  | .var i, e => rdVar i e
  | .mv i, e => mvVar i e
  | .prim p as, e => (denPs L as e).bind fun vs e1 => match resAll e1 vs with
    | some xs => lift (pr p xs) e1
    | none => .stuck
  | .lst es, e => (denEs L es e).bind fun os e1 => lift (mkLst os) e1
  | .tup es, e => (denEs L es e).bind fun os e1 => lift (mkTupF os) e1
  | .idx a k, e => (denP L a e).bind fun v e1 => (den L k e1).bind fun o e2 => rdIdx v o e2
  | .and a b, e => (asBool (den L a e)).bind fun c e1 => if c then den L b e1 else .ok (.v (.bool false)) e1
  | .or a b, e => (asBool (den L a e)).bind fun c e1 => if c then .ok (.v (.bool true)) e1 else den L b e1
  | .ite c a b, e => (asBool (den L c e)).bind fun c e1 => if c then den L a e1 else den L b e1
  | .call f as, e => match L[f]? with
    | some g => (denPs L as e).bind fun vs e1 => if vs.length = g.ps.length then doCall g vs e1 else .stuck
    | none => .stuck
  | .callK f ks as, e => match L[f]? with
    | some g => (denPs L as e).bind fun vs e1 => if g.io then .stuck else match argOs e1 vs with
      | some xs => match perm g.ps.length ks xs with
        | some ys => if vs.length = g.ps.length then endCall (lent e1 vs) (g.sem ys) fun _ => some e1 else .stuck
        | none => .stuck
      | none => .stuck
    | none => .stuck
  | .comp elt tg it cond, e => (denI L it e).bind fun ds e1 =>
      (compGo tg (fun e => denC L cond e) (fun e => den L elt e) ds [] e1).bind fun os e2 => .ok (.own os) (backE e1 (wipeE e2 tg.slots) tg.slots)
  | .pop i k, e => match look e i with
    | some (.own _) => (den L k e).bind fun o e1 => match o, look e1 i with
      | .v (.int n), some (.own os) => if mag n then (match seqIndex? n os.length with
        | some j => match os[j]? with
          | some x => .ok x (e1.set i (some (.own (os.eraseIdx j))))
          | none => .stuck
        | none => .stuck) else .stuck
      | _, _ => .stuck
    | _ => .stuck
  | .cut a l h, e => (denP L a e).bind fun v e1 => (denO L l e1).bind fun lo e2 => (denO L h e2).bind fun hi e3 => match res1 e3 v with
    | some (s, x) => (match elems s x with
      | some (k, xs) => .ok (seqO k (cutO xs lo hi)) e3
      | none => .stuck)
    | none => .stuck
  | .indx a k, e => (denP L a e).bind fun v e1 => if isListA e1 v then (den L k e1).bind fun o e2 => (match res1 e2 v with
    | some (_, x) => lift (idxV x.d o.d) e2
    | none => .stuck) else .stuck
def denO (L : List FnE) : Option IE → Ve → Res (Option Int)
  | none, e => .ok none e
  | some k, e => (den L k e).bind fun o e1 => match intOf o with
    | some i => .ok (some i) e1
    | none => .stuck
def denC (L : List FnE) : Option IE → Ve → Res Bool
  | none, e => .ok true e
  | some c, e => asBool (den L c e)
def denP (L : List FnE) : IP → Ve → Res AV
  | .e a, e => (den L a e).bind fun o e1 => .ok (.inl o) e1
  | .s i, e => match look e i with
    | some _ => .ok (.inr i) e
    | none => .stuck
def denPs (L : List FnE) : List IP → Ve → Res (List AV)
  | [], e => .ok [] e
  | a :: r, e => (denP L a e).bind fun v e1 => (denPs L r e1).bind fun vs e2 => .ok (v :: vs) e2
def denEs (L : List FnE) : List IE → Ve → Res (List O)
  | [], e => .ok [] e
  | a :: r, e => (den L a e).bind fun v e1 => (denEs L r e1).bind fun vs e2 => .ok (v :: vs) e2
def denI (L : List FnE) : Iter → Ve → Res (List D)
  | .seq a, e => (den L a e).bind fun o e1 => lift (seqD o) e1
  | .range as, e => (denEs L as e).bind fun os e1 => lift (rangeIt os) e1
  | .enum a, e => (den L a e).bind fun o e1 => lift ((seqD o).map (enumD 0)) e1
  | .zip st a b, e => (den L a e).bind fun x e1 => (den L b e1).bind fun y e2 => match seqD x, seqD y with
    | some xs, some ys => if st && xs.length != ys.length then .stuck else .ok (zipD xs ys) e2
    | _, _ => .stuck
end

/-! ### statements -/
inductive Tg where
  | n (i : Nat)
  | sub (i : Nat) (k : IE)
inductive Tg1 where
  | one (t : Tg)
  | many (ts : List Tg)
inductive IS where
  | asg (t : Tg1) (e : IE)
  | app (i : Nat) (e : IE)
  | appE (r x : IE)
  | ex (e : IE)
  | ite (c : IE) (a b : List IS)
  | for (t : Tgt) (it : Iter) (body : List IS)
  | whl (c : IE) (body : List IS)
  | ret (e : IE)
  | retN
  | raise (c : Str) (e : IE)
  | pass
  | brk

inductive SRes where
  | next (e : Ve)
  | ret (o : O) (e : Ve)
  | brk (e : Ve)
  | err (c : Str) (d : D) (e : Ve)
  | stuck
def Res.st {α : Type} (r : Res α) (k : α → Ve → SRes) : SRes := match r with
  | .ok a e => k a e
  | .err c d e => .err c d e
  | .stuck => .stuck
def SRes.seq (r : SRes) (k : Ve → SRes) : SRes := match r with
  | .next e => k e
  | r => r
/-- io: slot 0 is the caller's, and is not stored -/
def setN (io : Bool) (i : Nat) (o : O) (e : Ve) : Option Ve := if i < e.length && !(io && i == 0) then some (e.set i (some o)) else none
def setAt (i : Nat) (k o : O) (e : Ve) : Option Ve := match k, look e i with
  | .v (.int n), some (.own os) => (ixN os.length n).map fun j => e.set i (some (.own (os.set j o)))
  | _, _ => none
def liftS (x : Option Ve) : SRes := match x with
  | some e => .next e
  | none => .stuck
def doTg (L : List FnE) (io : Bool) (t : Tg) (o : O) (e : Ve) : SRes := match t with
  | .n i => liftS (setN io i o e)
  | .sub i k => match look e i with
    | some (.own _) => (den L k e).st fun ko e1 => liftS (setAt i ko o e1)
    | _ => .stuck
def doTgs (L : List FnE) (io : Bool) : List Tg → List O → Ve → SRes
  | [], [], e => .next e
  | t :: ts, o :: os, e => (doTg L io t o e).seq fun e1 => doTgs L io ts os e1
  | _, _, _ => .stuck
def putT (io : Bool) (t : Tgt) (d : D) (e : Ve) : Option Ve := if io && t.slots.contains 0 then none else t.put d e
def forGo (io : Bool) (t : Tgt) (body : Ve → SRes) : List D → Ve → SRes
  | [], e => .next e
  | d :: ds, e => match putT io t d e with
    | none => .stuck
    | some e1 => match body e1 with
      | .next e2 => forGo io t body ds e2
      | .brk e2 => .next e2
      | r => r
def whlGo (c : Ve → Res Bool) (body : Ve → SRes) : Nat → Ve → SRes
  | 0, _ => .stuck
  | n + 1, e => match c e with
    | .ok true e1 => (match body e1 with
      | .next e2 => whlGo c body n e2
      | .brk e2 => .next e2
      | r => r)
    | .ok false e1 => .next e1
    | .err c d e => .err c d e
    | .stuck => .stuck
def fuel : Nat := 1000000000000
mutual
def ex1 (L : List FnE) (io : Bool) : IS → Ve → SRes
  | .asg (.one t) e, v => (den L e v).st fun o v1 => doTg L io t o v1
  | .asg (.many ts) e, v => (den L e v).st fun o v1 => match elems true o with
    | some (false, os) => if ts.length = os.length then doTgs L io ts os v1 else .stuck
    | _ => .stuck
  | .app i e, v => match look v i with
    | some (.own _) => (den L e v).st fun o v1 => match look v1 i with
      | some (.own os) => if os.length < sizeLine then .next (v1.set i (some (.own (os ++ [o])))) else .stuck
      | _ => .stuck
    | _ => .stuck
  | .appE r x, v => (den L r v).st fun o v1 => match o with
    | .own os => (den L x v1).st fun _ v2 => if os.length < sizeLine then .next v2 else .stuck
    | _ => .stuck
  | .ex e, v => (den L e v).st fun _ v1 => .next v1
  | .ite c a b, v => (asBool (den L c v)).st fun t v1 => if t then exs L io a v1 else exs L io b v1
  | .for t it body, v => (denI L it v).st fun ds v1 => forGo io t (fun e => exs L io body e) ds v1
  | .whl c body, v => whlGo (fun e => asBool (den L c e)) (fun e => exs L io body e) fuel v
  | .ret e, v => (den L e v).st fun o v1 => .ret o v1
  | .retN, v => .ret (.v .none) v
  | .raise c e, v => .stuck
  | .pass, v => .next v
  | .brk, v => .brk v
def exs (L : List FnE) (io : Bool) : List IS → Ve → SRes
  | [], v => .next v
  | s :: r, v => (ex1 L io s v).seq fun v1 => exs L io r v1
end
def outOf (io : Bool) (e : Ve) : Option O := if io then look e 0 else none
def finish (io : Bool) : SRes → FRes
  | .next e => .ok (.v .none) (outOf io e)
  | .ret o e => .ok o (outOf io e)
  | .err c d _ => .err c d
  | _ => .stuck
/-- a def: n slots, the first ones its parameters -/
def runDef (L : List FnE) (io : Bool) (n : Nat) (body : List IS) : Fn := fun args => finish io (exs L io body (args.map some ++ List.replicate (n - args.length) none))
end Ev
set_option Elab.async false
set_option linter.all false
set_option maxRecDepth 100000
/-! Ev3: what a step of an expression leaves; expressions in a row. -/
namespace Ev
open PySem PySem.Spec PyProof.Rows L2

abbrev Sg := L2.St
/-- the state of the slots -/
structure Sts (K : Frag) (Z H : Hp) (σ : Sg) (e : Ve) (F : List Addr) : Prop where
  same : Same Z H
  rel : Rel K Z H σ e F
  nd : F.Nodup
/-- a step to (Z', H', e', F'), with things of the lists P in hand -/
structure Step (K : Frag) (σ : Sg) (Z H : Hp) (F : List Addr) (Z' H' : Hp) (e' : Ve) (F' P : List Addr) : Prop where
  ext : Ext Z H F Z' H' (F' ++ P)
  same : Same Z' H'
  rel : Rel K Z' H' σ e' F'
  nd : (F' ++ P).Nodup
section
variable {K : Frag} {σ : Sg} {Z H Z1 H1 Z2 H2 : Hp} {F F1 F2 P P1 P2 : List Addr} {e e1 e2 : Ve}
theorem Step.sts (s : Step K σ Z H F Z1 H1 e1 F1 P) : Sts K Z1 H1 σ e1 F1 := ⟨s.same, s.rel, (List.nodup_append.mp s.nd).1⟩
theorem Step.refl (s : Sts K Z H σ e F) : Step K σ Z H F Z H e F [] := ⟨Ext.refl.sub fun _ h => by simpa using h, s.same, s.rel, by simpa using s.nd⟩
theorem Step.apart (s : Step K σ Z H F Z1 H1 e1 F1 P) : ∀ a ∈ P, a ∉ F1 := apart_of s.nd
theorem Step.seq (a : Step K σ Z H F Z1 H1 e1 F1 P1) (b : Step K σ Z1 H1 F1 Z2 H2 e2 F2 P2) (st : ∀ x ∈ P1, ∃ o, H1 x = some o) : Step K σ Z H F Z2 H2 e2 F2 (P1 ++ P2) := by
  refine ⟨(a.ext.pend b.ext).sub fun x h => ?_, b.same, b.rel, ?_⟩
  · simp only [List.mem_append] at h ⊢
    rcases h with h | h | h
    · exact .inl (.inl h)
    · exact .inr h
    · exact .inl (.inr h)
  · have n := b.ext.nd a.nd st b.nd
    rw [List.append_assoc] at n
    exact (List.Perm.append_left F2 List.perm_append_comm).nodup_iff.mp n
theorem Step.drop (a : Step K σ Z H F Z1 H1 e1 F1 P) : Step K σ Z H F Z1 H1 e1 F1 [] :=
  ⟨a.ext.sub fun x h => List.mem_append_left _ (by simpa using h), a.same, a.rel, by simpa using (List.nodup_append.mp a.nd).1⟩
end

/-- an operand in hand: a thing, or a slot's name -/
inductive AVs (K : Frag) (Z H : Hp) (σ : Sg) : List V → List AV → List Addr → Prop
  | nil : AVs K Z H σ [] [] []
  | o {x : V} {xs : List V} {o : O} {vs : List AV} {F G : List Addr} : OR K Z H x o F → AVs K Z H σ xs vs G → AVs K Z H σ (x :: xs) (.inl o :: vs) (F ++ G)
  | s {x : V} {xs : List V} {i : Nat} {vs : List AV} {G : List Addr} : σ[i]? = some (some x) → AVs K Z H σ xs vs G → AVs K Z H σ (x :: xs) (.inr i :: vs) G
section
variable {K : Frag} {σ : Sg} {Z H Z1 H1 Z2 H2 : Hp} {F F1 F2 P P1 P2 : List Addr} {e e1 e2 : Ve}
theorem AVs.mem : ∀ {xs : List V} {vs : List AV} {P : List Addr}, AVs K Z H σ xs vs P → ∀ a ∈ P, (∃ l, H a = some (.lst l)) ∧ Z a = none
  | _, _, _, .nil, _, h => nomatch h
  | _, _, _, .o r t, a, h => by
    rcases List.mem_append.mp h with q | q
    · exact OR.mem r a q
    · exact AVs.mem t a q
  | _, _, _, .s _ t, a, h => AVs.mem t a h
theorem AVs.keep (b : Ext Z1 H1 F1 Z2 H2 F2) : ∀ {xs : List V} {vs : List AV} {P : List Addr}, AVs K Z1 H1 σ xs vs P → (∀ a ∈ P, a ∉ F1) → AVs K Z2 H2 σ xs vs P
  | _, _, _, .nil, _ => .nil
  | _, _, _, .o r t, n => .o (b.or r fun a h => n a (List.mem_append_left _ h)) (AVs.keep b t fun a h => n a (List.mem_append_right _ h))
  | _, _, _, .s q t, n => .s q (AVs.keep b t n)
theorem AVs.app : ∀ {xs ys : List V} {vs ws : List AV} {P Q : List Addr}, AVs K Z H σ xs vs P → AVs K Z H σ ys ws Q → AVs K Z H σ (xs ++ ys) (vs ++ ws) (P ++ Q)
  | _, _, _, _, _, _, .nil, b => b
  | _, _, _, _, _, _, .o r t, b => by
    rw [List.append_assoc]
    exact .o r (AVs.app t b)
  | _, _, _, _, _, _, .s r t, b => .s r (AVs.app t b)
theorem st_of {P : List Addr} (h : ∀ a ∈ P, (∃ l, H a = some (HO.lst l)) ∧ Z a = none) : ∀ a ∈ P, ∃ o, H a = some o := fun a m => let ⟨⟨l, e⟩, _⟩ := h a m; ⟨_, e⟩
end

/-- the ends: a thing; operands; an error that leaves -/
def EndE (K : Frag) (σ : Sg) (Z H : Hp) (F : List Addr) (e' : Ve) (x : V) (o : O) (H' : Hp) : Prop := ∃ Z' F' P, Step K σ Z H F Z' H' e' F' P ∧ OR K Z' H' x o P
def EndV (K : Frag) (σ : Sg) (Z H : Hp) (F : List Addr) (e' : Ve) (xs : List V) (vs : List AV) (H' : Hp) : Prop := ∃ Z' F' P, Step K σ Z H F Z' H' e' F' P ∧ AVs K Z' H' σ xs vs P
def EndX (X : Cx) (W : WX) (σ : Sg) (Z H : Hp) (F : List Addr) (c : Str) (d : D) (e' : Ve) : Prop :=
  ∀ C dx x Z' H' F', X.mg c = some (.ref C) → H' dx = some (.xd [("value", x)]) → Step X.K σ Z H F Z' H' e' F' [] → Dr Z' x d → W (.ref C) (some dx) σ H'

/-- what is asked of a result -/
def outG {α β : Type} (X : Cx) (W : WX) (End : Frag → Sg → Hp → Hp → List Addr → Ve → β → α → Hp → Prop) (σ : Sg) (Z H : Hp) (F : List Addr) (Q : β → Hp → Prop) (r : Res α) : Prop := match r with
    | .ok a e' => ∀ x H', End X.K σ Z H F e' x a H' → Q x H'
    | .err c d e' => EndX X W σ Z H F c d e'
    | .stuck => False
/-- from the state on, by the plain function m -/
def tG {α β : Type} (X : Cx) (W : WX) (m : Ve → Res α) (End : Frag → Sg → Hp → Hp → List Addr → Ve → β → α → Hp → Prop) (σ : Sg) (H : Hp) (Q : β → Hp → Prop) : Prop :=
  ∃ Z e F, Sts X.K Z H σ e F ∧ outG X W End σ Z H F Q (m e)
def tR (X : Cx) (W : WX) (m : Ve → Res O) : TE := tG X W m EndE
def tV (X : Cx) (W : WX) (m : Ve → Res (List AV)) : TA := tG X W m EndV
/-- one operand -/
def EndP (K : Frag) (σ : Sg) (Z H : Hp) (F : List Addr) (e' : Ve) (x : V) (v : AV) (H' : Hp) : Prop := EndV K σ Z H F e' [x] [v] H'
def tP (X : Cx) (W : WX) (m : Ve → Res AV) : TE := tG X W m EndP

theorem EndX.of {X : Cx} {W : WX} {σ : Sg} {Z H Z1 H1 : Hp} {F F1 P : List Addr} {e1 e' : Ve} {c : Str} {d : D} (h : EndX X W σ Z H F c d e') (s : Step X.K σ Z H F Z1 H1 e1 F1 P) : EndX X W σ Z1 H1 F1 c d e' :=
  fun C dx x Z' H' F' hc hx st hd => h C dx x Z' H' F' hc hx ⟨s.ext.trans st.ext fun a m => List.mem_append_left _ m, st.same, st.rel, st.nd⟩ hd

section
variable {X : Cx} {W : WX} {L : List FnE} {σ : Sg} {H : Hp}
/-- a thing as an operand -/
theorem tP_of {m : Ve → Res O} {Q : VK} (h : tP X W (fun e => (m e).bind fun o e1 => .ok (.inl o) e1) σ H Q) : tR X W m σ H Q := by
  obtain ⟨Z, e, F, s, h⟩ := h
  refine ⟨Z, e, F, s, ?_⟩
  cases q : m e with
  | ok o e1 =>
    simp only [q, Res.bind, outG] at h
    simp only [outG]
    intro x H' ⟨Z', F', P, st, r⟩
    exact h x H' ⟨Z', F', P ++ [], by simpa using st, .o r .nil⟩
  | err c d e1 =>
    simp only [q, Res.bind, outG] at h
    exact h
  | stuck =>
    simp only [q, Res.bind, outG] at h
theorem tV_nil {R : List V → Hp → Prop} (h : tV X W (denPs L []) σ H R) : R [] H := by
  obtain ⟨Z, e, F, s, h⟩ := h
  simp only [denPs] at h
  exact h [] H ⟨Z, F, [], .refl s, .nil⟩
theorem tV_cons {p : IP} {ps : List IP} {R : List V → Hp → Prop} (h : tV X W (denPs L (p :: ps)) σ H R) : tP X W (denP L p) σ H fun x H1 => tV X W (denPs L ps) σ H1 fun xs H2 => R (x :: xs) H2 := by
  obtain ⟨Z, e, F, s, h⟩ := h
  refine ⟨Z, e, F, s, ?_⟩
  simp only [denPs] at h
  cases q : denP L p e with
  | err c d e1 =>
    simp only [q, Res.bind, outG] at h
    exact h
  | stuck => simp only [q, Res.bind, outG] at h
  | ok v e1 =>
    simp only [q, Res.bind, outG] at h
    simp only [outG]
    intro x H1 ⟨Z1, F1, P1, st1, r1⟩
    refine ⟨Z1, e1, F1, st1.sts, ?_⟩
    cases q2 : denPs L ps e1 with
    | err c d e2 =>
      simp only [q2, outG] at h
      exact h.of st1
    | stuck => simp only [q2, outG] at h
    | ok vs e2 =>
      simp only [q2, outG] at h
      simp only [outG]
      intro xs H2 ⟨Z2, F2, P2, st2, r2⟩
      exact h (x :: xs) H2 ⟨Z2, F2, P1 ++ P2, st1.seq st2 (st_of r1.mem), AVs.app (AVs.keep st2.ext r1 st1.apart) r2⟩
theorem _root_.L2.PE.up {e : Expr} {t t' : TE} (h : PE X e t) (k : ∀ σ H Q, t' σ H Q → t σ H Q) : PE X e t' := ⟨fun pins s σ H Q I q => h.run pins s σ H Q I (k σ H Q q)⟩
theorem _root_.L2.PA.up {es : List Expr} {t t' : TA} (h : PA X es t) (k : ∀ σ H Q, t' σ H Q → t σ H Q) : PA X es t' := ⟨fun pos pins s σ H Q I q => h.run pos pins s σ H Q I (k σ H Q q)⟩
theorem _root_.L2.PT.up {e : Expr} {t t' : TT} (h : PT X e t) (k : ∀ σ H Q, t' σ H Q → t σ H Q) : PT X e t' := ⟨fun pins s σ H Q I q => h.run pins s σ H Q I (k σ H Q q)⟩
theorem _root_.L2.PS.up {st : Stmt} {t t' : TS} (h : PS X st t) (k : ∀ D σ H, t' D σ H → t D σ H) : PS X st t' := ⟨fun pins s σ H D I q => h.run pins s σ H D I (k D σ H q)⟩
theorem _root_.L2.PSs.up {st : List Stmt} {t t' : TS} (h : PSs X st t) (k : ∀ D σ H, t' D σ H → t D σ H) : PSs X st t' := ⟨fun pins s σ H D I q => h.run pins s σ H D I (k D σ H q)⟩
end
end Ev
set_option Elab.async false
set_option linter.all false
set_option maxRecDepth 100000
/-! Ev4: operands looked up; what an operation leaves. -/
namespace Ev
open PySem PySem.Spec PyProof.Rows L2

/-- operands as things: in hand (true: of the lists P) or in a slot (of the lists F) -/
inductive ArgRs (K : Frag) (Z H : Hp) (F : List Addr) : List V → List Arg → List Addr → Prop
  | nil : ArgRs K Z H F [] [] []
  | t {x : V} {xs : List V} {o : O} {as : List Arg} {P G : List Addr} : OR K Z H x o P → ArgRs K Z H F xs as G → ArgRs K Z H F (x :: xs) ((true, o) :: as) (P ++ G)
  | b {x : V} {xs : List V} {o : O} {as : List Arg} {P G : List Addr} : OR K Z H x o P → (∀ a ∈ P, a ∈ F) → ArgRs K Z H F xs as G → ArgRs K Z H F (x :: xs) ((false, o) :: as) G
section
variable {K : Frag} {σ : Sg} {Z Z' H H' Z1 H1 Z2 H2 : Hp} {F F1 F2 P P' P1 P2 : List Addr} {e e1 e2 : Ve}
theorem look_some {i : Nat} {o : O} (h : look e i = some o) : e[i]? = some (some o) := by
  unfold look at h
  cases q : e[i]? with
  | none => rw [q] at h; cases h
  | some u =>
    rw [q] at h
    cases u with
    | none => cases h
    | some v =>
      have : v = o := Option.some.inj h
      rw [this]
theorem rel_at (r : Rel K Z H σ e F) {i : Nat} {o : O} {x : V} (h : look e i = some o) (hs : σ[i]? = some (some x)) : ∃ P, OR K Z H x o P ∧ (∀ a ∈ P, a ∈ F) ∧ ∃ G, Rel K Z H σ (e.set i none) G ∧ F.Perm (P ++ G) := by
  obtain ⟨y, f, G, h1, h2, h3, h4⟩ := r.get (look_some h)
  rw [hs] at h1
  have : x = y := Option.some.inj (Option.some.inj h1)
  subst this
  exact ⟨f, h2, fun a m => h4.mem_iff.mpr (List.mem_append_left _ m), G, h3, h4⟩
theorem args_of (r : Rel K Z H σ e F) : ∀ {xs : List V} {vs : List AV} {P : List Addr} {as : List Arg}, AVs K Z H σ xs vs P → resAll e vs = some as → ArgRs K Z H F xs as P
  | _, _, _, _, .nil, h => by
    cases h
    exact .nil
  | _, _, _, _, .o (vs := vs) q t, h => by
    cases h2 : resAll e vs with
    | none => simp only [resAll, res1, h2] at h; cases h
    | some as =>
      simp only [resAll, res1, h2] at h
      cases h
      exact .t q (args_of r t h2)
  | _, _, _, _, .s (i := i) (vs := vs) q t, h => by
    cases h1 : look e i with
    | none => simp only [resAll, res1, h1] at h; cases h
    | some o =>
      cases h2 : resAll e vs with
      | none => simp only [resAll, res1, h1, h2, Option.map_some] at h; cases h
      | some as =>
        simp only [resAll, res1, h1, h2, Option.map_some] at h
        cases h
        obtain ⟨P, a, b, _⟩ := rel_at r h1 q
        exact .b a b (args_of r t h2)

/-- behind an operation on things of the lists P -/
def PEnd (K : Frag) (Z H : Hp) (P : List Addr) (o : O) (x : V) (H' : Hp) : Prop := ∃ Z' P', Ext Z H P Z' H' P' ∧ Same Z' H' ∧ OR K Z' H' x o P' ∧ P'.Nodup
theorem Step.op (s : Step K σ Z H F Z1 H1 e1 F1 P) (x : Ext Z1 H1 P Z' H' P') (sm : Same Z' H') (nd : P'.Nodup) : Step K σ Z H F Z' H' e1 F1 P' := by
  have st := s.sts
  have ap : ∀ a ∈ F1, a ∉ P := fun a h q => s.apart a q h
  have t := s.ext.trans x fun a h => List.mem_append_right _ h
  refine ⟨⟨t.zz, t.fr, t.zn, fun a h => (List.mem_append.mp h).elim (fun q => s.ext.gn a (List.mem_append_left _ q)) (t.gn a), t.tu⟩, sm, ?_, ?_⟩
  · exact Rel.keep x.zz x.tu s.rel fun a h => let ⟨⟨l, q⟩, z⟩ := s.rel.mem a h; x.at q z (ap a h)
  · rw [List.nodup_append]
    refine ⟨st.nd, nd, fun a h b g q => ?_⟩
    subst q
    rcases x.gn a g with z | z
    · exact ap a h z
    · obtain ⟨⟨l, q⟩, _⟩ := s.rel.mem a h
      rw [q] at z
      cases z
def PrimPre (K : Frag) (p : Prim) (xs : List V) (H : Hp) (Q : VK) : Prop :=
  ∃ Z F P as o, Same Z H ∧ ArgRs K Z H F xs as P ∧ P.Nodup ∧ pr p as = some o ∧ ∀ x H', PEnd K Z H P o x H' → Q x H'

/-! ### results -/
theorem pend_d {x : V} {d : D} (hs : Same Z H) (h : Dr Z x d) : PEnd K Z H P (.v d) x H := ⟨Z, [], Ext.refl.sub (fun _ h => by cases h), hs, .v h, List.nodup_nil⟩
theorem pend_int (hs : Same Z H) (i : Int) : PEnd K Z H P (.v (.int i)) (.int i) H := pend_d hs (.int i)
theorem pend_bl (hs : Same Z H) (b : Bool) : PEnd K Z H P (.v (.bool b)) (.bl b) H := pend_d hs (.bl b)
theorem pend_str (hs : Same Z H) (b : Str) : PEnd K Z H P (.v (.str b)) (.str b) H := pend_d hs (.str b)
/-- one of the things themselves -/
theorem pend_o {x : V} {o : O} (hs : Same Z H) (h : OR K Z H x o P') (sub : ∀ a ∈ P', a ∈ P) (nd : P'.Nodup) : PEnd K Z H P o x H := ⟨Z, P', Ext.refl.sub sub, hs, h, nd⟩
theorem fresh_z {p : Addr} (hs : Same Z H) (n : H p = none) : Z p = none := by
  cases q : Z p with
  | none => rfl
  | some o => rw [hs p o q] at n; cases n
theorem same_upd {p : Addr} {o : HO} (n : H p = none) : Same H (upd H p o) := fun b u e => by
  rw [upd_ne (ne_of_none e n)]
  exact e
theorem ext_upd {p : Addr} {o : HO} (n : H p = none) : Ext Z H P Z (upd H p o) (p :: P) :=
  ⟨same_refl _, fun a u e _ => same_upd n a u e, fun a u e => .inl ⟨u, e⟩, fun a h => (List.mem_cons.mp h).elim (fun q => .inr (q ▸ n)) .inl, fun a xs e => same_upd n a _ e⟩
theorem ors_upd {p : Addr} {u : HO} {vs : List V} {os : List O} (n : H p = none) (r : ORs K Z H vs os P) : ORs K Z (upd H p u) vs os P :=
  ORs.keep (same_refl _) (fun a xs e => same_upd n a _ e) r fun a h => let ⟨⟨l, q⟩, z⟩ := ORs.mem r a h; ⟨(same_upd n a _ q).trans q.symm, z⟩
theorem not_mem_of_none {p : Addr} {S : List Addr} (n : H p = none) (h : ∀ a ∈ S, ∃ o, H a = some o) : p ∉ S := fun q => by
  obtain ⟨o, e⟩ := h p q
  rw [n] at e
  cases e
theorem pend_lst {p : Addr} {vs : List V} {os : List O} (hs : Same Z H) (r : ORs K Z H vs os P') (sub : ∀ a ∈ P', a ∈ P) (nd : P'.Nodup) (n : H p = none) : PEnd K Z H P (.own os) (.ref p) (upd H p (.lst vs)) := by
  refine ⟨Z, p :: P', (ext_upd n).sub fun a h => (List.mem_cons.mp h).elim (fun q => q ▸ List.mem_cons_self ..) fun q => List.mem_cons_of_mem _ (sub a q), same_trans hs (same_upd n), ?_, ?_⟩
  · exact .own upd_same (fresh_z hs n) (ors_upd n r)
  · exact List.nodup_cons.mpr ⟨not_mem_of_none n (st_of (Z := Z) (ORs.mem r)), nd⟩
theorem allV : ∀ {vs : List V} {os : List O} {P : List Addr}, ORs K Z H vs os P → os.all O.isV = true → P = [] ∧ DrAll Z vs (O.ds os)
  | _, _, _, .nil, _ => ⟨rfl, .nil⟩
  | _, _, _, .cons (.v d) s, h => by
    obtain ⟨e, f⟩ := allV s (by simpa [O.isV] using h)
    exact ⟨by simp [e], .cons d f⟩
  | _, _, _, .cons (.own _ _ _) s, h => by simp [O.isV] at h
  | _, _, _, .cons (.tup _ _) s, h => by simp [O.isV] at h
theorem ors_v : ∀ {vs : List V} {ds : List D}, DrAll Z vs ds → ORs K Z H vs (ds.map .v) []
  | _, _, .nil => .nil
  | _, _, .cons a b => ORs.cons (F := []) (G := []) (.v a) (ors_v b)
theorem pend_tup {p : Addr} {vs : List V} {os : List O} (hs : Same Z H) (r : ORs K Z H vs os P') (sub : ∀ a ∈ P', a ∈ P) (nd : P'.Nodup) (n : H p = none) : PEnd K Z H P (mkTup os) (.ref p) (upd H p (.tup vs)) := by
  unfold mkTup
  split
  · rename_i h
    obtain ⟨_, f⟩ := allV r h
    have zn := fresh_z hs n
    refine ⟨upd Z p (.tup vs), [], ⟨same_upd zn, fun a u e _ => same_upd n a u e, fun a u e => ?_, fun a h => (by cases h), fun a xs e => same_upd n a _ e⟩, fun a u e => ?_, .v ?_, List.nodup_nil⟩
    · by_cases q : a = p
      · exact .inr (.inr (.inl (q ▸ n)))
      · rw [upd_ne q] at e
        exact .inl ⟨u, e⟩
    · by_cases q : a = p
      · subst q
        rw [upd_same] at e ⊢
        exact e
      · rw [upd_ne q] at e ⊢
        exact hs a u e
    · exact .tup upd_same (DrAll.sub (same_upd zn) f)
  · refine ⟨Z, P', (ext_upd n).sub fun a h => List.mem_cons_of_mem _ (sub a h), same_trans hs (same_upd n), .tup upd_same (ors_upd n r), nd⟩
/-- what is in hand, frozen -/
theorem ext_frz (hs : Same Z H) : Ext Z H P (frz Z H P) H [] := ⟨frz_z, fun _ _ e _ => e, fun a o e => (frz_new e).elim (fun q => .inl ⟨_, q⟩) fun q => q.elim (fun q => .inr (.inl q.1)) fun ⟨xs, _, q2⟩ => .inr (.inr (.inr ⟨xs, q2⟩)), fun _ h => (by cases h), fun _ _ e => e⟩
end
end Ev
set_option Elab.async false
set_option linter.all false
set_option maxRecDepth 100000
/-! Ev5: names, constants, displays, items. -/
namespace Ev
open PySem PySem.Spec PyProof.Rows L2

section
variable {K : Frag} {σ : Sg} {Z Z' H H' Z1 H1 Z2 H2 : Hp} {F F1 F2 P P' P1 P2 : List Addr} {e e1 e2 : Ve}
theorem ORs.app : ∀ {xs ys : List V} {os ws : List O} {P Q : List Addr}, ORs K Z H xs os P → ORs K Z H ys ws Q → ORs K Z H (xs ++ ys) (os ++ ws) (P ++ Q)
  | _, _, _, _, _, _, .nil, b => b
  | _, _, _, _, _, _, .cons r t, b => by
    rw [List.append_assoc]
    exact .cons r (ORs.app t b)
/-- frozen lists P leave the others -/
theorem ors_frz {xs : List V} {os : List O} (hs : Same Z H) (r : ORs K Z H xs os P) (n : ∀ a ∈ P, a ∉ P1) : ORs K (frz Z H P1) H xs os P :=
  ORs.keep frz_z (fun _ _ e => e) r fun a h => let ⟨⟨l, q⟩, z⟩ := ORs.mem r a h; ⟨rfl, frz_none z (n a h) q⟩
theorem or_frz {x : V} {o : O} (hs : Same Z H) (r : OR K Z H x o P) (n : ∀ a ∈ P, a ∉ P1) : OR K (frz Z H P1) H x o P :=
  OR.keep frz_z (fun _ _ e => e) r fun a h => let ⟨⟨l, q⟩, z⟩ := OR.mem r a h; ⟨rfl, frz_none z (n a h) q⟩
theorem rel_frz (hs : Same Z H) (r : Rel K Z H σ e F) (n : ∀ a ∈ F, a ∉ P1) : Rel K (frz Z H P1) H σ e F :=
  Rel.keep frz_z (fun _ _ e => e) r fun a h => let ⟨⟨l, q⟩, z⟩ := r.mem a h; ⟨rfl, frz_none z (n a h) q⟩
/-- P of what is owned is frozen -/
theorem ext_frzF (hs : Same Z H) (sub : ∀ a ∈ P, a ∈ F) (sub2 : ∀ a ∈ P1, a ∈ F) : Ext Z H F (frz Z H P) H P1 :=
  ⟨frz_z, fun _ _ e _ => e, fun a o e => (frz_new e).elim (fun q => .inl ⟨_, q⟩) fun q => q.elim (fun q => .inr (.inl (sub a q.1))) fun ⟨xs, _, q2⟩ => .inr (.inr (.inr ⟨xs, q2⟩)), fun a h => .inl (sub2 a h), fun _ _ e => e⟩
theorem nodup_parts {A B C : List Addr} (nd : A.Nodup) (p : A.Perm (B ++ C)) : B.Nodup ∧ C.Nodup ∧ ∀ a ∈ C, a ∉ B := by
  have q := p.nodup_iff.mp nd
  rw [List.nodup_append] at q
  exact ⟨q.1, q.2.1, fun a h g => q.2.2 a g a h rfl⟩
theorem freeze_slot (s : Sts K Z H σ e F) {i : Nat} {o : O} {x : V} (h : look e i = some o) (hs : σ[i]? = some (some x)) :
    ∃ Z' F', Step K σ Z H F Z' H (e.set i (some (.v o.d))) F' [] ∧ Dr Z' x o.d := by
  obtain ⟨P, r, sub, G, rg, pm⟩ := rel_at s.rel h hs
  obtain ⟨nP, nG, ap⟩ := nodup_parts s.nd pm
  have d : Dr (frz Z H P) x o.d := OR.freeze s.same r fun a h => h
  refine ⟨frz Z H P, G, ⟨ext_frzF s.same sub fun a h => pm.mem_iff.mpr (List.mem_append_right _ (by simpa using h)), frz_sub s.same, ?_, by simpa using nG⟩, d⟩
  have b := Rel.back (rel_frz s.same rg ap) hs (OR.v (K := K) (H := H) d)
  simpa using b
theorem slot_some (s : Sts K Z H σ e F) {i : Nat} {o : O} (h : look e i = some o) : ∃ x, σ[i]? = some (some x) := by
  obtain ⟨x, f, G, h1, _⟩ := s.rel.get (look_some h)
  exact ⟨x, h1⟩
/-- one item frozen in its place -/
theorem ors_item : ∀ {vs : List V} {os : List O} {P : List Addr} {j : Nat} {o : O}, ORs K Z H vs os P → os[j]? = some o →
    ∃ x Pj R, vs[j]? = some x ∧ OR K Z H x o Pj ∧ P.Perm (Pj ++ R) ∧ ∀ Z', Same Z Z' → (∀ a ∈ R, Z' a = none) → Dr Z' x o.d → ORs K Z' H vs (os.set j (.v o.d)) R
  | _, _, _, _, _, .nil, e => by simp at e
  | _, _, _, 0, _, .cons (F := f) (G := g) r t, e => by
    simp at e
    subst e
    refine ⟨_, f, g, rfl, r, List.Perm.refl _, fun Z' hz k d => ?_⟩
    exact ORs.cons (F := []) (.v d) (ORs.keep hz (fun _ _ q => q) t fun a h => ⟨rfl, k a h⟩)
  | _, _, _, j + 1, _, .cons (F := f) (G := g) r t, e => by
    obtain ⟨x, Pj, R, h1, h2, h3, h4⟩ := ors_item (j := j) t (by simpa using e)
    refine ⟨x, Pj, f ++ R, by simpa using h1, h2, ?_, fun Z' hz k d => ?_⟩
    · refine (List.Perm.append_left f h3).trans ?_
      rw [← List.append_assoc, ← List.append_assoc]
      exact List.Perm.append_right R List.perm_append_comm
    · exact .cons (OR.keep hz (fun _ _ q => q) r fun a h => ⟨rfl, k a (List.mem_append_left _ h)⟩) (h4 Z' hz (fun a h => k a (List.mem_append_right _ h)) d)
theorem ors_get : ∀ {vs : List V} {os : List O} {P : List Addr} {j : Nat} {o : O}, ORs K Z H vs os P → os[j]? = some o → ∃ x Pj, vs[j]? = some x ∧ OR K Z H x o Pj ∧ (∀ a ∈ Pj, a ∈ P) ∧ (P.Nodup → Pj.Nodup) := fun r e => by
  obtain ⟨x, Pj, R, h1, h2, h3, _⟩ := ors_item r e
  exact ⟨x, Pj, h1, h2, fun a h => h3.mem_iff.mpr (List.mem_append_left _ h), fun n => (nodup_parts n h3).1⟩
theorem dpall_get {vs : List V} {ds : List D} (r : DrAll Z vs ds) {j : Nat} {d : D} (e : ds[j]? = some d) : ∃ x, vs[j]? = some x ∧ Dr Z x d := by
  obtain ⟨hj, _⟩ := List.getElem?_eq_some_iff.mp e
  have hl := DrAll.length r
  have hx : vs[j]? = some vs[j] := List.getElem?_eq_getElem (by omega)
  exact ⟨_, hx, DrAll.get r hx e⟩
theorem atI_ix {α β : Type} {xs : List α} {ys : List β} {n : Int} {y : β} (hl : xs.length = ys.length) (h : atI ys n = some y) : ∃ j, ixN ys.length n = some j ∧ ys[j]? = some y ∧ ∀ x, xs[j]? = some x → atI xs n = some x := by
  unfold atI at h
  cases q : ixN ys.length n with
  | none => rw [q] at h; cases h
  | some j =>
    rw [q] at h
    refine ⟨j, rfl, h, fun x e => ?_⟩
    unfold atI
    rw [hl, q]
    exact e
/-- a thing's items -/
theorem elems_at {t k : Bool} {x : V} {o : O} {os : List O} (hs : Same Z H) (r : OR K Z H x o P) (h : elems t o = some (k, os)) :
    ∃ a vs P', x = .ref a ∧ (if k = true then Rd H a (.lst vs) else H a = some (.tup vs)) ∧ ORs K Z H vs os P' ∧ (∀ q ∈ P', q ∈ P) ∧ (P.Nodup → P'.Nodup) ∧ (t = false → P' = []) := by
  cases r with
  | v d =>
    cases d with
    | lst s al =>
      simp only [elems] at h
      cases h
      exact ⟨_, _, [], rfl, by rw [if_pos rfl]; exact rd_same hs s, ors_v al, fun _ z => (by cases z), fun _ => List.nodup_nil, fun _ => rfl⟩
    | tup s al =>
      simp only [elems] at h
      cases h
      exact ⟨_, _, [], rfl, by rw [if_neg (by decide)]; exact hs _ _ s, ors_v al, fun _ z => (by cases z), fun _ => List.nodup_nil, fun _ => rfl⟩
    | non => simp [elems] at h
    | bl b => simp [elems] at h
    | int i => simp [elems] at h
    | str s => simp [elems] at h
  | own e z q =>
    simp only [elems] at h
    split at h
    · rename_i c
      cases h
      refine ⟨_, _, _, rfl, by rw [if_pos rfl]; exact .inl e, q, fun a m => List.mem_cons_of_mem _ m, fun n => (List.nodup_cons.mp n).2, fun ht => ?_⟩
      rw [ht, Bool.false_or] at c
      exact (allV q c).1
    · cases h
  | tup e q =>
    simp only [elems] at h
    split at h
    · rename_i c
      cases h
      refine ⟨_, _, _, rfl, by rw [if_neg (by decide)]; exact e, q, fun a m => m, fun n => n, fun ht => ?_⟩
      rw [ht, Bool.false_or] at c
      exact (allV q c).1
    · cases h
end

section
variable {X : Cx} {W : WX} {L : List FnE} {σ : Sg} {H : Hp}
theorem prim_pre {p : Prim} {as : List IP} {Q : VK} (h : tR X W (den L (.prim p as)) σ H Q) : tV X W (denPs L as) σ H fun xs H1 => PrimPre X.K p xs H1 Q := by
  obtain ⟨Z, e, F, s, h⟩ := h
  refine ⟨Z, e, F, s, ?_⟩
  simp only [den] at h
  cases q : denPs L as e with
  | err c d e1 => simp only [q, Res.bind, outG] at h; exact h
  | stuck => simp only [q, Res.bind, outG] at h
  | ok vs e1 =>
    simp only [q, Res.bind, outG] at h
    simp only [outG]
    intro xs H1 ⟨Z1, F1, P1, st, r⟩
    cases q2 : resAll e1 vs with
    | none => simp only [q2, outG] at h
    | some as' =>
      simp only [q2, outG] at h
      cases q3 : pr p as' with
      | none => simp only [q3, lift, outG] at h
      | some o =>
        simp only [q3, lift, outG] at h
        exact ⟨Z1, F1, P1, as', o, st.same, args_of st.rel r q2, (List.nodup_append.mp st.nd).2.1, q3, fun x H' ⟨Z', P', x1, x2, x3, x4⟩ => h x H' ⟨Z', F1, P', st.op x1 x2 x4, x3⟩⟩
theorem tP_e {a : IE} {Q : VK} (h : tP X W (denP L (.e a)) σ H Q) : tR X W (den L a) σ H Q := by
  refine tP_of ?_
  obtain ⟨Z, e, F, s, h⟩ := h
  refine ⟨Z, e, F, s, ?_⟩
  simp only [denP] at h
  exact h
theorem tP_s {i : Nat} {Q : VK} (h : tP X W (denP L (.s i)) σ H Q) : ∃ x, σ[i]? = some (some x) ∧ Q x H := by
  obtain ⟨Z, e, F, s, h⟩ := h
  simp only [denP] at h
  cases q : look e i with
  | none => rw [q] at h; exact h.elim
  | some o =>
    rw [q] at h
    obtain ⟨x, hx⟩ := slot_some s q
    exact ⟨x, hx, h x H ⟨Z, F, [], .refl s, .s hx .nil⟩⟩
/-! ### constants, names -/
def constD : Const → Option D
  | .none => some .none
  | .bool b => some (.bool b)
  | .int i => some (.int i)
  | .str x => some (.str x)
  | _ => none
theorem se_lit {c : Const} {j : Nat} {pos : Pos} {d : D} (h : constD c = some d) : PE X (.Constant c j pos) (tR X W (den L (.lit d))) := by
  have fin : ∀ {x : V} {σ : Sg} {H : Hp} {Q : VK}, (∀ Z, Dr Z x d) → tR X W (den L (.lit d)) σ H Q → Q x H := fun {x σ H Q} hd ⟨Z, e, F, s, h⟩ => by
    simp only [den] at h
    exact h x H ⟨Z, F, [], .refl s, .v (hd Z)⟩
  cases c with
  | none => cases h; exact pe_non.up fun σ H Q q => fin (fun Z => .non) q
  | bool b => cases h; exact pe_bl.up fun σ H Q q => fin (fun Z => .bl b) q
  | int i => cases h; exact pe_int.up fun σ H Q q => fin (fun Z => .int i) q
  | str x => cases h; exact pe_str.up fun σ H Q q => fin (fun Z => .str x) q
  | _ => cases h
theorem se_slot {i : Nat} {x : Str} {pos : Pos} (hN : X.N[i]? = some x) (hv : Vis X.env.scope x) (hd : (x == ("__debug__" : Str)) = false) (hcd : (x == ("__classdict__" : Str)) = false) (f : Ve → Res O)
    (hf : ∀ e, f e = .stuck ∨ ∃ o, look e i = some o) (hgo : ∀ (Z : Hp) (e : Ve) (F : List Addr) (H : Hp) (σ : Sg) (Q : VK), Sts X.K Z H σ e F → ∀ v, σ[i]? = some (some v) → outG X W EndE σ Z H F Q (f e) → Q v H) : PE X (.Name x pos) (tR X W f) := by
  refine (pe_var (i := i) hN hv hd hcd).up fun σ H Q q => ?_
  obtain ⟨Z, e, F, s, h⟩ := q
  rcases hf e with z | ⟨o, z⟩
  · rw [z] at h
    exact h.elim
  · obtain ⟨v, hv⟩ := slot_some s z
    exact ⟨v, hv, hgo Z e F H σ Q s v hv h⟩
theorem se_var {i : Nat} {x : Str} {pos : Pos} (hN : X.N[i]? = some x) (hv : Vis X.env.scope x) (hd : (x == ("__debug__" : Str)) = false) (hcd : (x == ("__classdict__" : Str)) = false) : PE X (.Name x pos) (tR X W (den L (.var i))) := by
  refine se_slot hN hv hd hcd _ (fun e => ?_) fun Z e F H σ Q s v hv h => ?_
  · simp only [den, rdVar]
    cases q : look e i with
    | none => exact .inl rfl
    | some o => exact .inr ⟨o, rfl⟩
  · simp only [den, rdVar] at h
    cases q : look e i with
    | none => rw [q] at h; exact h.elim
    | some o =>
      rw [q] at h
      obtain ⟨Z', F', st, d⟩ := freeze_slot s q hv
      exact h v H ⟨Z', F', [], st, .v d⟩
theorem se_mv {i : Nat} {x : Str} {pos : Pos} (hN : X.N[i]? = some x) (hv : Vis X.env.scope x) (hd : (x == ("__debug__" : Str)) = false) (hcd : (x == ("__classdict__" : Str)) = false) : PE X (.Name x pos) (tR X W (den L (.mv i))) := by
  refine se_slot hN hv hd hcd _ (fun e => ?_) fun Z e F H σ Q s v hv h => ?_
  · simp only [den, mvVar]
    cases q : look e i with
    | none => exact .inl rfl
    | some o => exact .inr ⟨o, rfl⟩
  · simp only [den, mvVar] at h
    cases q : look e i with
    | none => rw [q] at h; exact h.elim
    | some o =>
      rw [q] at h
      obtain ⟨P, r, sub, G, rg, pm⟩ := rel_at s.rel q hv
      have mvd : EndE X.K σ Z H F (e.set i none) v o H := ⟨Z, G, P, ⟨Ext.refl.sub fun a m => pm.mem_iff.mpr (by simpa [or_comm] using m), s.same, rg, (pm.trans List.perm_append_comm).nodup_iff.mp s.nd⟩, r⟩
      cases o with
      | v d =>
        cases r with
        | v dp => exact h v H ⟨Z, F, [], .refl s, .v dp⟩
      | own os => exact h v H mvd
      | tup os => exact h v H mvd

/-! ### things in a row; displays -/
def EndO (K : Frag) (σ : Sg) (Z H : Hp) (F : List Addr) (e' : Ve) (xs : List V) (os : List O) (H' : Hp) : Prop := ∃ Z' F' P, Step K σ Z H F Z' H' e' F' P ∧ ORs K Z' H' xs os P
def tO (X : Cx) (W : WX) (m : Ve → Res (List O)) : TA := tG X W m EndO
theorem tO_nil {R : List V → Hp → Prop} (h : tO X W (denEs L []) σ H R) : R [] H := by
  obtain ⟨Z, e, F, s, h⟩ := h
  simp only [denEs] at h
  exact h [] H ⟨Z, F, [], .refl s, .nil⟩
theorem tO_cons {p : IE} {ps : List IE} {R : List V → Hp → Prop} (h : tO X W (denEs L (p :: ps)) σ H R) : tR X W (den L p) σ H fun x H1 => tO X W (denEs L ps) σ H1 fun xs H2 => R (x :: xs) H2 := by
  obtain ⟨Z, e, F, s, h⟩ := h
  refine ⟨Z, e, F, s, ?_⟩
  simp only [denEs] at h
  cases q : den L p e with
  | err c d e1 => simp only [q, Res.bind, outG] at h; exact h
  | stuck => simp only [q, Res.bind, outG] at h
  | ok v e1 =>
    simp only [q, Res.bind, outG] at h
    simp only [outG]
    intro x H1 ⟨Z1, F1, P1, st1, r1⟩
    refine ⟨Z1, e1, F1, st1.sts, ?_⟩
    cases q2 : denEs L ps e1 with
    | err c d e2 => simp only [q2, outG] at h; exact h.of st1
    | stuck => simp only [q2, outG] at h
    | ok vs e2 =>
      simp only [q2, outG] at h
      simp only [outG]
      intro xs H2 ⟨Z2, F2, P2, st2, r2⟩
      exact h (x :: xs) H2 ⟨Z2, F2, P1 ++ P2, st1.seq st2 (st_of (OR.mem r1)), ORs.cons (st2.ext.or r1 st1.apart) r2⟩
theorem se_lst {es : List Expr} {ies : List IE} {pos : Pos} (h : PA X es (tO X W (denEs L ies))) : PE X (.List es pos) (tR X W (den L (.lst ies))) := by
  refine (pe_lst h).up fun σ H Q q => ?_
  obtain ⟨Z, e, F, s, h⟩ := q
  refine ⟨Z, e, F, s, ?_⟩
  simp only [den] at h
  cases q : denEs L ies e with
  | err c d e1 => simp only [q, Res.bind, outG] at h; exact h
  | stuck => simp only [q, Res.bind, outG] at h
  | ok os e1 =>
    simp only [q, Res.bind, mkLst, outG] at h
    simp only [outG]
    intro xs H1 ⟨Z1, F1, P1, st1, r1⟩
    by_cases hf : fits os = true
    · rw [if_pos hf] at h
      have hl : os.length ≤ sizeLine := of_decide_eq_true hf
      refine ⟨by rw [r1.length]; exact hl, fun p np => ?_⟩
      obtain ⟨Z', P', x1, x2, x3, x4⟩ := pend_lst st1.same r1 (fun a m => m) (List.nodup_append.mp st1.nd).2.1 np
      exact h _ _ ⟨Z', F1, P', st1.op x1 x2 x4, x3⟩
    · rw [if_neg hf] at h
      exact h.elim
theorem se_tup {es : List Expr} {ies : List IE} {pos : Pos} {k : Nat} (h : PA X es (tO X W (denEs L ies))) : PE X (.Tuple es k pos) (tR X W (den L (.tup ies))) := by
  refine (pe_tup h).up fun σ H Q q => ?_
  obtain ⟨Z, e, F, s, h⟩ := q
  refine ⟨Z, e, F, s, ?_⟩
  simp only [den] at h
  cases q : denEs L ies e with
  | err c d e1 => simp only [q, Res.bind, outG] at h; exact h
  | stuck => simp only [q, Res.bind, outG] at h
  | ok os e1 =>
    simp only [q, Res.bind, mkTupF, outG] at h
    simp only [outG]
    intro xs H1 ⟨Z1, F1, P1, st1, r1⟩
    by_cases hf : fits os = true
    · rw [if_pos hf] at h
      have hl : os.length ≤ sizeLine := of_decide_eq_true hf
      refine ⟨by rw [r1.length]; exact hl, fun p np => ?_⟩
      obtain ⟨Z', P', x1, x2, x3, x4⟩ := pend_tup st1.same r1 (fun a m => m) (List.nodup_append.mp st1.nd).2.1 np
      exact h _ _ ⟨Z', F1, P', st1.op x1 x2 x4, x3⟩
    · rw [if_neg hf] at h
      exact h.elim
end
end Ev
set_option Elab.async false
set_option linter.all false
set_option maxRecDepth 100000
/-! Ev6: items by place, tests, and, or, if-else. -/
namespace Ev
open PySem PySem.Spec PyProof.Rows L2

section
variable {X : Cx} {W : WX} {L : List FnE} {σ : Sg} {H : Hp}
/-! ### x[i] -/
def rIx (K : Frag) : R2 := fun x y H Q => rIxL K x y H Q ∨ rIxT K x y H Q
theorem ix_any : IxR X (rIx X.K) := IxR.or ix_list ix_tup
theorem rIx_of {K : Frag} {k : Bool} {H : Hp} {a : Addr} {vs : List V} {i : Int} {v : V} {Q : VK} (hq : if k = true then Rd H a (.lst vs) else H a = some (.tup vs)) (e : atI vs i = some v) (q : Q v H) : rIx K (.ref a) (.int i) H Q := by
  cases k with
  | true => exact .inl ⟨a, vs, i, v, rfl, rfl, .inl (by simpa using hq), e, q⟩
  | false => exact .inr ⟨a, vs, i, v, rfl, rfl, .inl (.inl (by simpa using hq)), e, q⟩
/-- the items of an owned list, of a tuple of owned things -/
theorem slot_item {σ : Sg} {Z H : Hp} {F : List Addr} {e : Ve} {x : V} {i j : Nat} {n : Int} {os : List O} {o : O} {Q : VK} (k : Bool) (s : Sts X.K Z H σ e F) (hx : σ[i]? = some (some x)) (hl : look e i = some (if k then .own os else .tup os)) (hj : ixN os.length n = some j) (ho : os[j]? = some o)
    (h : ∀ v, (∃ Z' F', Step X.K σ Z H F Z' H (e.set i (some (if k then .own (os.set j (.v o.d)) else .tup (os.set j (.v o.d))))) F' [] ∧ Dr Z' v o.d) → Q v H) : rIx X.K x (.int n) H Q := by
  obtain ⟨P, r, sub, G, rg, pm⟩ := rel_at s.rel hl hx
  obtain ⟨nP, nG, ap⟩ := nodup_parts s.nd pm
  have main : ∀ (a : Addr) (vs : List V) (P0 : List Addr), x = .ref a → (if k = true then Rd H a (.lst vs) else H a = some (.tup vs)) → ORs X.K Z H vs os P0 → P0.Nodup → (∀ b ∈ P0, b ∈ P) →
      (∀ Z' R, Same Z Z' → Same Z' H → (∀ b ∈ R, b ∈ P0) → (∀ b, b ∈ P → b ∉ P0 → Z' b = none) → ORs X.K Z' H vs (os.set j (.v o.d)) R → ∃ R', OR X.K Z' H (.ref a) (if k then .own (os.set j (.v o.d)) else .tup (os.set j (.v o.d))) R' ∧ (∀ b ∈ R', b ∈ P) ∧ (R.Nodup → R'.Nodup)) → rIx X.K x (.int n) H Q := by
    intro a vs P0 ex hq ro n0 s0 mk
    subst ex
    obtain ⟨y, Pj, R, h1, h2, h3, h4⟩ := ors_item ro ho
    have hlen := ro.length
    have hat : atI vs n = some y := by
      unfold atI
      rw [hlen, hj]
      exact h1
    refine rIx_of hq hat (h y ?_)
    obtain ⟨nj, nR, apj⟩ := nodup_parts n0 h3
    have subj : ∀ b ∈ Pj, b ∈ P0 := fun b m => h3.mem_iff.mpr (List.mem_append_left _ m)
    have subR : ∀ b ∈ R, b ∈ P0 := fun b m => h3.mem_iff.mpr (List.mem_append_right _ m)
    have d : Dr (frz Z H Pj) y o.d := OR.freeze s.same h2 fun b m => m
    have no : ∀ b, (∃ l, H b = some (HO.lst l)) → Z b = none → b ∉ Pj → frz Z H Pj b = none := fun b ⟨l, q⟩ z m => frz_none z m q
    have ro2 := h4 (frz Z H Pj) frz_z (fun b m => let ⟨hl, hz⟩ := ORs.mem ro b (subR b m); no b hl hz (apj b m)) d
    obtain ⟨R', r2, s2, n2⟩ := mk (frz Z H Pj) R frz_z (frz_sub s.same) subR (fun b m m0 => let ⟨hl, hz⟩ := OR.mem r b m; no b hl hz fun q => m0 (subj b q)) ro2
    have rgz : Rel X.K (frz Z H Pj) H σ (e.set i none) G := rel_frz s.same rg fun b m q => ap b m (s0 b (subj b q))
    have bk := Rel.back rgz hx r2
    refine ⟨frz Z H Pj, R' ++ G, ⟨ext_frzF s.same (fun b m => sub b (s0 b (subj b m))) fun b m => ?_, frz_sub s.same, bk, ?_⟩, d⟩
    · rw [List.append_nil] at m
      rcases List.mem_append.mp m with m | m
      · exact sub b (s2 b m)
      · exact pm.mem_iff.mpr (List.mem_append_right _ m)
    · rw [List.append_nil, List.nodup_append]
      exact ⟨n2 nR, nG, fun b m c m2 q => ap c m2 (q ▸ s2 b m)⟩
  cases k with
  | true =>
    cases r with
    | own ea za ro =>
      obtain ⟨na, n0⟩ := List.nodup_cons.mp nP
      refine main _ _ _ rfl (by rw [if_pos rfl]; exact .inl ea) ro n0 (fun b m => List.mem_cons_of_mem _ m) fun Z' R hz hs sR hzn r' => ?_
      refine ⟨_ :: R, .own ea (hzn _ (List.mem_cons_self ..) na) r', fun b m => (List.mem_cons.mp m).elim (fun q => q ▸ List.mem_cons_self ..) fun q => List.mem_cons_of_mem _ (sR b q), fun nr => List.nodup_cons.mpr ⟨fun q => na (sR _ q), nr⟩⟩
  | false =>
    cases r with
    | tup ea ro =>
      refine main _ _ _ rfl (by rw [if_neg (by decide)]; exact ea) ro nP (fun b m => m) fun Z' R hz hs sR hzn r' => ?_
      exact ⟨R, .tup ea r', sR, fun nr => nr⟩
theorem se_idx {a b : Expr} {p : IP} {k : IE} {pos : Pos} (ha : PE X a (tP X W (denP L p))) (hb : PE X b (tR X W (den L k))) (hs : PlainIx b) : PE X (.Subscript a b pos) (tR X W (den L (.idx p k))) := by
  refine (pe_ix ix_any ha hb hs).up fun σ H Q q => ?_
  obtain ⟨Z, e, F, s, h⟩ := q
  refine ⟨Z, e, F, s, ?_⟩
  simp only [den] at h
  cases q : denP L p e with
  | err c d e1 => simp only [q, Res.bind, outG] at h; exact h
  | stuck => simp only [q, Res.bind, outG] at h
  | ok v e1 =>
    simp only [q, Res.bind] at h
    simp only [outG]
    intro x H1 ⟨Z1, F1, P1, st1, r1⟩
    refine ⟨Z1, e1, F1, st1.sts, ?_⟩
    cases q2 : den L k e1 with
    | err c d e2 => simp only [q2, outG] at h; exact h.of st1
    | stuck => simp only [q2, outG] at h
    | ok ko e2 =>
      simp only [q2] at h
      simp only [outG]
      intro y H2 ⟨Z2, F2, P2, st2, r2⟩
      have st := st1.seq st2 (st_of r1.mem)
      have r1' := AVs.keep st2.ext r1 st1.apart
      obtain ⟨PP, hPP⟩ : ∃ PP, PP = P1 ++ P2 := ⟨_, rfl⟩
      rw [← hPP] at st
      unfold rdIdx at h
      split at h
      · rename_i n
        cases r2 with
        | v dk =>
          cases dk with
          | int _ =>
            cases r1' with
            | o ro t =>
              cases t
              simp only at h
              split at h
              · rename_i kk os he
                obtain ⟨ad, vs, P', ex, hq, ros, sub, nds, _⟩ := elems_at st.same ro he
                subst ex
                cases ha : atI os n with
                | none => simp only [ha, lift, outG] at h
                | some o =>
                  simp only [ha, lift, outG] at h
                  obtain ⟨j, h1, h2, h3⟩ := atI_ix ros.length ha
                  obtain ⟨xv, Pj, h4, h5, h6, h7⟩ := ors_get ros h2
                  refine rIx_of hq (h3 xv h4) (h xv H2 ?_)
                  have nP := (List.nodup_append.mp st.nd).2.1
                  rw [hPP] at nP
                  have nro := (List.nodup_append.mp nP).1
                  obtain ⟨Z', P'', x1, x2, x3, x4⟩ := pend_o (P := PP) st.same h5 (fun a m => by rw [hPP]; simpa using sub a (h6 a m)) (h7 (nds (by simpa using nro)))
                  exact ⟨Z', F2, P'', st.op x1 x2 x4, x3⟩
              · exact h.elim
            | s hx t =>
              cases t
              simp only at h
              split at h
              · rename_i os hl
                split at h
                · rename_i j hj
                  split at h
                  · rename_i o ho
                    refine slot_item true st.sts hx hl hj ho fun v ⟨Z', F', s', d⟩ => h v H2 ⟨Z', F', [], ?_, .v d⟩
                    have w := st.drop.seq s' (by simp)
                    simpa using w
                  · exact h.elim
                · exact h.elim
              · rename_i os hl
                split at h
                · rename_i j hj
                  split at h
                  · rename_i o ho
                    refine slot_item false st.sts hx hl hj ho fun v ⟨Z', F', s', d⟩ => h v H2 ⟨Z', F', [], ?_, .v d⟩
                    have w := st.drop.seq s' (by simp)
                    simpa using w
                  · exact h.elim
                · exact h.elim
              · rename_i d hl
                split at h
                · rename_i kk os he
                  obtain ⟨P, r, sub, _⟩ := rel_at st.rel hl hx
                  obtain ⟨ad, vs, P', ex, hq, ros, _, _, hnil⟩ := elems_at st.same r he
                  subst ex
                  have e0 := hnil rfl
                  subst e0
                  cases ha : atI os n with
                  | none => simp only [ha, lift, outG] at h
                  | some o =>
                    simp only [ha, lift, outG] at h
                    obtain ⟨j, h1, h2, h3⟩ := atI_ix ros.length ha
                    obtain ⟨xv, Pj, h4, h5, h6, h7⟩ := ors_get ros h2
                    refine rIx_of hq (h3 xv h4) (h xv H2 ?_)
                    have ep : Pj = [] := List.eq_nil_iff_forall_not_mem.mpr fun a m => by cases h6 a m
                    subst ep
                    exact ⟨Z2, F2, [], st.drop, h5⟩
                · exact h.elim
              · exact h.elim
      · exact h.elim

/-! ### tests -/
def EndB (K : Frag) (σ : Sg) (Z H : Hp) (F : List Addr) (e' : Ve) (x : Bool) (b : Bool) (H' : Hp) : Prop := x = b ∧ ∃ Z' F', Step K σ Z H F Z' H' e' F' []
def tT (X : Cx) (W : WX) (m : Ve → Res Bool) : TT := tG X W m EndB
theorem tT_R {m : Ve → Res O} {Q : Bool → Hp → Prop} (h : tT X W (fun e => asBool (m e)) σ H Q) : tR X W m σ H fun x H1 => ∃ c, x = .bl c ∧ Q c H1 := by
  obtain ⟨Z, e, F, s, h⟩ := h
  refine ⟨Z, e, F, s, ?_⟩
  simp only [asBool] at h
  cases q : m e with
  | err c d e1 => simp only [q, Res.bind, outG] at h; exact h
  | stuck => simp only [q, Res.bind, outG] at h
  | ok o e1 =>
    simp only [q, Res.bind] at h
    simp only [outG]
    intro x H1 ⟨Z1, F1, P1, st1, r1⟩
    split at h
    · rename_i b
      simp only [outG] at h
      cases r1 with
      | v d =>
        cases d with
        | bl _ => exact ⟨b, rfl, h b H1 ⟨rfl, Z1, F1, st1.drop⟩⟩
    · exact h.elim
/-- a plain test -/
def plainTest : Expr → Bool
  | .Name .. | .Call .. | .Subscript .. | .Constant .. => true
  | _ => false
theorem st_plain {c : Expr} {m : Ve → Res O} (h : PE X c (tR X W m)) (hp : plainTest c = true) : PT X c (tT X W fun e => asBool (m e)) := by
  refine (pt_val h ?_).up fun σ H Q q => tT_R q
  cases c <;> first | (intro _; rfl) | cases hp
theorem asBool_and (L : List FnE) (a b : IE) (e : Ve) : asBool (den L (.and a b) e) = (asBool (den L a e)).bind fun c e1 => if c then asBool (den L b e1) else .ok false e1 := by
  simp only [den]
  cases asBool (den L a e) with
  | ok c e1 => cases c <;> rfl
  | err c d e1 => rfl
  | stuck => rfl
theorem asBool_or (L : List FnE) (a b : IE) (e : Ve) : asBool (den L (.or a b) e) = (asBool (den L a e)).bind fun c e1 => if c then .ok true e1 else asBool (den L b e1) := by
  simp only [den]
  cases asBool (den L a e) with
  | ok c e1 => cases c <;> rfl
  | err c d e1 => rfl
  | stuck => rfl
theorem tT_and {a b : IE} {Q : Bool → Hp → Prop} (h : tT X W (fun e => asBool (den L (.and a b) e)) σ H Q) : tAnd (tT X W fun e => asBool (den L a e)) (tT X W fun e => asBool (den L b e)) σ H Q := by
  obtain ⟨Z, e, F, s, h⟩ := h
  refine ⟨Z, e, F, s, ?_⟩
  show outG _ _ _ _ _ _ _ _ (asBool (den L a e))
  simp only [asBool_and] at h
  cases q : asBool (den L a e) with
  | err c d e1 => simp only [q, Res.bind, outG] at h; exact h
  | stuck => simp only [q, Res.bind, outG] at h
  | ok c e1 =>
    simp only [q, Res.bind] at h
    simp only [outG]
    intro x H1 ⟨ex, Z1, F1, st1⟩
    subst ex
    cases x with
    | true =>
      rw [if_pos rfl] at h ⊢
      refine ⟨Z1, e1, F1, st1.sts, ?_⟩
      show outG _ _ _ _ _ _ _ _ (asBool (den L b e1))
      cases q2 : asBool (den L b e1) with
      | err c d e2 => simp only [q2, outG] at h; exact h.of st1
      | stuck => simp only [q2, outG] at h
      | ok c2 e2 =>
        simp only [q2, outG] at h
        simp only [outG]
        intro x2 H2 ⟨ex2, Z2, F2, st2⟩
        exact h x2 H2 ⟨ex2, Z2, F2, by simpa using st1.seq st2 (by simp)⟩
    | false =>
      rw [if_neg (by decide)] at h ⊢
      simp only [outG] at h
      exact h false H1 ⟨rfl, Z1, F1, st1⟩
theorem tT_or {a b : IE} {Q : Bool → Hp → Prop} (h : tT X W (fun e => asBool (den L (.or a b) e)) σ H Q) : tOr (tT X W fun e => asBool (den L a e)) (tT X W fun e => asBool (den L b e)) σ H Q := by
  obtain ⟨Z, e, F, s, h⟩ := h
  refine ⟨Z, e, F, s, ?_⟩
  show outG _ _ _ _ _ _ _ _ (asBool (den L a e))
  simp only [asBool_or] at h
  cases q : asBool (den L a e) with
  | err c d e1 => simp only [q, Res.bind, outG] at h; exact h
  | stuck => simp only [q, Res.bind, outG] at h
  | ok c e1 =>
    simp only [q, Res.bind] at h
    simp only [outG]
    intro x H1 ⟨ex, Z1, F1, st1⟩
    subst ex
    cases x with
    | false =>
      rw [if_neg (by decide)] at h ⊢
      refine ⟨Z1, e1, F1, st1.sts, ?_⟩
      show outG _ _ _ _ _ _ _ _ (asBool (den L b e1))
      cases q2 : asBool (den L b e1) with
      | err c d e2 => simp only [q2, outG] at h; exact h.of st1
      | stuck => simp only [q2, outG] at h
      | ok c2 e2 =>
        simp only [q2, outG] at h
        simp only [outG]
        intro x2 H2 ⟨ex2, Z2, F2, st2⟩
        exact h x2 H2 ⟨ex2, Z2, F2, by simpa using st1.seq st2 (by simp)⟩
    | true =>
      rw [if_pos rfl] at h ⊢
      simp only [outG] at h
      exact h true H1 ⟨rfl, Z1, F1, st1⟩
/-- the last one of a row of and, or, as a value: its value -/
theorem tR_and {a b : IE} {Q : VK} (h : tR X W (den L (.and a b)) σ H Q) : tAndV (tR X W (den L a)) (tR X W (den L b)) σ H Q := by
  have g : tT X W (fun e => asBool (den L a e)) σ H fun c H1 => if c = true then tR X W (den L b) σ H1 Q else Q (.bl false) H1 := by
    obtain ⟨Z, e, F, s, h⟩ := h
    refine ⟨Z, e, F, s, ?_⟩
    show outG _ _ _ _ _ _ _ _ (asBool (den L a e))
    simp only [den] at h
    cases q : asBool (den L a e) with
    | err c d e1 => simp only [q, Res.bind, outG] at h; exact h
    | stuck => simp only [q, Res.bind, outG] at h
    | ok c e1 =>
      simp only [q, Res.bind] at h
      simp only [outG]
      intro x H1 ⟨ex, Z1, F1, st1⟩
      subst ex
      cases x with
      | true =>
        rw [if_pos rfl] at h ⊢
        refine ⟨Z1, e1, F1, st1.sts, ?_⟩
        cases q2 : den L b e1 with
        | err c d e2 => simp only [q2, outG] at h; exact h.of st1
        | stuck => simp only [q2, outG] at h
        | ok c2 e2 =>
          simp only [q2, outG] at h
          simp only [outG]
          intro x2 H2 ⟨Z2, F2, P2, st2, r2⟩
          exact h x2 H2 ⟨Z2, F2, P2, by simpa using st1.seq st2 (by simp), r2⟩
      | false =>
        rw [if_neg (by decide)] at h ⊢
        simp only [outG] at h
        exact h (.bl false) H1 ⟨Z1, F1, [], st1, .v (.bl false)⟩
  exact tT_R g
theorem tR_or {a b : IE} {Q : VK} (h : tR X W (den L (.or a b)) σ H Q) : tOrV (tR X W (den L a)) (tR X W (den L b)) σ H Q := by
  have g : tT X W (fun e => asBool (den L a e)) σ H fun c H1 => if c = true then Q (.bl true) H1 else tR X W (den L b) σ H1 Q := by
    obtain ⟨Z, e, F, s, h⟩ := h
    refine ⟨Z, e, F, s, ?_⟩
    show outG _ _ _ _ _ _ _ _ (asBool (den L a e))
    simp only [den] at h
    cases q : asBool (den L a e) with
    | err c d e1 => simp only [q, Res.bind, outG] at h; exact h
    | stuck => simp only [q, Res.bind, outG] at h
    | ok c e1 =>
      simp only [q, Res.bind] at h
      simp only [outG]
      intro x H1 ⟨ex, Z1, F1, st1⟩
      subst ex
      cases x with
      | false =>
        rw [if_neg (by decide)] at h ⊢
        refine ⟨Z1, e1, F1, st1.sts, ?_⟩
        cases q2 : den L b e1 with
        | err c d e2 => simp only [q2, outG] at h; exact h.of st1
        | stuck => simp only [q2, outG] at h
        | ok c2 e2 =>
          simp only [q2, outG] at h
          simp only [outG]
          intro x2 H2 ⟨Z2, F2, P2, st2, r2⟩
          exact h x2 H2 ⟨Z2, F2, P2, by simpa using st1.seq st2 (by simp), r2⟩
      | true =>
        rw [if_pos rfl] at h ⊢
        simp only [outG] at h
        exact h (.bl true) H1 ⟨Z1, F1, [], st1, .v (.bl true)⟩
  exact tT_R g
theorem tR_ite {c a b : IE} {Q : VK} (h : tR X W (den L (.ite c a b)) σ H Q) : tIf (tT X W fun e => asBool (den L c e)) (tR X W (den L a)) (tR X W (den L b)) σ H Q := by
  obtain ⟨Z, e, F, s, h⟩ := h
  refine ⟨Z, e, F, s, ?_⟩
  show outG _ _ _ _ _ _ _ _ (asBool (den L c e))
  simp only [den] at h
  cases q : asBool (den L c e) with
  | err c d e1 => simp only [q, Res.bind, outG] at h; exact h
  | stuck => simp only [q, Res.bind, outG] at h
  | ok c e1 =>
    simp only [q, Res.bind] at h
    simp only [outG]
    intro x H1 ⟨ex, Z1, F1, st1⟩
    subst ex
    cases x with
    | true =>
      rw [if_pos rfl] at h ⊢
      refine ⟨Z1, e1, F1, st1.sts, ?_⟩
      cases q2 : den L a e1 with
      | err c d e2 => simp only [q2, outG] at h; exact h.of st1
      | stuck => simp only [q2, outG] at h
      | ok c2 e2 =>
        simp only [q2, outG] at h
        simp only [outG]
        intro x2 H2 ⟨Z2, F2, P2, st2, r2⟩
        exact h x2 H2 ⟨Z2, F2, P2, by simpa using st1.seq st2 (by simp), r2⟩
    | false =>
      rw [if_neg (by decide)] at h ⊢
      refine ⟨Z1, e1, F1, st1.sts, ?_⟩
      cases q2 : den L b e1 with
      | err c d e2 => simp only [q2, outG] at h; exact h.of st1
      | stuck => simp only [q2, outG] at h
      | ok c2 e2 =>
        simp only [q2, outG] at h
        simp only [outG]
        intro x2 H2 ⟨Z2, F2, P2, st2, r2⟩
        exact h x2 H2 ⟨Z2, F2, P2, by simpa using st1.seq st2 (by simp), r2⟩
end
end Ev
set_option Elab.async false
set_option linter.all false
set_option maxRecDepth 100000
/-! Ev7: what the operations ask, by values. -/
namespace Ev
open PySem PySem.Spec PyProof.Rows L2

inductive ArgR (K : Frag) (Z H : Hp) : V → Bool → O → List Addr → Prop
  | t {x : V} {o : O} {P : List Addr} : OR K Z H x o P → ArgR K Z H x true o P
  | b {x : V} {o : O} {P : List Addr} : OR K Z H x o P → ArgR K Z H x false o []
section
variable {K : Frag} {Z H : Hp} {F P : List Addr}
theorem args0 {as : List Arg} (h : ArgRs K Z H F [] as P) : as = [] ∧ P = [] := by
  cases h
  exact ⟨rfl, rfl⟩
theorem args_cons {x : V} {xs : List V} {as : List Arg} (h : ArgRs K Z H F (x :: xs) as P) : ∃ s o r P1 P2, as = (s, o) :: r ∧ P = P1 ++ P2 ∧ ArgR K Z H x s o P1 ∧ ArgRs K Z H F xs r P2 := by
  cases h with
  | t r q => exact ⟨_, _, _, _, _, rfl, rfl, .t r, q⟩
  | b r _ q => exact ⟨_, _, _, [], _, rfl, rfl, .b r, q⟩
theorem ArgR.or {x : V} {s : Bool} {o : O} {P : List Addr} (h : ArgR K Z H x s o P) : ∃ Q, OR K Z H x o Q := by
  cases h with
  | t r => exact ⟨_, r⟩
  | b r => exact ⟨_, r⟩
theorem ArgR.dr {x : V} {s : Bool} {o : O} {P : List Addr} (hs : Same Z H) (h : ArgR K Z H x s o P) : Dr H x o.d := let ⟨_, r⟩ := h.or; OR.dr hs r
theorem ArgR.elems {x : V} {s k : Bool} {o : O} {os : List O} {P : List Addr} (hs : Same Z H) (h : ArgR K Z H x s o P) (e : elems s o = some (k, os)) :
    ∃ a vs P', x = .ref a ∧ (if k = true then Rd H a (.lst vs) else H a = some (.tup vs)) ∧ ORs K Z H vs os P' ∧ (∀ q ∈ P', q ∈ P) ∧ (P.Nodup → P'.Nodup) := by
  cases h with
  | t r =>
    obtain ⟨a, vs, P', h1, h2, h3, h4, h5, _⟩ := elems_at hs r e
    exact ⟨a, vs, P', h1, h2, h3, h4, h5⟩
  | b r =>
    obtain ⟨a, vs, P', h1, h2, h3, h4, h5, h6⟩ := elems_at hs r e
    have q := h6 rfl
    subst q
    exact ⟨a, vs, [], h1, h2, h3, fun _ z => (by cases z), fun _ => List.nodup_nil⟩
theorem ArgR.int {x : V} {s : Bool} {o : O} {i : Int} {P : List Addr} (h : ArgR K Z H x s o P) (e : intOf o = some i) : x = .int i := by
  obtain ⟨_, r⟩ := h.or
  cases r with
  | v d =>
    cases d with
    | int j =>
      simp only [intOf] at e
      cases e
      rfl
    | _ => simp [intOf] at e
  | _ => simp [intOf] at e
/-- one operand, two operands -/
theorem pre1 {p : Prim} {x : V} {Q : VK} {f : Bool → O → Option O} (hp : ∀ as, pr p as = pr1 as f) (h : PrimPre K p [x] H Q) :
    ∃ Z P s o r, Same Z H ∧ ArgR K Z H x s o P ∧ P.Nodup ∧ f s o = some r ∧ ∀ y H', PEnd K Z H P r y H' → Q y H' := by
  obtain ⟨Z, F, P, as, o, hs, ha, nd, e, fin⟩ := h
  obtain ⟨s, u, r, P1, P2, rfl, rfl, h1, h2⟩ := args_cons ha
  obtain ⟨rfl, rfl⟩ := args0 h2
  rw [hp] at e
  exact ⟨Z, P1, s, u, o, hs, h1, by simpa using nd, e, fun y H' q => fin y H' (by simpa using q)⟩
theorem pre2 {p : Prim} {x y : V} {Q : VK} {f : Bool → O → Bool → O → Option O} (hp : ∀ as, pr p as = pr2 as f) (h : PrimPre K p [x, y] H Q) :
    ∃ Z P1 P2 s a t b r, Same Z H ∧ ArgR K Z H x s a P1 ∧ ArgR K Z H y t b P2 ∧ (P1 ++ P2).Nodup ∧ f s a t b = some r ∧ ∀ z H', PEnd K Z H (P1 ++ P2) r z H' → Q z H' := by
  obtain ⟨Z, F, P, as, o, hs, ha, nd, e, fin⟩ := h
  obtain ⟨s, u, r, P1, P2, rfl, rfl, h1, h2⟩ := args_cons ha
  obtain ⟨t, v, r', P3, P4, rfl, rfl, h3, h4⟩ := args_cons h2
  obtain ⟨rfl, rfl⟩ := args0 h4
  rw [hp] at e
  exact ⟨Z, P1, P3, s, u, t, v, o, hs, h1, h3, by simpa using nd, e, fun y H' q => fin y H' (by simpa using q)⟩
theorem preI1 {p : Prim} {x : V} {Q : VK} {f : Int → Option O} (hp : ∀ as, pr p as = int1 as f) (h : PrimPre K p [x] H Q) :
    ∃ Z P i r, Same Z H ∧ x = .int i ∧ f i = some r ∧ ∀ y H', PEnd K Z H P r y H' → Q y H' := by
  obtain ⟨Z, P, s, o, r, hs, h1, nd, e, fin⟩ := pre1 (p := p) (fun as => by rw [hp]; rfl) h
  cases q : intOf o with
  | none => simp only [q] at e; cases e
  | some i =>
    simp only [q] at e
    exact ⟨Z, P, i, r, hs, h1.int q, e, fin⟩
theorem preI2 {p : Prim} {x y : V} {Q : VK} {f : Int → Int → Option O} (hp : ∀ as, pr p as = int2 as f) (h : PrimPre K p [x, y] H Q) :
    ∃ Z P i j r, Same Z H ∧ x = .int i ∧ y = .int j ∧ f i j = some r ∧ ∀ z H', PEnd K Z H P r z H' → Q z H' := by
  obtain ⟨Z, P1, P2, s, a, t, b, r, hs, h1, h2, nd, e, fin⟩ := pre2 (p := p) (fun as => by rw [hp]; rfl) h
  cases q : intOf a with
  | none => simp only [q] at e; cases e
  | some i =>
    cases q2 : intOf b with
    | none => simp only [q, q2] at e; cases e
    | some j =>
      simp only [q, q2] at e
      exact ⟨Z, _, i, j, r, hs, h1.int q, h2.int q2, e, fin⟩

/-! ### ints -/
theorem pv_sub {x y : V} {Q : VK} (h : PrimPre K .sub [x, y] H Q) : rI0 (fun i j => .int (i - j)) x y H Q := by
  obtain ⟨Z, P, i, j, r, hs, rfl, rfl, e, fin⟩ := preI2 (fun _ => rfl) h
  cases e
  exact ⟨i, j, rfl, rfl, fin _ _ (pend_int hs _)⟩
theorem pv_mod {x y : V} {Q : VK} (h : PrimPre K .mod [x, y] H Q) : rI (fun _ j => 0 < j) (fun i j => .int (i % j)) x y H Q := by
  obtain ⟨Z, P, i, j, r, hs, rfl, rfl, e, fin⟩ := preI2 (fun _ => rfl) h
  split at e
  · rename_i c
    cases e
    exact ⟨i, j, rfl, rfl, c, fin _ _ (pend_int hs _)⟩
  · cases e
theorem divOk_of {j : Int} (h : divOk j = true) (i : Int) : CDivW i j := by
  unfold divOk at h
  rw [Bool.and_eq_true] at h
  exact ⟨of_decide_eq_true h.1, of_decide_eq_true h.2⟩
theorem pv_fdiv {x y : V} {Q : VK} (h : PrimPre K .fdiv [x, y] H Q) : rI CDivW (fun i j => .int (i / j)) x y H Q := by
  obtain ⟨Z, P, i, j, r, hs, rfl, rfl, e, fin⟩ := preI2 (fun _ => rfl) h
  split at e
  · rename_i c
    cases e
    exact ⟨i, j, rfl, rfl, divOk_of c i, fin _ _ (pend_int hs _)⟩
  · cases e
def CPowW (i j : Int) : Prop := 0 ≤ j ∧ (Builtin.Int.intBits i : Int) * j ≤ 2 ^ 27
theorem op_powW {X : Cx} : OpR X (binaryOp .Pow) (rI CPowW fun i j => .int (i ^ j.toNat)) := opI fun _ _ _ _ _ _ _ hc q => pow_int hc.1 hc.2 q
theorem pv_pow {x y : V} {Q : VK} (h : PrimPre K .pow [x, y] H Q) : rI CPowW (fun i j => .int (i ^ j.toNat)) x y H Q := by
  obtain ⟨Z, P, i, j, r, hs, rfl, rfl, e, fin⟩ := preI2 (fun _ => rfl) h
  split at e
  · rename_i c
    cases e
    unfold powOk at c
    rw [Bool.and_eq_true] at c
    exact ⟨i, j, rfl, rfl, ⟨of_decide_eq_true c.1, of_decide_eq_true c.2⟩, fin _ _ (pend_int hs _)⟩
  · cases e
theorem pv_neg {x : V} {Q : VK} (h : PrimPre K .neg [x] H Q) : rU (fun i => .int (-i)) x H Q := by
  obtain ⟨Z, P, i, r, hs, rfl, e, fin⟩ := preI1 (fun _ => rfl) h
  cases e
  exact ⟨i, rfl, fin _ _ (pend_int hs _)⟩
theorem pv_lt {x y : V} {Q : VK} (h : PrimPre K .lt [x, y] H Q) : rI0 (fun i j => .bl (decide (i < j))) x y H Q := by
  obtain ⟨Z, P, i, j, r, hs, rfl, rfl, e, fin⟩ := preI2 (fun _ => rfl) h
  cases e
  exact ⟨i, j, rfl, rfl, fin _ _ (pend_bl hs _)⟩
theorem pv_le {x y : V} {Q : VK} (h : PrimPre K .le [x, y] H Q) : rI0 (fun i j => .bl (decide (i ≤ j))) x y H Q := by
  obtain ⟨Z, P, i, j, r, hs, rfl, rfl, e, fin⟩ := preI2 (fun _ => rfl) h
  cases e
  exact ⟨i, j, rfl, rfl, fin _ _ (pend_bl hs _)⟩
theorem pv_gt {x y : V} {Q : VK} (h : PrimPre K .gt [x, y] H Q) : rI0 (fun i j => .bl (decide (j < i))) x y H Q := by
  obtain ⟨Z, P, i, j, r, hs, rfl, rfl, e, fin⟩ := preI2 (fun _ => rfl) h
  cases e
  exact ⟨i, j, rfl, rfl, fin _ _ (pend_bl hs _)⟩
theorem pv_ge {x y : V} {Q : VK} (h : PrimPre K .ge [x, y] H Q) : rI0 (fun i j => .bl (decide (j ≤ i))) x y H Q := by
  obtain ⟨Z, P, i, j, r, hs, rfl, rfl, e, fin⟩ := preI2 (fun _ => rfl) h
  cases e
  exact ⟨i, j, rfl, rfl, fin _ _ (pend_bl hs _)⟩

/-! ### data compared -/
theorem two_strs {x y : V} {d e : D} (h1 : Dr H x d) (h2 : Dr H y e) (c : twoStr d e = true) : ∃ s t, x = .str s ∧ y = .str t ∧ d = .str s ∧ e = .str t := by
  unfold twoStr at c
  split at c
  · cases h1; cases h2; exact ⟨_, _, rfl, rfl, rfl, rfl⟩
  · cases c
theorem pv_eq {x y : V} {Q : VK} (h : PrimPre K .eq [x, y] H Q) : rEqD K x y H Q ∨ rEq x y H Q := by
  obtain ⟨Z, P1, P2, s, a, t, b, r, hs, h1, h2, nd, e, fin⟩ := pre2 (fun _ => rfl) h
  unfold bool2 at e
  split at e
  · rename_i c
    cases e
    rw [Bool.or_eq_true, Bool.and_eq_true] at c
    rcases c with c | c
    · exact .inl ⟨_, _, (h1.dr hs).dp, (h2.dr hs).dp, c.1, c.2, fin _ _ (pend_bl hs _)⟩
    · obtain ⟨s, t, rfl, rfl, e1, e2⟩ := two_strs (h1.dr hs) (h2.dr hs) c
      refine .inr ⟨rfl, ?_⟩
      have q := fin _ _ (pend_bl hs _)
      rw [e1, e2] at q
      rw [dec_str]
      simpa only [PyData.eqv] using q
  · cases e
theorem pv_ne {x y : V} {Q : VK} (h : PrimPre K .ne [x, y] H Q) : rNeD K x y H Q ∨ rNe x y H Q := by
  obtain ⟨Z, P1, P2, s, a, t, b, r, hs, h1, h2, nd, e, fin⟩ := pre2 (fun _ => rfl) h
  unfold bool2 at e
  split at e
  · rename_i c
    cases e
    rw [Bool.or_eq_true, Bool.and_eq_true] at c
    rcases c with c | c
    · exact .inl ⟨_, _, (h1.dr hs).dp, (h2.dr hs).dp, c.1, c.2, fin _ _ (pend_bl hs _)⟩
    · obtain ⟨s, t, rfl, rfl, e1, e2⟩ := two_strs (h1.dr hs) (h2.dr hs) c
      refine .inr ⟨rfl, ?_⟩
      have q := fin _ _ (pend_bl hs _)
      rw [e1, e2] at q
      rw [dec_str]
      simpa only [PyData.eqv] using q
  · cases e
theorem op_eqE {X : Cx} (hu : X.A.units + 64 < cLine) : OpR X (compareOp .Eq) (fun x y H Q => rEqD X.K x y H Q ∨ rEq x y H Q) := by
  intro pins s σ H x y v u Q I rx ry h
  rcases h with h | h
  · exact op_eqD hu pins s σ H x y v u Q I rx ry h
  · exact op_eq pins s σ H x y v u Q I rx ry h
theorem op_neE {X : Cx} (hu : X.A.units + 64 < cLine) : OpR X (compareOp .NotEq) (fun x y H Q => rNeD X.K x y H Q ∨ rNe x y H Q) := by
  intro pins s σ H x y v u Q I rx ry h
  rcases h with h | h
  · exact op_neD hu pins s σ H x y v u Q I rx ry h
  · exact op_ne pins s σ H x y v u Q I rx ry h
theorem pv_isin {x y : V} {Q : VK} (h : PrimPre K .isin [x, y] H Q) : rInD K x y H Q := by
  obtain ⟨Z, P1, P2, s, a, t, b, r, hs, h1, h2, nd, e, fin⟩ := pre2 (fun _ => rfl) h
  unfold inV at e
  split at e
  · rename_i ds q
    split at e
    · rename_i c
      cases e
      rw [Bool.and_eq_true] at c
      have d2 := h2.dr hs
      rw [q] at d2
      exact ⟨_, ds, (h1.dr hs).dp, d2.dp, c.1, c.2, fin _ _ (pend_bl hs _)⟩
    · cases e
  · cases e
theorem pv_notin {x y : V} {Q : VK} (h : PrimPre K .notin [x, y] H Q) : rNotInD K x y H Q := by
  obtain ⟨Z, P1, P2, s, a, t, b, r, hs, h1, h2, nd, e, fin⟩ := pre2 (fun _ => rfl) h
  unfold inV at e
  split at e
  · rename_i ds q
    split at e
    · rename_i c
      cases e
      rw [Bool.and_eq_true] at c
      have d2 := h2.dr hs
      rw [q] at d2
      exact ⟨_, ds, (h1.dr hs).dp, d2.dp, c.1, c.2, fin _ _ (pend_bl hs _)⟩
    · cases e
  · cases e
theorem non_of {x : V} {o : O} {P : List Addr} (r : OR K Z H x o P) : decide (x = .non) = isNone o := by
  cases r with
  | v d => cases d <;> simp [isNone]
  | own => simp [isNone]
  | tup => simp [isNone]
theorem pv_isN {x : V} {Q : VK} (h : PrimPre K .isN [x] H Q) : Q (.bl (decide (x = .non))) H := by
  obtain ⟨Z, P, s, o, r, hs, h1, nd, e, fin⟩ := pre1 (fun _ => rfl) h
  obtain ⟨_, q⟩ := h1.or
  cases e
  rw [non_of q]
  exact fin _ _ (pend_bl hs _)
theorem pv_notN {x : V} {Q : VK} (h : PrimPre K .notN [x] H Q) : Q (.bl (!decide (x = .non))) H := by
  obtain ⟨Z, P, s, o, r, hs, h1, nd, e, fin⟩ := pre1 (fun _ => rfl) h
  obtain ⟨_, q⟩ := h1.or
  cases e
  rw [non_of q]
  exact fin _ _ (pend_bl hs _)
theorem dr_list {x : V} {d : D} {ds : List D} (h : Dr H x d) (e : d = .list ds) : ∃ a vs, x = .ref a ∧ Rd H a (.lst vs) ∧ DrAll H vs ds := by
  subst e
  cases h with
  | lst r q => exact ⟨_, _, rfl, r, q⟩
theorem dr_tuple {x : V} {d : D} {ds : List D} (h : Dr H x d) (e : d = .tuple ds) : ∃ a vs, x = .ref a ∧ H a = some (.tup vs) ∧ DrAll H vs ds := by
  subst e
  cases h with
  | tup r q => exact ⟨_, _, rfl, r, q⟩
theorem pv_len {x : V} {Q : VK} (h : PrimPre K .len [x] H Q) : ∃ p ys, [x] = [V.ref p] ∧ (SqL K H p ys ∨ SqT K H p ys) ∧ Q (.int (ys.length : Nat)) H := by
  obtain ⟨Z, P, s, o, r, hs, h1, nd, e, fin⟩ := pre1 (fun _ => rfl) h
  have d := h1.dr hs
  unfold lenV at e
  split at e
  · rename_i ds q
    cases e
    obtain ⟨a, vs, rfl, rd, al⟩ := dr_list d q
    refine ⟨a, vs, rfl, .inl (.inl rd), ?_⟩
    rw [DrAll.length al]
    exact fin _ _ (pend_int hs _)
  · rename_i ds q
    cases e
    obtain ⟨a, vs, rfl, rd, al⟩ := dr_tuple d q
    refine ⟨a, vs, rfl, .inr (.inl (.inl rd)), ?_⟩
    rw [DrAll.length al]
    exact fin _ _ (pend_int hs _)
  · cases e
theorem ints_of : ∀ {ds : List D} {is : List Int} {vs : List V}, intsOf ds = some is → DrAll H vs ds → vs = is.map V.int
  | [], is, vs, e, h => by
    cases h
    simp only [intsOf] at e
    cases e
    rfl
  | .int i :: r, is, vs, e, h => by
    cases h with
    | cons a b =>
      cases a
      simp only [intsOf] at e
      cases q : intsOf r with
      | none => rw [q] at e; cases e
      | some js =>
        rw [q] at e
        cases e
        rw [ints_of q b]
        rfl
  | .none :: r, is, vs, e, h => by simp [intsOf] at e
  | .bool b :: r, is, vs, e, h => by simp [intsOf] at e
  | .str b :: r, is, vs, e, h => by simp [intsOf] at e
  | .list b :: r, is, vs, e, h => by simp [intsOf] at e
  | .tuple b :: r, is, vs, e, h => by simp [intsOf] at e
  | .dict b :: r, is, vs, e, h => by simp [intsOf] at e
theorem pv_sum {x : V} {Q : VK} (h : PrimPre K .sum [x] H Q) : rSum K [x] H Q := by
  obtain ⟨Z, P, s, o, r, hs, h1, nd, e, fin⟩ := pre1 (fun _ => rfl) h
  have d := h1.dr hs
  split at e
  · rename_i ds q
    cases q2 : intsOf ds with
    | none => rw [q2] at e; cases e
    | some is =>
      rw [q2] at e
      cases e
      obtain ⟨a, vs, rfl, rd, al⟩ := dr_list d q
      have ev := ints_of q2 al
      subst ev
      exact ⟨a, is, rfl, .inl rd, fin _ _ (pend_int hs _)⟩
  · cases e
theorem pv_min2 {x y : V} {Q : VK} (h : PrimPre K .min2 [x, y] H Q) : ∃ i j, [x, y] = [V.int i, V.int j] ∧ Q (.int (if j < i then j else i)) H := by
  obtain ⟨Z, P, i, j, r, hs, rfl, rfl, e, fin⟩ := preI2 (fun _ => rfl) h
  cases e
  exact ⟨i, j, rfl, fin _ _ (pend_int hs _)⟩
theorem pv_max2 {x y : V} {Q : VK} (h : PrimPre K .max2 [x, y] H Q) : ∃ i j, [x, y] = [V.int i, V.int j] ∧ Q (.int (if j > i then j else i)) H := by
  obtain ⟨Z, P, i, j, r, hs, rfl, rfl, e, fin⟩ := preI2 (fun _ => rfl) h
  cases e
  exact ⟨i, j, rfl, fin _ _ (pend_int hs _)⟩
theorem pv_int {x : V} {Q : VK} (h : PrimPre K .int [x] H Q) : (∃ i, [x] = [V.int i] ∧ Q (.int i) H) ∨ ∃ k, [x] = [V.bl k] ∧ Q (.int (if k then 1 else 0)) H := by
  obtain ⟨Z, P, s, o, r, hs, h1, nd, e, fin⟩ := pre1 (fun _ => rfl) h
  obtain ⟨_, q⟩ := h1.or
  split at e
  · rename_i i
    cases e
    cases q with
    | v d =>
      cases d
      exact .inl ⟨i, rfl, fin _ _ (pend_int hs _)⟩
  · rename_i b
    cases e
    cases q with
    | v d =>
      cases d
      exact .inr ⟨b, rfl, fin _ _ (pend_int hs _)⟩
  · cases e
theorem pv_not {x : V} {Q : VK} (h : PrimPre K .not [x] H Q) : ∃ c, x = .bl c ∧ Q (.bl (!c)) H := by
  obtain ⟨Z, P, s, o, r, hs, h1, nd, e, fin⟩ := pre1 (fun _ => rfl) h
  obtain ⟨_, q⟩ := h1.or
  split at e
  · rename_i b
    cases e
    cases q with
    | v d =>
      cases d
      exact ⟨b, rfl, fin _ _ (pend_bl hs _)⟩
  · cases e
theorem pv_bitlen {x : V} {Q : VK} (h : PrimPre K .bitlen [x] H Q) : ∃ i, x = .int i ∧ Q (.int (Builtin.Int.intBits i : Nat)) H := by
  obtain ⟨Z, P, i, r, hs, rfl, e, fin⟩ := preI1 (fun _ => rfl) h
  cases e
  exact ⟨i, rfl, fin _ _ (pend_int hs _)⟩
end
end Ev
set_option Elab.async false
set_option linter.all false
set_option maxRecDepth 100000
/-! Ev8: lists and tuples: put together, cut, turned round, copied. -/
namespace Ev
open PySem PySem.Spec PyProof.Rows L2

section
variable {K : Frag} {Z Z' H H' : Hp} {F P P' P1 P2 : List Addr}
theorem nodup2 {A B A' B' : List Addr} (h : (A ++ B).Nodup) (a : A'.Nodup) (b : B'.Nodup) (sa : ∀ x ∈ A', x ∈ A) (sb : ∀ x ∈ B', x ∈ B) : (A' ++ B').Nodup := by
  rw [List.nodup_append] at h ⊢
  exact ⟨a, b, fun x hx y hy e => h.2.2 x (sa x hx) y (sb y hy) e⟩
theorem sub2 {A B A' B' : List Addr} (sa : ∀ x ∈ A', x ∈ A) (sb : ∀ x ∈ B', x ∈ B) : ∀ x ∈ A' ++ B', x ∈ A ++ B := fun x h =>
  (List.mem_append.mp h).elim (fun q => List.mem_append_left _ (sa x q)) fun q => List.mem_append_right _ (sb x q)
theorem pend_frz {o : O} {x : V} (hs : Same Z H) (h : PEnd K (frz Z H P) H [] o x H') : PEnd K Z H P o x H' := by
  obtain ⟨Z2, P2, e, s, r, n⟩ := h
  exact ⟨Z2, P2, (ext_frz hs).trans e fun a h => h, s, r, n⟩
theorem pend_sub {o : O} {x : V} (h : PEnd K Z H P' o x H') (sub : ∀ a ∈ P', a ∈ P) : PEnd K Z H P o x H' := by
  obtain ⟨Z2, P2, e, s, r, n⟩ := h
  refine ⟨Z2, P2, ⟨e.zz, fun a u q m => e.fr a u q fun z => m (sub a z), fun a u q => ?_, fun a m => (e.gn a m).imp_left (sub a), e.tu⟩, s, r, n⟩
  rcases e.zn a u q with z | z | z | z
  · exact .inl z
  · exact .inr (.inl (sub a z))
  · exact .inr (.inr (.inl z))
  · exact .inr (.inr (.inr z))
theorem pend_tupAt {b : Addr} {vs : List V} {os : List O} (hs : Same Z H) (e : H b = some (.tup vs)) (r : ORs K Z H vs os P') (sub : ∀ a ∈ P', a ∈ P) (nd : P'.Nodup) : PEnd K Z H P (mkTup os) (.ref b) H := by
  unfold mkTup
  split
  · rename_i h
    obtain ⟨_, f⟩ := allV r h
    refine pend_sub (P' := []) (pend_frz hs ⟨frz Z H [], [], Ext.refl, frz_sub hs, .v (.tup (frz_tup hs e) (DrAll.sub frz_z f)), List.nodup_nil⟩) fun _ z => (by cases z)
  · exact ⟨Z, P', Ext.refl.sub sub, hs, .tup e r, nd⟩
theorem ors_drop : ∀ {vs : List V} {os : List O} {P : List Addr} (n : Nat), ORs K Z H vs os P → ∃ P', ORs K Z H (vs.drop n) (os.drop n) P' ∧ (∀ a ∈ P', a ∈ P) ∧ (P.Nodup → P'.Nodup)
  | _, _, P, 0, r => ⟨P, by simpa using r, fun _ h => h, fun h => h⟩
  | _, _, _, n + 1, .nil => ⟨[], by simpa using ORs.nil, fun _ h => h, fun h => h⟩
  | _, _, _, n + 1, .cons (F := f) (G := g) r t => by
    obtain ⟨P', a, b, c⟩ := ors_drop n t
    exact ⟨P', by simpa using a, fun x h => List.mem_append_right _ (b x h), fun h => c (List.nodup_append.mp h).2.1⟩
theorem ors_take : ∀ {vs : List V} {os : List O} {P : List Addr} (n : Nat), ORs K Z H vs os P → ∃ P', ORs K Z H (vs.take n) (os.take n) P' ∧ (∀ a ∈ P', a ∈ P) ∧ (P.Nodup → P'.Nodup)
  | _, _, P, 0, r => ⟨[], by simpa using ORs.nil, fun _ h => (by cases h), fun h => List.nodup_nil⟩
  | _, _, _, n + 1, .nil => ⟨[], by simpa using ORs.nil, fun _ h => h, fun h => h⟩
  | _, _, _, n + 1, .cons (F := f) (G := g) r t => by
    obtain ⟨P', a, b, c⟩ := ors_take n t
    refine ⟨f ++ P', by simpa using ORs.cons r a, sub2 (fun _ h => h) b, fun h => ?_⟩
    have q := List.nodup_append.mp h
    exact nodup2 h q.1 (c q.2.1) (fun _ h => h) b
theorem ors_rev : ∀ {vs : List V} {os : List O} {P : List Addr}, ORs K Z H vs os P → ∃ P', ORs K Z H vs.reverse os.reverse P' ∧ P'.Perm P
  | _, _, _, .nil => ⟨[], by simpa using ORs.nil, List.Perm.refl _⟩
  | _, _, _, .cons (F := f) (G := g) r t => by
    obtain ⟨P', a, b⟩ := ors_rev t
    refine ⟨P' ++ (f ++ []), by simpa using ORs.app a (.cons r .nil), ?_⟩
    rw [List.append_nil]
    exact (List.Perm.append_right f b).trans List.perm_append_comm
theorem dr_app : ∀ {vs ws : List V} {ds es : List D}, DrAll Z vs ds → DrAll Z ws es → DrAll Z (vs ++ ws) (ds ++ es)
  | _, _, _, _, .nil, b => b
  | _, _, _, _, .cons r t, b => .cons r (dr_app t b)
theorem dr_rep {vs : List V} {ds : List D} (h : DrAll Z vs ds) : ∀ n : Nat, DrAll Z (List.replicate n vs).flatten (List.replicate n ds).flatten
  | 0 => .nil
  | n + 1 => by
    rw [List.replicate_succ, List.replicate_succ, List.flatten_cons, List.flatten_cons]
    exact dr_app h (dr_rep h n)

/-! ### + -/
def rCatR : R2 := fun x y H Q => ∃ l b xs zs, x = .ref l ∧ y = .ref b ∧ Rd H l (.lst xs) ∧ Rd H b (.lst zs) ∧ xs.length + zs.length ≤ sizeLine ∧ ∀ p, H p = none → Q (.ref p) (upd H p (.lst (xs ++ zs)))
theorem op_catR {X : Cx} : OpR X (binaryOp .Add) rCatR := by
  intro pins s σ H x y v u Q I rx ry ⟨l, b, xs, zs, ex, ey, hl, hb, hz, q⟩
  subst ex ey
  cases rx
  cases ry
  obtain ⟨_, its, n, r, e⟩ := hl.ok I.hok
  obtain ⟨_, its2, n2, r2, e2⟩ := hb.ok I.hok
  have l1 := r.length
  have l2 := r2.length
  refine PySem.P.add_list e e2 ?_ (by simp only [List.size_toArray]; omega)
  rw [List.append_toArray]
  exact ⟨.ref _, _, I.lnew (t' := s.toks) (r.append r2) (by simp only [List.length_append]; omega), rfl, q _ I.fresh⟩
def rAddE (K : Frag) : R2 := fun x y H Q => rI0 (fun i j => .int (i + j)) x y H Q ∨ rAddS x y H Q ∨ rCatR x y H Q ∨ rCatA K x y H Q
theorem addS_lift {x y : V} {Q : VK} {s t : Bool} {a b r : O} (hs : Same Z H) (h1 : ArgR K Z H x s a P1) (h2 : ArgR K Z H y t b P2) (nd : (P1 ++ P2).Nodup) (e : addS s a t b = some r) (fin : ∀ z H', PEnd K Z H (P1 ++ P2) r z H' → Q z H') :
    rCatR x y H Q ∨ rCatA K x y H Q := by
  have n1 := (List.nodup_append.mp nd).1
  have n2 := (List.nodup_append.mp nd).2.1
  unfold addS at e
  split at e
  · rename_i xs ys e1 e2
    obtain ⟨ad, vs, Q1, rfl, hr, ro, sb, ng⟩ := h1.elems hs e1
    obtain ⟨bd, ws, Q2, rfl, hr2, ro2, sb2, ng2⟩ := h2.elems hs e2
    unfold mkLst at e
    split at e
    · rename_i hf
      cases e
      have hf := of_decide_eq_true hf
      rw [List.length_append, ← ro.length, ← ro2.length] at hf
      exact .inl ⟨ad, bd, vs, ws, rfl, rfl, by simpa using hr, by simpa using hr2, hf, fun p np => fin _ _ (pend_lst hs (ro.app ro2) (sub2 sb sb2) (nodup2 nd (ng n1) (ng2 n2) sb sb2) np)⟩
    · cases e
  · rename_i xs ys e1 e2
    obtain ⟨ad, vs, Q1, rfl, hr, ro, sb, ng⟩ := h1.elems hs e1
    obtain ⟨bd, ws, Q2, rfl, hr2, ro2, sb2, ng2⟩ := h2.elems hs e2
    unfold mkTupF at e
    split at e
    · rename_i hf
      cases e
      have hf := of_decide_eq_true hf
      rw [List.length_append, ← ro.length, ← ro2.length] at hf
      have k1 : H ad = some (.tup vs) := by simpa using hr
      have k2 : H bd = some (.tup ws) := by simpa using hr2
      have A := ro.app ro2
      have nA := nodup2 nd (ng n1) (ng2 n2) sb sb2
      have sA := sub2 sb sb2
      refine .inr ⟨ad, bd, vs, ws, rfl, rfl, .inl (.inl k1), .inl (.inl k2), hf, fun z => ?_, fun _ z => ?_, fun _ _ p np => fin _ _ (pend_tup hs A sA nA np)⟩
      · subst z
        exact fin _ _ (pend_tupAt hs (by simpa using k2) A sA nA)
      · subst z
        exact fin _ _ (pend_tupAt hs (by simpa using k1) A sA nA)
    · cases e
  · cases e
theorem ArgR.str {x : V} {s : Bool} {z : Str} (h : ArgR K Z H x s (.v (.str z)) P) : x = .str z := by
  obtain ⟨_, r⟩ := h.or
  cases r with
  | v d =>
    cases d
    rfl
theorem pv_add {x y : V} {Q : VK} (h : PrimPre K .add [x, y] H Q) : rAddE K x y H Q := by
  obtain ⟨Z, P1, P2, s, a, t, b, r, hs, h1, h2, nd, e, fin⟩ := pre2 (fun _ => rfl) h
  unfold addV at e
  split at e
  · rename_i i j
    cases e
    exact .inl ⟨i, j, h1.int rfl, h2.int rfl, fin _ _ (pend_int hs _)⟩
  · rename_i z w
    split at e
    · rename_i c
      cases e
      exact .inr (.inl ⟨z, w, h1.str, h2.str, c, fin _ _ (pend_str hs _)⟩)
    · cases e
  · exact .inr (.inr (addS_lift hs h1 h2 nd e fin))
theorem op_addE {X : Cx} (h1 : OpR X (binaryOp .Add) (rI0 fun i j => .int (i + j))) (h2 : OpR X (binaryOp .Add) rAddS) : OpR X (binaryOp .Add) (rAddE X.K) := by
  intro pins s σ H x y v u Q I rx ry q
  rcases q with q | q | q | q
  · exact h1 pins s σ H x y v u Q I rx ry q
  · exact h2 pins s σ H x y v u Q I rx ry q
  · exact op_catR pins s σ H x y v u Q I rx ry q
  · exact op_catA pins s σ H x y v u Q I rx ry q

/-! ### cuts, turned round -/
def rSlE (K : Frag) : V → Option Int → Option Int → Hp → VK → Prop := fun x lo hi H Q => rSlL K x lo hi H Q ∨ rSlA K x lo hi H Q
theorem sl_any {X : Cx} : SlR X (rSlE X.K) := SlR.or sl_list sl_tupA
theorem cut_lift {x : V} {Q : VK} {s k : Bool} {a : O} {xs : List O} {i j : Option Int} (hs : Same Z H) (h1 : ArgR K Z H x s a P1) (nd : P1.Nodup) (e : elems s a = some (k, xs)) (fin : ∀ z H', PEnd K Z H P1 (seqO k (cutO xs i j)) z H' → Q z H') : rSlE K x i j H Q := by
  obtain ⟨ad, vs, Q1, rfl, hr, ro, sb, ng⟩ := h1.elems hs e
  have hl := ro.length
  obtain ⟨Q2, r2, s2, n2⟩ := ors_drop (HT.sIx vs.length 0 i) ro
  obtain ⟨Q3, r3, s3, n3⟩ := ors_take (HT.sIx vs.length vs.length j - HT.sIx vs.length 0 i) r2
  have sub : ∀ a ∈ Q3, a ∈ P1 := fun a h => sb a (s2 a (s3 a h))
  have nq := n3 (n2 (ng nd))
  have ec : cutO xs i j = (xs.drop (HT.sIx vs.length 0 i)).take (HT.sIx vs.length vs.length j - HT.sIx vs.length 0 i) := by
    unfold cutO
    rw [hl]
  cases k with
  | true =>
    refine .inl ⟨ad, vs, rfl, .inl (by simpa using hr), fun p np => fin _ _ ?_⟩
    rw [ec]
    exact pend_lst hs r3 sub nq np
  | false =>
    have k1 : H ad = some (.tup vs) := by simpa using hr
    refine .inr ⟨ad, vs, rfl, .inl (.inl k1), fun w => fin _ _ ?_, fun w p np => fin _ _ ?_⟩
    · rw [ec]
      rw [w.1, w.2] at r3 ⊢
      refine pend_tupAt hs ?_ r3 sub nq
      rw [k1]
      simp
    · rw [ec]
      exact pend_tup hs r3 sub nq np
def rRevE : V → Hp → VK → Prop := fun x H Q => ∃ a xs, x = .ref a ∧ ((Rd H a (.lst xs) ∧ ∀ p, H p = none → Q (.ref p) (upd H p (.lst xs.reverse))) ∨ (H a = some (.tup xs) ∧ ∀ p, H p = none → Q (.ref p) (upd H p (.tup xs.reverse))))
theorem pv_rev {x : V} {Q : VK} (h : PrimPre K .rev [x] H Q) : rRevE x H Q := by
  obtain ⟨Z, P, s, o, r, hs, h1, nd, e, fin⟩ := pre1 (fun _ => rfl) h
  cases q : elems s o with
  | none => rw [q] at e; cases e
  | some w =>
    rw [q] at e
    cases e
    obtain ⟨k, xs⟩ := w
    obtain ⟨ad, vs, Q1, rfl, hr, ro, sb, ng⟩ := h1.elems hs q
    obtain ⟨Q2, r2, pm⟩ := ors_rev ro
    have s2 : ∀ a ∈ Q2, a ∈ P := fun a h => sb a (pm.mem_iff.mp h)
    have n2 := pm.nodup_iff.mpr (ng nd)
    refine ⟨ad, vs, rfl, ?_⟩
    cases k with
    | true => exact .inl ⟨by simpa using hr, fun p np => fin _ _ (pend_lst hs r2 s2 n2 np)⟩
    | false => exact .inr ⟨by simpa using hr, fun p np => fin _ _ (pend_tup hs r2 s2 n2 np)⟩
theorem pv_listOf {x : V} {Q : VK} (h : PrimPre K .listOf [x] H Q) : ∃ p ys, [x] = [V.ref p] ∧ (SqL K H p ys ∨ SqT K H p ys) ∧ ∀ l, H l = none → Q (.ref l) (upd H l (.lst ys)) := by
  obtain ⟨Z, P, s, o, r, hs, h1, nd, e, fin⟩ := pre1 (fun _ => rfl) h
  cases q : elems s o with
  | none => rw [q] at e; cases e
  | some w =>
    rw [q] at e
    cases e
    obtain ⟨k, xs⟩ := w
    obtain ⟨ad, vs, Q1, rfl, hr, ro, sb, ng⟩ := h1.elems hs q
    refine ⟨ad, vs, rfl, ?_, fun p np => fin _ _ (pend_lst hs ro sb (ng nd) np)⟩
    cases k with
    | true => exact .inl (.inl (by simpa using hr))
    | false => exact .inr (.inl (.inl (by simpa using hr)))
theorem pv_tupleOf {x : V} {Q : VK} (h : PrimPre K .tupleOf [x] H Q) : ∃ p ys, [x] = [V.ref p] ∧ ((SqL K H p ys ∧ ∀ l, H l = none → Q (.ref l) (upd H l (.tup ys))) ∨ (SqT K H p ys ∧ Q (.ref p) H)) := by
  obtain ⟨Z, P, s, o, r, hs, h1, nd, e, fin⟩ := pre1 (fun _ => rfl) h
  cases q : elems s o with
  | none => rw [q] at e; cases e
  | some w =>
    rw [q] at e
    cases e
    obtain ⟨k, xs⟩ := w
    obtain ⟨ad, vs, Q1, rfl, hr, ro, sb, ng⟩ := h1.elems hs q
    refine ⟨ad, vs, rfl, ?_⟩
    cases k with
    | true => exact .inl ⟨.inl (by simpa using hr), fun p np => fin _ _ (pend_tup hs ro sb (ng nd) np)⟩
    | false => exact .inr ⟨.inl (.inl (by simpa using hr)), fin _ _ (pend_tupAt hs (by simpa using hr) ro sb (ng nd))⟩
/-! ### * -/
def rMulE : R2 := fun x y H Q => rI CMul (fun i j => .int (i * j)) x y H Q ∨ rI CMulX (fun i j => .int (i * j)) x y H Q ∨ rRep x y H Q
theorem op_mulE {X : Cx} : OpR X (binaryOp .Mult) rMulE := by
  intro pins s σ H x y v u Q I rx ry q
  rcases q with q | q | q
  · exact op_mul pins s σ H x y v u Q I rx ry q
  · exact op_mulX pins s σ H x y v u Q I rx ry q
  · exact op_rep pins s σ H x y v u Q I rx ry q
theorem small_of {i : Int} (h : small i = true) : -(2 ^ 64) < i ∧ i < 2 ^ 64 := by
  have := of_decide_eq_true h
  omega
theorem pv_mul {x y : V} {Q : VK} (h : PrimPre K .mul [x, y] H Q) : rMulE x y H Q := by
  obtain ⟨Z, P1, P2, s, a, t, b, r, hs, h1, h2, nd, e, fin⟩ := pre2 (fun _ => rfl) h
  unfold mulV at e
  cases q2 : intOf b with
  | none => simp only [q2] at e; cases e
  | some j =>
    have ey := h2.int q2
    subst ey
    cases q : intOf a with
    | some i =>
      have ex := h1.int q
      subst ex
      simp only [q, q2] at e
      split at e
      · rename_i c
        cases e
        unfold mulOk at c
        rw [Bool.or_eq_true, Bool.or_eq_true] at c
        have Qi := fin _ _ (pend_int hs _)
        rcases c with (c | c) | c
        · exact .inl ⟨i, j, rfl, rfl, .inl (small_of c), Qi⟩
        · exact .inl ⟨i, j, rfl, rfl, .inr (small_of c), Qi⟩
        · have := of_decide_eq_true c
          exact .inr (.inl ⟨i, j, rfl, rfl, by unfold CMulX; omega, Qi⟩)
      · cases e
    | none =>
      simp only [q, q2] at e
      split at e
      · rename_i xs
        by_cases cc : (s || xs.all O.isV) = true
        · rw [if_pos cc] at e
          split at e
          · rename_i c
            cases e
            rw [Bool.and_eq_true] at c
            obtain ⟨cm, c3⟩ := c
            have c1 := (mag_sp cm).1
            have c2 := (mag_sp cm).2
            have c1 : -(2 ^ 63) ≤ j := by omega
            have c2 : j < 2 ^ 63 := by omega
            have c3 := of_decide_eq_true c3
            have main : ∀ {P0 : List Addr}, OR K Z H x (.own xs) P0 → (∀ (o : O) (z : V) (H' : Hp), PEnd K Z H P0 o z H' → PEnd K Z H (P1 ++ P2) o z H') → rRep x (.int j) H Q := fun {P0} r up => by
              cases r with
              | @own ad vs _ F0 ea za ro =>
                have hl := ro.length
                refine ⟨ad, j, vs, rfl, rfl, ea, c1, c2, by rw [hl]; exact c3, fun p np => fin _ _ (up _ _ _ ?_)⟩
                refine pend_frz hs (pend_lst (P' := []) (frz_sub hs) ?_ (fun _ z => by cases z) List.nodup_nil np)
                exact ors_v (dr_rep (ORs.freeze hs ro fun a m => List.mem_cons_of_mem _ m) j.toNat)
            cases h1 with
            | t r => exact .inr (.inr (main r fun o z H' q => pend_sub q fun a m => List.mem_append_left _ m))
            | b r =>
              cases r with
              | @own ad vs _ F0 ea za ro =>
                have hv := (allV ro (by simpa using cc)).2
                have hl := ro.length
                refine .inr (.inr ⟨ad, j, vs, rfl, rfl, ea, c1, c2, by rw [hl]; exact c3, fun p np => fin _ _ ?_⟩)
                exact pend_lst (P' := []) hs (ors_v (dr_rep hv j.toNat)) (fun _ z => by cases z) List.nodup_nil np
          · cases e
        · rw [if_neg cc] at e
          cases e
      · cases e

/-! ### of what type; divmod; the place of a value -/
theorem kindTy {x : V} {d : D} (h : Dr H x d) : TyX K H x (.type (kindD d)) := by
  cases h with
  | non => exact .base .non
  | bl b => exact .base (.bl b)
  | int i => exact .base (.int i)
  | str z => exact .base (.str z)
  | lst r q =>
    rcases r with r | ⟨o, r⟩
    · exact .base (.lst r)
    · exact .base (.frz r)
  | tup r q => exact .base (.tup r)
def isiOk (T : String) : Bool := ["int", "bool", "list", "tuple", "str", "dict"].contains T
theorem isi_kit {T : String} (h : isiOk T = true) (d : D) (hd : kindD d ≠ "dict") : PySem.W.kitOne K (.type (kindD d)) (.type T) = some (isiD d T) := by
  unfold isiOk at h
  simp only [List.contains_cons, List.contains_nil, Bool.or_false, Bool.or_eq_true, beq_iff_eq] at h
  rcases h with h | h | h | h | h | h <;> subst h <;> cases d <;> first | rfl | exact absurd rfl hd
theorem dr_kind {x : V} {d : D} (h : Dr H x d) : kindD d ≠ "dict" := by cases h <;> exact fun e => absurd e (by first | (simp only [kindD]; decide) | simp [kindD])
theorem pv_isinst {T : String} {x : V} {Q : VK} (hT : isiOk T = true) (h : PrimPre K (.isinst T) [x] H Q) : rIsi K [x, .ty T] H Q := by
  obtain ⟨Z, P, s, o, r, hs, h1, nd, e, fin⟩ := pre1 (fun _ => rfl) h
  have d := h1.dr hs
  cases e
  exact ⟨x, .ty T, _, _, _, rfl, .ty T, kindTy d, isi_kit hT _ (dr_kind d), fin _ _ (pend_bl hs _)⟩
theorem pv_divmod {x y : V} {Q : VK} (h : PrimPre K .divmod [x, y] H Q) : ∃ i j, [x, y] = [V.int i, V.int j] ∧ CDivP i j ∧ ∀ p, H p = none → Q (.ref p) (upd H p (.tup [.int (i / j), .int (i % j)])) := by
  obtain ⟨Z, P, i, j, r, hs, rfl, rfl, e, fin⟩ := preI2 (fun _ => rfl) h
  split at e
  · rename_i c
    cases e
    have w := divOk_of c i
    refine ⟨i, j, rfl, ⟨w.1, PyProof.noPylong_of_log2 w.2⟩, fun p np => fin _ _ ?_⟩
    exact pend_tup (P' := []) (os := [.v (.int (i / j)), .v (.int (i % j))]) hs (ors_v (.cons (.int _) (.cons (.int _) .nil))) (fun _ z => by cases z) List.nodup_nil np
  · cases e
theorem find_at : ∀ {ds : List D} {d : D} {n m : Nat}, findD d ds n = some m → ∃ j z, m = n + j ∧ ds[j]? = some z ∧ PyData.eqv z d = true ∧ ∀ k z', k < j → ds[k]? = some z' → PyData.eqv z' d = false
  | [], _, _, _, h => by simp [findD] at h
  | z :: r, d, n, m, h => by
    unfold findD at h
    by_cases c : PyData.eqv z d = true
    · rw [if_pos c] at h
      cases h
      exact ⟨0, z, rfl, rfl, c, fun k _ hk => absurd hk (Nat.not_lt_zero _)⟩
    · rw [if_neg c] at h
      obtain ⟨j, w, e, g1, g2, g3⟩ := find_at h
      refine ⟨j + 1, w, by omega, by simpa using g1, g2, fun k z' hk hz => ?_⟩
      cases k with
      | zero =>
        simp at hz
        subst hz
        exact Bool.eq_false_iff.mpr c
      | succ k => exact g3 k z' (by omega) (by simpa using hz)
theorem dr_rng (a b : Int) : DrAll Z (rgV a b) ((List.range (b - a).toNat).map fun i => PyData.int (a + (i : Nat))) := by
  unfold rgV
  induction List.range (b - a).toNat with
  | nil => exact .nil
  | cons i r ih => exact .cons (.int _) ih
theorem range_pend {a b : Int} {p : Addr} (hs : Same Z H) (np : H p = none) : PEnd K Z H P (.own (rangeO a b)) (.ref p) (upd H p (.lst (rgV a b))) := by
  have e : rangeO a b = ((List.range (b - a).toNat).map fun i => PyData.int (a + (i : Nat))).map O.v := by
    unfold rangeO
    rw [List.map_map]
    rfl
  rw [e]
  exact pend_lst (P' := []) hs (ors_v (dr_rng a b)) (fun _ z => by cases z) List.nodup_nil np
theorem rgOk_of {a b : Int} (h : rgOk a b = true) : RgOk a b := by
  unfold rgOk at h
  rw [Bool.and_eq_true, Bool.and_eq_true] at h
  obtain ⟨⟨ma, mb⟩, a5⟩ := h
  exact ⟨(mag_sp ma).1, (mag_sp ma).2, (mag_sp mb).1, (mag_sp mb).2, Nat.le_of_ble_eq_true a5⟩
theorem pv_range1 {x : V} {Q : VK} (h : PrimPre K .range1 [x] H Q) : ∃ n, x = .int n ∧ RgOk 0 n ∧ ∀ p, H p = none → Q (.ref p) (upd H p (.lst (rgV 0 n))) := by
  obtain ⟨Z, P, i, r, hs, rfl, e, fin⟩ := preI1 (fun _ => rfl) h
  split at e
  · rename_i c
    cases e
    exact ⟨i, rfl, rgOk_of c, fun p np => fin _ _ (range_pend hs np)⟩
  · cases e
theorem pv_range2 {x y : V} {Q : VK} (h : PrimPre K .range2 [x, y] H Q) : ∃ i j, x = .int i ∧ y = .int j ∧ RgOk i j ∧ ∀ p, H p = none → Q (.ref p) (upd H p (.lst (rgV i j))) := by
  obtain ⟨Z, P, i, j, r, hs, rfl, rfl, e, fin⟩ := preI2 (fun _ => rfl) h
  split at e
  · rename_i c
    cases e
    exact ⟨i, j, rfl, rfl, rgOk_of c, fun p np => fin _ _ (range_pend hs np)⟩
  · cases e
theorem pv_isB {c : Bool} {x : V} {Q : VK} (h : PrimPre K (.isB c) [x] H Q) : ∃ a b : Bool, x = .bl a ∧ V.bl c = .bl b ∧ Q (.bl (decide (a = b))) H := by
  obtain ⟨Z, P, s, o, r, hs, h1, nd, e, fin⟩ := pre1 (fun _ => rfl) h
  obtain ⟨_, q⟩ := h1.or
  unfold isBool at e
  cases o with
  | v d =>
    cases d with
    | bool b =>
      cases e
      cases q with
      | v d =>
        cases d
        refine ⟨b, c, rfl, rfl, fin _ _ ?_⟩
        have : decide (b = c) = (b == c) := by cases b <;> cases c <;> rfl
        rw [this]
        exact pend_bl hs _
    | _ => cases e
  | _ => cases e
end
end Ev
set_option Elab.async false
set_option linter.all false
set_option maxRecDepth 100000
/-! Ev9: what a def keeps where nothing is being shown; how it is called. -/
namespace Ev
open PySem PySem.Spec PyProof.Rows L2

/-- nothing leaves by an exception -/
def noX : CXT := fun _ _ _ _ _ _ => False
abbrev Pr := List V → Hp → VK → Prop
abbrev noE : XK := fun _ _ _ => False
/-- a def keeps sp, wherever nothing is being shown -/
structure FnG (P : Program) (w : World) (K : Frag) (mg : Str → Option Value) (base : Heap) (k : Nat) (f : Addr) (fd : FuncData) (n : List Str) (sp : Pr) : Prop where
  len : ∀ vs H Q, sp vs H Q → vs.length = n.length
  run : ∀ (A : Around) (l : List Env) (s : Shared) (H : Hp) (ar : Args) (us : List Value) (vs : List V) (Q : VK), Room k A → A.guards = some [] → Env0 P w K mg base A l s H → BindsTo s fd ar (n.zip us) → Vals vs us →
    sp vs H Q → codeAny (model P w) A (.call (.ref f) ar) (CR noX l P w H s Q noE) s
section
variable {P : Program} {w : World} {K : Frag} {mg : Str → Option Value} {base : Heap} {f : Addr}
theorem FnG.up {i j : Nat} {fd : FuncData} {n : List Str} {sp : Pr} (F : FnG P w K mg base i f fd n sp) (h : i ≤ j) : FnG P w K mg base j f fd n sp :=
  ⟨F.len, fun A l s H ar us vs Q r => F.run A l s H ar us vs Q (r.mono h)⟩
/-- by the body -/
theorem fnG_of {k : Nat} {name qual : Str} {params : Arguments} {body : List Stmt} {scope : Scope} {dV kV doc pm cdv ct oc : Value} {an od : Option Addr} {osl : Array (Option Value)} {N ps : List Str} {sp : Pr}
    (lk : K.lookup f = some ⟨oc, od, .func (PySem.W.fnOf name qual params body scope dV kV doc pm an cdv ct), osl⟩) (hc : PySem.W.codeIn K cdv qual = true) (S : FnScope N ps scope)
    (len : ∀ vs H Q, sp vs H Q → vs.length = ps.length)
    (main : ∀ (A : Around) (l : List Env) (s : Shared) (H : Hp) (vs : List V) (Q : VK), Room k (A.deeper (envOfC qual scope s.heap.objs.size f cdv)) → A.guards = some [] → sp vs H Q →
      ∃ t, PSs (cxOf noX P w K mg base N qual scope f cdv A l s H noE) body t ∧ t { nx := fun _ H' => Q .non H', rt := Q } (start N vs) H) :
    FnG P w K mg base (k + 1) f (PySem.W.fnOf name qual params body scope dV kV doc pm an cdv ct) ps sp := by
  refine ⟨len, fun A l s H ar us vs Q room hg e0 hb r hsp => ?_⟩
  have kin : K.In s.heap := e0.mod.kin.keeps fun b o e => (e0.bs b o e).1
  have nolim : s.heap.NoLimit := e0.mod.nolimit.keeps fun b o e => (e0.bs b o e).1
  have kinds : ∀ y ∈ ps.zip us, scope.names.lookup y.1 = some .local ∨ (scope.names.lookup y.1 = some .cell ∧ ((cellsFrom (s.heap.objs.size + 1) scope.names []).lookup y.1).isSome = true) := by
    intro y hy
    obtain ⟨n, v⟩ := y
    exact (S.par n (List.of_mem_zip hy).1).imp id fun q => ⟨q, PySem.W.cellsFrom_some _ _ _ (.inl q)⟩
  refine codeAny_call_function room.depth (kin _ _ lk) rfl S.co S.gen rfl (PySem.W.codeRec_of kin hc) (hb _ _ _ _ (wpAny_newFunctionEnv_cells S.kind kinds ?_))
  intro env ee s1 x
  subst ee
  obtain ⟨t, ht, hq⟩ := main A l s H vs Q (room.deeper _) hg hsp
  refine ⟨nolim.keeps x.toInCall.keep, codeAny_func (wpAny_mono (ht.run [] s1 (start N vs) H _ (inv_start S room.hd e0 (len _ _ _ hsp) r x) hq) (fun fl s' z => ?_) fun _ _ z => z)⟩
  cases fl with
  | next =>
    obtain ⟨σ', H', J, q⟩ := z
    exact ⟨.non, H', J.os, J.bare, J.base, J.hok, rfl, q⟩
  | ret u =>
    obtain ⟨v, σ', H', J, rv, q⟩ := z
    exact ⟨v, H', J.os, J.bare, J.base, J.hok, rv, q⟩
  | brk => obtain ⟨_, _, _, q⟩ := z; exact (show False from q).elim
  | cont => obtain ⟨_, _, _, q⟩ := z; exact (show False from q).elim
end

/-! ### calls -/
def plainArg : Expr → Bool
  | .Starred .. => false
  | _ => true
section
variable {X : Cx}
theorem star_plain {e : Expr} {es : List Expr} {env : Env} (h : plainArg e = true) : starEach (e :: es) env = (false, eval e env) :: starEach es env := by
  cases e <;> first | rfl | cases h
theorem plain_all {pos : Pos} {env : Env} : ∀ {es : List Expr}, es.all plainArg = true → (backTo pos (starEach es env)).any (·.1) = false
  | [], _ => rfl
  | e :: es, h => by
    rw [List.all_cons, Bool.and_eq_true] at h
    rw [star_plain h.1]
    show (false || (backTo pos (starEach es env)).any (·.1)) = false
    rw [plain_all h.2]
    rfl
theorem pa_consP {e : Expr} {es : List Expr} {te : TE} {t : TA} (h : plainArg e = true) (a : PE X e te) (b : PA X es t) : PA X (e :: es) (tCons te t) := pa_cons a b (star_plain h)
variable {k : Nat} {f : Addr} {fd : FuncData} {ps : List Str} {sp : Pr} {x : Str} {p pos : Pos} {es : List Expr} {t : TA}
theorem run_G {pins : List (Addr × Obj)} {σ : Sg} {H : Hp} {s : Shared} {Q : VK} {us : List Value} {ar : Args} {vs : List V} (F : FnG X.prog X.w X.K X.mg X.base k f fd ps sp) (hr : Room k X.A) (hg : X.A.guards = some []) (I : Inv X pins σ H s)
    (hb : BindsTo s fd ar (ps.zip us)) (r : Vals vs us) (h : sp vs H Q) : wpAny (model X.prog X.w) X.A (call (.ref f) ar.pos ar.kw) (EP X pins σ Q) X.xe s := by
  refine wpAny_call (codeAny_mono (F.run X.A X.stack s H ar us vs Q hr hg I.env0 hb r h) ?_)
  intro res s' z
  match res, z with
  | .ok (.ret u), z => exact I.after z
def tG1 (sp : Pr) (t : TA) : TE := fun σ H Q => t σ H fun vs H1 => sp vs H1 Q
theorem go_G {pins : List (Addr × Obj)} {σ : Sg} {Q : VK} (F : FnG X.prog X.w X.K X.mg X.base k f fd ps sp) (hr : Room k X.A) (hgd : X.A.guards = some []) (hb : Binds X.K fd ps []) (us : List Value) (s1 : Shared) (vs : List V) (H1 : Hp) (J : Inv X pins σ H1 s1) (r : Vals vs us) (q : sp vs H1 Q) :
    wpAny (model X.prog X.w) X.A (call (.ref f) us) (EP X pins σ Q) X.xe s1 := by
  have bb := hb s1 us J.kIn (by rw [List.append_nil, ← r.length]; exact F.len _ _ _ q)
  rw [List.append_nil] at bb
  exact run_G (ar := ⟨us, []⟩) F hr hgd J bb r q
/-- f(e, ..) -/
theorem pe_callG {e : Expr} (F : FnG X.prog X.w X.K X.mg X.base k f fd ps sp) (hr : Room k X.A) (hgd : X.A.guards = some []) (hg : Gl X x) (hm : X.mg x = some (.ref f)) (hk : PySem.W.keepIn X.K (.ref f) = true) (hb : Binds X.K fd ps [])
    (hd : (x == ("__debug__" : Str)) = false) (hp : (e :: es).all plainArg = true) (ha : PA X (e :: es) t) : PE X (.Call (.Name x p) (e :: es) [] pos) (tG1 sp t) := by
  refine ⟨fun pins s σ H Q I h => wpAny_Call_Name_kw (ld_glob I hg hm ?_ hd)⟩
  rw [List.all_cons, Bool.and_eq_true] at hp
  exact PySem.W.callWith_K (h₀ := X.base) I.ok.mod.kin hk (thn (ha.run pos pins s σ H _ I h) fun us s1 ⟨vs, H1, J, r, q⟩ => ⟨J.kIn, go_G F hr hgd hb us s1 vs H1 J r q⟩) (star_plain hp.1) (plain_all hp.2)
theorem pe_callG0 (F : FnG X.prog X.w X.K X.mg X.base k f fd ps sp) (hr : Room k X.A) (hgd : X.A.guards = some []) (hg : Gl X x) (hm : X.mg x = some (.ref f)) (hk : PySem.W.keepIn X.K (.ref f) = true) (hb : Binds X.K fd ps [])
    (hd : (x == ("__debug__" : Str)) = false) : PE X (.Call (.Name x p) [] [] pos) (tG1 sp tNil) :=
  ⟨fun pins s σ H Q I h => wpAny_Call_Name_kw (ld_glob I hg hm (PySem.W.callWith_K0 I.kIn hk (go_G F hr hgd hb [] s [] H I .nil h)) hd)⟩
/-- f(k = v, ..): all by name; ks: the parameters' places in the order of the names -/
def KwB (fd : FuncData) (ps : List Str) (ks : List Nat) : Prop := ∀ (s : Shared) (ws us : List Value), ws.length = ps.length → perm ps.length ks ws = some us → BindsTo s fd ⟨[], (ks.map fun i => ps.getD i ⟨#[]⟩).zip ws⟩ (ps.zip us)
end
section
theorem mapM_rel {α β : Type} {R : α → β → Prop} {f : Nat → Option α} {g : Nat → Option β} (h : ∀ i a, f i = some a → ∃ b, g i = some b ∧ R a b) (T : List α → List β → Prop) (t0 : T [] []) (t1 : ∀ {a b as bs}, R a b → T as bs → T (a :: as) (b :: bs)) :
    ∀ {l : List Nat} {as : List α}, l.mapM f = some as → ∃ bs, l.mapM g = some bs ∧ T as bs
  | [], as, e => by
    have e2 : as = [] := by simpa using e.symm
    subst e2
    exact ⟨[], rfl, t0⟩
  | i :: l, as, e => by
    rw [List.mapM_cons] at e
    cases q : f i with
    | none => rw [q] at e; cases e
    | some a =>
      rw [q] at e
      cases q2 : l.mapM f with
      | none => rw [q2] at e; cases e
      | some as2 =>
        rw [q2] at e
        have e2 : as = a :: as2 := by simpa using e.symm
        subst e2
        obtain ⟨b, g1, r⟩ := h i a q
        obtain ⟨bs, g2, r2⟩ := mapM_rel h T t0 t1 q2
        exact ⟨b :: bs, by rw [List.mapM_cons, g1, g2]; rfl, t1 r r2⟩
theorem perm_vals {n : Nat} {ks : List Nat} {zs vs : List V} {ws : List Value} (r : Vals zs ws) (h : perm n ks zs = some vs) : ∃ us, perm n ks ws = some us ∧ Vals vs us := by
  refine mapM_rel (R := RelV) (fun i a e => ?_) (fun as bs => Vals as bs) .nil (fun a b => .cons a b) h
  cases q : ks.findIdx? (· == i) with
  | none => rw [q] at e; cases e
  | some j =>
    rw [q] at e
    have e : zs[j]? = some a := e
    obtain ⟨u, hu, rv⟩ := r.get e
    exact ⟨u, hu, rv⟩
theorem dr_at : ∀ {Z : Hp} {vs : List V} {ds : List D} {j : Nat} {d : D}, DrAll Z vs ds → ds[j]? = some d → ∃ x, vs[j]? = some x ∧ Dr Z x d := fun r e => dpall_get r e
theorem perm_dr {Z : Hp} {n : Nat} {ks : List Nat} {zs : List V} {ds es : List D} (r : DrAll Z zs ds) (h : perm n ks ds = some es) : ∃ vs, perm n ks zs = some vs ∧ DrAll Z vs es := by
  refine mapM_rel (R := fun d x => Dr Z x d) (fun i a e => ?_) (fun as bs => DrAll Z bs as) .nil (fun a b => .cons a b) h
  cases q : ks.findIdx? (· == i) with
  | none => rw [q] at e; cases e
  | some j =>
    rw [q] at e
    exact dr_at r e
end
section
variable {X : Cx} {k : Nat} {f : Addr} {fd : FuncData} {ps : List Str} {sp : Pr} {x : Str} {p pos : Pos} {t : TA} {ks : List Nat} {kws : List Keyword}
def tKw (n : Nat) (ks : List Nat) (sp : Pr) (t : TA) : TE := fun σ H Q => t σ H fun zs H1 => zs.length = n ∧ ∃ vs, perm n ks zs = some vs ∧ sp vs H1 Q
def kwNames : List Keyword → List (Option Str)
  | [] => []
  | ⟨n, _, _⟩ :: r => n :: kwNames r
theorem kw_some {pos : Pos} {env : Env} : ∀ {kws : List Keyword} {l : List Str}, kwNames kws = l.map some → (backToKw pos (keywordEach kws env)).all (·.1.isSome) = true ∧ (backToKw pos (keywordEach kws env)).filterMap (·.1) = l ∧ (backToKw pos (keywordEach kws env)).any (·.1.isNone) = false
  | [], [], _ => ⟨rfl, rfl, rfl⟩
  | ⟨n, v, q⟩ :: r, y :: l, h => by
    simp only [kwNames, List.map_cons, List.cons.injEq] at h
    obtain ⟨h1, h2⟩ := h
    subst h1
    obtain ⟨a, b, c⟩ := kw_some (pos := pos) (env := env) h2
    refine ⟨?_, ?_, ?_⟩
    · show (true && (backToKw pos (keywordEach r env)).all (·.1.isSome)) = true
      rw [a]
      rfl
    · show y :: (backToKw pos (keywordEach r env)).filterMap (·.1) = _
      rw [b]
    · show (false || (backToKw pos (keywordEach r env)).any (·.1.isNone)) = false
      rw [c]
      rfl
  | [], _ :: _, h => by cases h
  | ⟨_, _, _⟩ :: _, [], h => by cases h
theorem pe_callKG (F : FnG X.prog X.w X.K X.mg X.base k f fd ps sp) (hr : Room k X.A) (hgd : X.A.guards = some []) (hg : Gl X x) (hm : X.mg x = some (.ref f)) (hk : PySem.W.keepIn X.K (.ref f) = true) (hb : KwB fd ps ks)
    (hd : (x == ("__debug__" : Str)) = false) (hn : kwNames kws = (ks.map fun i => ps.getD i ⟨#[]⟩).map some) (ha : PK X kws t) : PE X (.Call (.Name x p) [] kws pos) (tKw ps.length ks sp t) := by
  refine ⟨fun pins s σ H Q I h => wpAny_Call_Name_kw (ld_glob I hg hm ?_ hd)⟩
  obtain ⟨k1, k2, k3⟩ := kw_some (pos := pos) (env := X.env) hn
  refine PySem.W.callWith_KW0 (h₀ := X.base) I.ok.mod.kin hk k1 (thn (ha.run pos pins s σ H _ I h) fun ws s1 ⟨zs, H1, J, r, ⟨hl, vs, hv, q⟩⟩ => ⟨J.kIn, ?_⟩) (by rw [k3]; rfl)
  rw [k2]
  obtain ⟨us, hu, rv⟩ := perm_vals r hv
  exact run_G (ar := ⟨[], _⟩) F hr hgd J (hb s1 ws us (by rw [← r.length]; exact hl) hu) rv q
end
end Ev
set_option Elab.async false
set_option linter.all false
set_option maxRecDepth 100000
/-! Ev10: what a def promises; a call keeps the slots. -/
namespace Ev
open PySem PySem.Spec PyProof.Rows L2

def OutR (K : Frag) (Z H : Hp) (vs : List V) (out : Option O) (P : List Addr) : Prop := match out with
  | none => P = []
  | some u => ∃ y r, vs = y :: r ∧ OR K Z H y u P
def EndC (K : Frag) (Z H : Hp) (P0 : List Addr) (vs : List V) (z : O) (out : Option O) (x : V) (H' : Hp) : Prop :=
  ∃ Z' Pz Pu, Ext Z H P0 Z' H' (Pz ++ Pu) ∧ Same Z' H' ∧ OR K Z' H' x z Pz ∧ OutR K Z' H' vs out Pu ∧ (Pz ++ Pu).Nodup
/-- the promise of a def that is worth g -/
def spOf (K : Frag) (g : FnE) : Pr := fun vs H Q => vs.length = g.ps.length ∧ ∃ Z os P0, Same Z H ∧ P0.Nodup ∧ ORs K Z H vs os P0 ∧ ∃ z out, g.sem os = .ok z out ∧ ∀ x H', EndC K Z H P0 vs z out x H' → Q x H'
section
variable {K : Frag} {σ : Sg} {Z Z' Z1 Z2 H H' H1 : Hp} {F F1 P P0 PR : List Addr} {e e1 : Ve}
mutual
theorem leafy_dr (ht : ∀ a xs, Z' a = some (.tup xs) → Z2 a = some (.tup xs)) : ∀ {x : V} {d : D}, Dr Z' x d → noList d = true → Dr Z2 x d
  | _, _, .non, _ => .non
  | _, _, .bl b, _ => .bl b
  | _, _, .int i, _ => .int i
  | _, _, .str x, _ => .str x
  | _, _, .lst s a, h => by simp [noList] at h
  | _, _, .tup s a, h => .tup (ht _ _ s) (leafy_drs ht a (by simpa [noList] using h))
theorem leafy_drs (ht : ∀ a xs, Z' a = some (.tup xs) → Z2 a = some (.tup xs)) : ∀ {xs : List V} {ds : List D}, DrAll Z' xs ds → noLists ds = true → DrAll Z2 xs ds
  | _, _, .nil, _ => .nil
  | _, _, .cons a b, h => by
    simp only [noLists, Bool.and_eq_true] at h
    exact .cons (leafy_dr ht a h.1) (leafy_drs ht b h.2)
end
mutual
theorem leafy_or (ht : ∀ a xs, Z' a = some (.tup xs) → Z2 a = some (.tup xs)) : ∀ {x : V} {o : O} {P : List Addr}, OR K Z' H x o P → (∀ a ∈ P, Z2 a = none) → leafy o = true → OR K Z2 H x o P
  | _, _, _, .v d, _, h => .v (leafy_dr ht d (by simpa [leafy] using h))
  | _, _, _, .own e z r, n, h => .own e (n _ (List.mem_cons_self ..)) (leafy_ors ht r (fun a m => n a (List.mem_cons_of_mem _ m)) (by simpa [leafy] using h))
  | _, _, _, .tup e r, n, h => .tup e (leafy_ors ht r n (by simpa [leafy] using h))
theorem leafy_ors (ht : ∀ a xs, Z' a = some (.tup xs) → Z2 a = some (.tup xs)) : ∀ {xs : List V} {os : List O} {P : List Addr}, ORs K Z' H xs os P → (∀ a ∈ P, Z2 a = none) → leafys os = true → ORs K Z2 H xs os P
  | _, _, _, .nil, _, _ => .nil
  | _, _, _, .cons r s, n, h => by
    simp only [leafys, Bool.and_eq_true] at h
    exact .cons (leafy_or ht r (fun a m => n a (List.mem_append_left _ m)) h.1) (leafy_ors ht s (fun a m => n a (List.mem_append_right _ m)) h.2)
end
theorem leafy_out {vs : List V} {out : Option O} (ht : ∀ a xs, Z' a = some (.tup xs) → Z2 a = some (.tup xs)) (r : OutR K Z' H vs out P) (n : ∀ a ∈ P, Z2 a = none) (h : leafyOut out = true) : OutR K Z2 H vs out P := by
  cases out with
  | none => exact r
  | some u =>
    obtain ⟨y, t, e, q⟩ := r
    exact ⟨y, t, e, leafy_or ht q n h⟩
theorem OutR.mem {vs : List V} {out : Option O} (r : OutR K Z H vs out P) : ∀ a ∈ P, (∃ l, H a = some (.lst l)) ∧ Z a = none := fun a m => by
  cases out with
  | none =>
    have e : P = [] := r
    rw [e] at m
    cases m
  | some u =>
    obtain ⟨y, t, e, q⟩ := r
    exact OR.mem q a m
/-- the operands of a call as frozen data -/
theorem args_dr {S : List Addr} (hs : Same Z H) (rl : Rel K Z H σ e F) (b : Bool) : ∀ {xs : List V} {vs : List AV} {P : List Addr} {os : List O}, AVs K Z H σ xs vs P → argOs e vs = some os → (vs.any (borrowed e) = true → b = true) → (∀ a ∈ P, a ∈ S) → (b = true → ∀ a ∈ F, a ∈ S) →
    ∃ ds, os = ds.map O.v ∧ DrAll (frz Z H S) xs ds
  | _, _, _, _, .nil, h, _, _, _ => by
    cases h
    exact ⟨[], rfl, .nil⟩
  | _, _, _, _, .o (o := o) (vs := vs) r t, h, hb, hS, hF => by
    cases q : argOs e vs with
    | none => simp only [argOs, argO, q] at h; cases h
    | some os =>
      simp only [argOs, argO, q] at h
      cases h
      obtain ⟨ds, e1, e2⟩ := args_dr hs rl b t q (fun z => hb (by rw [List.any_cons, z, Bool.or_true])) (fun a m => hS a (List.mem_append_right _ m)) hF
      exact ⟨o.d :: ds, by rw [e1]; rfl, .cons (OR.freeze hs r fun a m => hS a (List.mem_append_left _ m)) e2⟩
  | _, _, _, _, .s (i := i) (vs := vs) r t, h, hb, hS, hF => by
    cases q1 : look e i with
    | none => simp only [argOs, argO, q1, Option.map_none] at h; cases h
    | some o =>
      cases q : argOs e vs with
      | none => simp only [argOs, argO, q1, q, Option.map_some] at h; cases h
      | some os =>
        simp only [argOs, argO, q1, q, Option.map_some] at h
        cases h
        obtain ⟨ds, e1, e2⟩ := args_dr hs rl b t q (fun z => hb (by rw [List.any_cons, z, Bool.or_true])) hS hF
        obtain ⟨P, r1, sub, _⟩ := rel_at rl q1 r
        refine ⟨o.d :: ds, by rw [e1]; rfl, .cons ?_ e2⟩
        cases o with
        | v d =>
          cases r1 with
          | v dd => exact Dr.sub frz_z dd
        | own os =>
          have hb' := hb (by rw [List.any_cons]; simp [borrowed, q1])
          exact OR.freeze hs r1 fun a m => hF hb' a (sub a m)
        | tup os =>
          have hb' := hb (by rw [List.any_cons]; simp [borrowed, q1])
          exact OR.freeze hs r1 fun a m => hF hb' a (sub a m)
theorem call_core {xs0 xsr : List V} {os0 osr : List O} {vsr : List AV} (s : Step K σ Z H F Z1 H1 e1 F1 (P0 ++ PR)) (r0 : ORs K Z1 H1 xs0 os0 P0) (rr : AVs K Z1 H1 σ xsr vsr PR) (ha : argOs e1 vsr = some osr) :
    ∃ Zc, Same Zc H1 ∧ ORs K Zc H1 (xs0 ++ xsr) (os0 ++ osr) P0 ∧ P0.Nodup ∧ (∃ ds, osr = ds.map O.v ∧ DrAll Zc xsr ds) ∧ ∀ vs2 z out x H', EndC K Zc H1 P0 vs2 z out x H' → (lent e1 vsr && !(leafy z && leafyOut out)) = false →
      ∃ Z2 Pz Pu, Step K σ Z H F Z2 H' e1 F1 (Pz ++ Pu) ∧ OR K Z2 H' x z Pz ∧ OutR K Z2 H' vs2 out Pu := by
  obtain ⟨S, hS⟩ : ∃ S, S = PR ++ (if lent e1 vsr = true then F1 else []) := ⟨_, rfl⟩
  have hs := s.same
  have ndP := (List.nodup_append.mp s.nd).2.1
  have nd0 := (List.nodup_append.mp ndP).1
  have ap0 : ∀ a ∈ P0, a ∉ S := fun a m q => by
    rw [hS] at q
    rcases List.mem_append.mp q with q | q
    · exact (List.nodup_append.mp ndP).2.2 a m a q rfl
    · split at q
      · exact s.apart a (List.mem_append_left _ m) q
      · cases q
  obtain ⟨ds, e1', dr⟩ := args_dr (S := S) hs s.rel (lent e1 vsr) rr ha (fun z => z) (fun a m => by rw [hS]; exact List.mem_append_left _ m) (fun z a m => by rw [hS, if_pos z]; exact List.mem_append_right _ m)
  have r0' : ORs K (frz Z1 H1 S) H1 xs0 os0 P0 := ors_frz hs r0 ap0
  refine ⟨frz Z1 H1 S, frz_sub hs, ?_, nd0, ⟨ds, e1', dr⟩, ?_⟩
  · rw [e1']
    have := r0'.app (ors_v (K := K) (H := H1) dr)
    rwa [List.append_nil] at this
  intro vs2 z out x H' ⟨Z', Pz, Pu, ex, sm, rz, ru, nd⟩ hb
  have key : ∀ Z2, Same Z1 Z2 → Same Z2 H' → (∀ a o, Z2 a = some o → (∃ u, Z1 a = some u) ∨ a ∈ P0 ++ PR ∨ H1 a = none ∨ ∃ xs, H1 a = some (.tup xs)) → OR K Z2 H' x z Pz → OutR K Z2 H' vs2 out Pu → ∃ Z2 Pz Pu, Step K σ Z H F Z2 H' e1 F1 (Pz ++ Pu) ∧ OR K Z2 H' x z Pz ∧ OutR K Z2 H' vs2 out Pu :=
    fun Z2 k1 k2 k3 k4 k5 => ⟨Z2, Pz, Pu, s.op ⟨k1, fun a o h n => ex.fr a o h fun q => n (List.mem_append_left _ q), k3, fun a m => (ex.gn a m).imp_left fun q => List.mem_append_left _ q, ex.tu⟩ k2 nd, k4, k5⟩
  cases hl : lent e1 vsr with
  | false =>
    refine key Z' (same_trans frz_z ex.zz) sm (fun a o h => ?_) rz ru
    rcases ex.zn a o h with ⟨u, q⟩ | q | q | q
    · rcases frz_new q with q | ⟨q, _⟩ | ⟨xs, _, q⟩
      · exact .inl ⟨_, q⟩
      · rw [hS, hl] at q
        exact .inr (.inl (List.mem_append_right _ (by simpa using q)))
      · exact .inr (.inr (.inr ⟨xs, q⟩))
    · exact .inr (.inl (List.mem_append_left _ q))
    · exact .inr (.inr (.inl q))
    · exact .inr (.inr (.inr q))
  | true =>
    rw [hl] at hb
    have hz : leafy z = true ∧ leafyOut out = true := by
      cases a : leafy z <;> cases b : leafyOut out <;> simp [a, b] at hb ⊢
    have s1 : Same Z1 H' := fun a o h => sm a o (ex.zz a o (frz_z a o h))
    have own : ∀ a ∈ Pz ++ Pu, (∃ l, H' a = some (.lst l)) → frz Z1 H' [] a = none := fun a m ⟨l, h⟩ => by
      refine frz_none ?_ (by simp) h
      rcases ex.gn a m with q | q
      · exact (ORs.mem r0 a q).2
      · exact fresh_z hs q
    have tp : ∀ a xs, Z' a = some (.tup xs) → frz Z1 H' [] a = some (.tup xs) := fun a xs h => frz_tup s1 (sm a _ h)
    refine key (frz Z1 H' []) frz_z (frz_sub s1) (fun a o h => ?_) (leafy_or tp rz (fun a m => own a (List.mem_append_left _ m) (OR.mem rz a m).1) hz.1) (leafy_out tp ru (fun a m => own a (List.mem_append_right _ m) (ru.mem a m).1) hz.2)
    rcases frz_new h with q | ⟨q, _⟩ | ⟨xs, _, q⟩
    · exact .inl ⟨_, q⟩
    · cases q
    · cases h1 : H1 a with
      | none => exact .inr (.inr (.inl rfl))
      | some u =>
        by_cases m : a ∈ P0
        · exact .inr (.inl (List.mem_append_left _ m))
        · have w := ex.fr a u h1 m
          rw [q] at w
          cases w
          exact .inr (.inr (.inr ⟨xs, rfl⟩))
end

/-! ### the call -/
section
variable {X : Cx} {W : WX} {L : List FnE} {σ : Sg} {H : Hp}
theorem AVs.len {K : Frag} {Z H : Hp} : ∀ {xs : List V} {vs : List AV} {P : List Addr}, AVs K Z H σ xs vs P → xs.length = vs.length
  | _, _, _, .nil => rfl
  | _, _, _, .o _ t => congrArg Nat.succ (AVs.len t)
  | _, _, _, .s _ t => congrArg Nat.succ (AVs.len t)
theorem outOk {r : FRes} {b : Bool} {k : Option O → Option Ve} {Z : Hp} {F : List Addr} {Q : VK} (h : outG X W EndE σ Z H F Q (endCall b r k)) : ∃ z out e', r = .ok z out ∧ (b && !(leafy z && leafyOut out)) = false ∧ k out = some e' ∧ ∀ x H', EndE X.K σ Z H F e' x z H' → Q x H' := by
  unfold endCall at h
  cases r with
  | err c d => exact h.elim
  | stuck => exact h.elim
  | ok z out =>
    simp only at h
    cases q : (b && !(leafy z && leafyOut out)) with
    | true => rw [if_pos q] at h; exact h.elim
    | false =>
      rw [if_neg (by rw [q]; decide)] at h
      cases q2 : k out with
      | none => rw [q2] at h; exact h.elim
      | some e' =>
        rw [q2] at h
        exact ⟨z, out, e', rfl, q, q2, h⟩
theorem call_sp {g : FnE} {f : Nat} {as : List IP} {Q : VK} (hf : L[f]? = some g) (h : tR X W (den L (.call f as)) σ H Q) : tV X W (denPs L as) σ H fun vs H1 => spOf X.K g vs H1 Q := by
  obtain ⟨Z, e, F, s, h⟩ := h
  refine ⟨Z, e, F, s, ?_⟩
  simp only [den, hf] at h
  cases q : denPs L as e with
  | err c d e1 => simp only [q, Res.bind, outG] at h; exact h
  | stuck => simp only [q, Res.bind, outG] at h
  | ok vs e1 =>
    simp only [q, Res.bind] at h
    simp only [outG]
    intro xs H1 ⟨Z1, F1, P1, st, r⟩
    have hlen : vs.length = g.ps.length := by
      by_cases c : vs.length = g.ps.length
      · exact c
      · rw [if_neg c] at h; exact h.elim
    rw [if_pos hlen] at h
    refine ⟨r.len.trans hlen, ?_⟩
    unfold doCall at h
    by_cases hio : g.io = true
    · rw [if_pos hio] at h
      cases r with
      | nil => exact h.elim
      | @o x0 xsr o0 vsr P0 PR r0 t =>
        simp only at h
        cases qa : argOs e1 vsr with
        | none => rw [qa] at h; exact h.elim
        | some osr =>
          rw [qa] at h
          obtain ⟨z, out, e', hz, hb, hk, fin⟩ := outOk h
          cases hk
          obtain ⟨Zc, k1, k2, k3, kd, k4⟩ := call_core (xs0 := [x0]) (os0 := [o0]) st (by simpa using ORs.cons r0 .nil) t qa
          refine ⟨Zc, _, P0, k1, k3, k2, z, out, hz, fun x H' en => ?_⟩
          obtain ⟨Z2, Pz, Pu, s2, rz, _⟩ := k4 _ z out x H' en hb
          exact fin x H' ⟨Z2, F1, Pz, ⟨s2.ext.sub fun a m => by rw [← List.append_assoc]; exact List.mem_append_left _ m, s2.same, s2.rel, by have := s2.nd; rw [← List.append_assoc] at this; exact (List.nodup_append.mp this).1⟩, rz⟩
      | @s x0 xsr i vsr PR hx t =>
        simp only at h
        cases qi : look e1 i with
        | none => rw [qi] at h; exact h.elim
        | some o0 =>
          cases qa : argOs (e1.set i none) vsr with
          | none => rw [qi, qa] at h; exact h.elim
          | some osr =>
            rw [qi, qa] at h
            obtain ⟨z, out, e', hz, hb, hk, fin⟩ := outOk h
            obtain ⟨P0, r0, sub, G, rg, pm⟩ := rel_at st.rel qi hx
            have st' : Step X.K σ Z H F Z1 H1 (e1.set i none) G (P0 ++ P1) := by
              have pm2 : (F1 ++ P1).Perm (G ++ (P0 ++ P1)) := by
                refine (List.Perm.append_right P1 pm).trans ?_
                rw [← List.append_assoc]
                exact List.Perm.append_right P1 List.perm_append_comm
              exact ⟨st.ext.sub fun a m => pm2.mem_iff.mpr m, st.same, rg, pm2.nodup_iff.mp st.nd⟩
            obtain ⟨Zc, k1, k2, k3, kd, k4⟩ := call_core (xs0 := [x0]) (os0 := [o0]) st' (by simpa using ORs.cons r0 .nil) t qa
            refine ⟨Zc, _, P0, k1, k3, k2, z, out, hz, fun x H' en => ?_⟩
            obtain ⟨Z2, Pz, Pu, s2, rz, ru⟩ := k4 _ z out x H' en hb
            cases out with
            | none => cases hk
            | some u =>
              cases hk
              obtain ⟨y, r', e1', ro⟩ := ru
              cases e1'
              have bk := Rel.back s2.rel hx ro
              have pm3 : (G ++ (Pz ++ Pu)).Perm ((Pu ++ G) ++ Pz) := by
                refine (List.Perm.append_left G List.perm_append_comm).trans ?_
                rw [← List.append_assoc]
                exact List.Perm.append_right Pz List.perm_append_comm
              exact fin x H' ⟨Z2, Pu ++ G, Pz, ⟨s2.ext.sub fun a m => pm3.mem_iff.mpr m, s2.same, bk, pm3.nodup_iff.mp s2.nd⟩, rz⟩
    · rw [if_neg hio] at h
      cases qa : argOs e1 vs with
      | none => rw [qa] at h; exact h.elim
      | some osr =>
        rw [qa] at h
        obtain ⟨z, out, e', hz, hb, hk, fin⟩ := outOk h
        cases hk
        obtain ⟨Zc, k1, k2, k3, kd, k4⟩ := call_core (xs0 := []) (os0 := []) (P0 := []) st .nil r qa
        refine ⟨Zc, _, [], k1, k3, k2, z, out, hz, fun x H' en => ?_⟩
        obtain ⟨Z2, Pz, Pu, s2, rz, _⟩ := k4 _ z out x H' en hb
        exact fin x H' ⟨Z2, F1, Pz, ⟨s2.ext.sub fun a m => by rw [← List.append_assoc]; exact List.mem_append_left _ m, s2.same, s2.rel, by have := s2.nd; rw [← List.append_assoc] at this; exact (List.nodup_append.mp this).1⟩, rz⟩
theorem perm_map {α β : Type} (f : α → β) {n : Nat} {ks : List Nat} {l : List α} {r : List β} (h : perm n ks (l.map f) = some r) : ∃ r', perm n ks l = some r' ∧ r = r'.map f := by
  obtain ⟨bs, e, t⟩ := mapM_rel (R := fun b a => b = f a) (g := fun i => (ks.findIdx? (· == i)).bind fun j => l[j]?) (fun i a e => by
    cases q : ks.findIdx? (· == i) with
    | none => rw [q] at e; cases e
    | some j =>
      rw [q] at e
      have e : (l.map f)[j]? = some a := e
      rw [List.getElem?_map] at e
      cases q2 : l[j]? with
      | none => rw [q2] at e; cases e
      | some b =>
        rw [q2] at e
        cases e
        exact ⟨b, q2, rfl⟩) (fun rs bs => rs = bs.map f) rfl (fun a b => by rw [a, b]; rfl) h
  exact ⟨bs, e, t⟩
theorem mapM_len {α : Type} {f : Nat → Option α} : ∀ {l : List Nat} {as : List α}, l.mapM f = some as → as.length = l.length
  | [], as, e => by
    have e2 : as = [] := by simpa using e.symm
    subst e2
    rfl
  | i :: l, as, e => by
    rw [List.mapM_cons] at e
    cases q : f i with
    | none => rw [q] at e; cases e
    | some a =>
      rw [q] at e
      cases q2 : l.mapM f with
      | none => rw [q2] at e; cases e
      | some as2 =>
        rw [q2] at e
        have e2 : as = a :: as2 := by simpa using e.symm
        subst e2
        exact congrArg Nat.succ (mapM_len q2)
theorem callK_sp {g : FnE} {f : Nat} {ks : List Nat} {as : List IP} {Q : VK} (hf : L[f]? = some g) (h : tR X W (den L (.callK f ks as)) σ H Q) : tV X W (denPs L as) σ H fun zs H1 => zs.length = g.ps.length ∧ ∃ vs, perm g.ps.length ks zs = some vs ∧ spOf X.K g vs H1 Q := by
  obtain ⟨Z, e, F, s, h⟩ := h
  refine ⟨Z, e, F, s, ?_⟩
  simp only [den, hf] at h
  cases q : denPs L as e with
  | err c d e1 => simp only [q, Res.bind, outG] at h; exact h
  | stuck => simp only [q, Res.bind, outG] at h
  | ok vs e1 =>
    simp only [q, Res.bind] at h
    simp only [outG]
    intro zs H1 ⟨Z1, F1, P1, st, r⟩
    by_cases hio : g.io = true
    · rw [if_pos hio] at h; exact h.elim
    rw [if_neg hio] at h
    cases qa : argOs e1 vs with
    | none => rw [qa] at h; exact h.elim
    | some osr =>
      rw [qa] at h
      simp only at h
      cases qp : perm g.ps.length ks osr with
      | none => rw [qp] at h; exact h.elim
      | some ys =>
        rw [qp] at h
        simp only at h
        by_cases hlen : vs.length = g.ps.length
        · rw [if_pos hlen] at h
          obtain ⟨z, out, e', hz, hb, hk, fin⟩ := outOk h
          cases hk
          obtain ⟨Zc, k1, k2, k3, kd, k4⟩ := call_core (xs0 := []) (os0 := []) (P0 := []) st .nil r qa
          refine ⟨r.len.trans hlen, ?_⟩
          obtain ⟨ds, e1', dr⟩ := kd
          subst e1'
          obtain ⟨es, p1, e2⟩ := perm_map O.v qp
          subst e2
          obtain ⟨vs', p2, dr2⟩ := perm_dr dr p1
          have hl : vs'.length = g.ps.length := by rw [mapM_len p2, List.length_range]
          refine ⟨vs', p2, hl, Zc, _, [], k1, k3, ors_v dr2, z, out, hz, fun x H' en => ?_⟩
          obtain ⟨Z2, Pz, Pu, s2, rz, _⟩ := k4 _ z out x H' en hb
          exact fin x H' ⟨Z2, F1, Pz, ⟨s2.ext.sub fun a m => by rw [← List.append_assoc]; exact List.mem_append_left _ m, s2.same, s2.rel, by have := s2.nd; rw [← List.append_assoc] at this; exact (List.nodup_append.mp this).1⟩, rz⟩
        · rw [if_neg hlen] at h; exact h.elim
end
end Ev
set_option Elab.async false
set_option linter.all false
set_option maxRecDepth 100000
/-! Ev11: what is gone through; targets; blocks in brackets. -/
namespace Ev
open PySem PySem.Spec PyProof.Rows L2

/-- J gives the data ds in turn, wherever Z stands -/
structure ItD (Z : Hp) (J : It) (ds : List D) : Prop where
  go : ∀ i H d, Same Z H → ds[i]? = some d → J.go i H
  yld : ∀ i H d x H2, Same Z H → ds[i]? = some d → J.yld i H x H2 → ∀ Z1, Same Z Z1 → Same Z1 H → ∃ Z2, Ext Z1 H [] Z2 H2 [] ∧ Same Z2 H2 ∧ Dr Z2 x d
  stop : ∀ i H, Same Z H → ds.length = i → J.stop i H
def EndI (K : Frag) (σ : Sg) (Z H : Hp) (F : List Addr) (e' : Ve) (J : It) (ds : List D) (H' : Hp) : Prop := ∃ Z' F', Step K σ Z H F Z' H' e' F' [] ∧ ItD Z' J ds
def tI (X : Cx) (W : WX) (m : Ve → Res (List D)) : TI := tG X W m EndI
theorem _root_.L2.PI.up {X : Cx} {tg e : Expr} {t t' : TI} (h : PI X tg e t) (k : ∀ σ H Q, t' σ H Q → t σ H Q) : PI X tg e t' := ⟨fun pins s σ H Q I q => h.run pins s σ H Q I (k σ H Q q)⟩
section
variable {K : Frag} {σ : Sg} {Z Z1 Z2 H H1 H2 : Hp} {F P : List Addr} {e : Ve}
theorem Ext.lift (x : Ext Z H [] Z2 H2 []) : Ext Z H F Z2 H2 F :=
  ⟨x.zz, fun a o h _ => x.fr a o h (by simp), fun a o h => (x.zn a o h).imp id fun q => q.elim (fun z => by cases z) .inr, fun a m => .inl m, x.tu⟩
theorem Ext.sts (x : Ext Z H [] Z2 H2 []) (sm : Same Z2 H2) (s : Sts K Z H σ e F) : Sts K Z2 H2 σ e F :=
  ⟨sm, Rel.keep x.zz x.tu s.rel fun a m => let ⟨⟨l, q⟩, z⟩ := s.rel.mem a m; x.at q z (by simp), s.nd⟩
/-- an operand in hand, frozen -/
theorem hand_frz {x : V} {o : O} {e1 : Ve} {F1 P1 : List Addr} (s : Step K σ Z H F Z1 H1 e1 F1 P1) (r : OR K Z1 H1 x o P1) : ∃ Z2, Step K σ Z H F Z2 H1 e1 F1 [] ∧ Dr Z2 x o.d :=
  ⟨frz Z1 H1 P1, s.op (ext_frz s.same) (frz_sub s.same) List.nodup_nil, OR.freeze s.same r fun a m => m⟩
theorem itd_list {a : Addr} {xs : List V} {ds : List D} (h : Rd Z a (.lst xs)) (d : DrAll Z xs ds) : ItD Z (Itl K a) ds := by
  have hl := DrAll.length d
  have rd : ∀ {H : Hp}, Same Z H → SqL K H a xs := fun s => .inl (rd_same s h)
  have inj : ∀ {H : Hp}, Same Z H → SqL K H a xs := rd
  refine ⟨fun i H d' s e => ?_, fun i H d' x H2 s e y Z1 s1 s2 => ?_, fun i H s e => ⟨xs, rd s, by omega⟩⟩
  · obtain ⟨x, hx, _⟩ := dr_at d e
    exact ⟨xs, x, rd s, hx⟩
  · obtain ⟨e1, q⟩ := y
    subst e1
    obtain ⟨x', hx, dx⟩ := dr_at d e
    have := q xs (rd s)
    rw [hx] at this
    cases this
    exact ⟨Z1, Ext.refl, s2, Dr.sub s1 dx⟩
theorem itd_tup {a : Addr} {xs : List V} {ds : List D} (h : Z a = some (.tup xs)) (d : DrAll Z xs ds) : ItD Z (Itt K a) ds := by
  have hl := DrAll.length d
  have rd : ∀ {H : Hp}, Same Z H → SqT K H a xs := fun s => .inl (.inl (s _ _ h))
  refine ⟨fun i H d' s e => ?_, fun i H d' x H2 s e y Z1 s1 s2 => ?_, fun i H s e => ⟨xs, rd s, by omega⟩⟩
  · obtain ⟨x, hx, _⟩ := dr_at d e
    exact ⟨xs, x, rd s, hx⟩
  · obtain ⟨e1, q⟩ := y
    subst e1
    obtain ⟨x', hx, dx⟩ := dr_at d e
    have := q xs (rd s)
    rw [hx] at this
    cases this
    exact ⟨Z1, Ext.refl, s2, Dr.sub s1 dx⟩
theorem itd_range {lo : Int} {n : Nat} : ItD Z (Itr lo n) (rangeD lo 1 n) := by
  have hl : (rangeD lo 1 n).length = n := by simp [rangeD]
  have at_ : ∀ {i : Nat} {d : D}, (rangeD lo 1 n)[i]? = some d → i < n ∧ d = .int (lo + i) := fun {i d} e => by
    have hi : i < n := by
      have := (List.getElem?_eq_some_iff.mp e).1
      omega
    refine ⟨hi, ?_⟩
    unfold rangeD at e
    rw [List.getElem?_map, List.getElem?_range hi] at e
    simp at e
    exact e.symm
  refine ⟨fun i H d s e => (at_ e).1, fun i H d x H2 s e y Z1 s1 s2 => ?_, fun i H s e => by rw [hl] at e; exact Nat.le_of_eq e⟩
  obtain ⟨e1, q⟩ := y
  subst e1 q
  obtain ⟨_, ed⟩ := at_ e
  subst ed
  exact ⟨Z1, Ext.refl, s2, .int _⟩
theorem itd_rangeC {lo c : Int} {n : Nat} : ItD Z (Itc lo c n) (rangeD lo c n) := by
  have hl : (rangeD lo c n).length = n := by simp [rangeD]
  have at_ : ∀ {i : Nat} {d : D}, (rangeD lo c n)[i]? = some d → i < n ∧ d = .int (lo + i * c) := fun {i d} e => by
    have hi : i < n := by
      have := (List.getElem?_eq_some_iff.mp e).1
      omega
    refine ⟨hi, ?_⟩
    unfold rangeD at e
    rw [List.getElem?_map, List.getElem?_range hi] at e
    simp at e
    exact e.symm
  refine ⟨fun i H d s e => (at_ e).1, fun i H d x H2 s e y Z1 s1 s2 => ?_, fun i H s e => by rw [hl] at e; exact Nat.le_of_eq e⟩
  obtain ⟨e1, q⟩ := y
  subst e1 q
  obtain ⟨_, ed⟩ := at_ e
  subst ed
  exact ⟨Z1, Ext.refl, s2, .int _⟩
end

/-! ### a list or a tuple -/
section
variable {X : Cx} {W : WX} {L : List FnE} {σ : Sg} {H : Hp} {tg : Expr}
def iSeqE (K : Frag) (te : TE) : TI := fun σ H R => te σ H fun x H1 => ∃ a, x = .ref a ∧ ((∃ xs, SqL K H1 a xs) ∧ R (Itl K a) H1 ∨ (∃ xs, SqT K H1 a xs) ∧ R (Itt K a) H1)
theorem pi_seqE {l : Expr} {tl : TE} (hl : PE X l tl) : PI X tg l (iSeqE X.K tl) := by
  refine ⟨fun pins s σ H R I h => thn (hl.run pins s σ H _ I h) ?_⟩
  intro v s1 ⟨x, H1, J1, r1, a, ex, q⟩
  subst ex
  cases r1
  have fp : ∀ b ∈ [s1.heap.objs.size], FpOk X pins H1 b := fun b hb => by
    rw [List.mem_singleton] at hb
    subst hb
    exact J1.fpOk (Nat.le_refl _) (J1.hok.fresh (Nat.le_refl _))
  have kp : ∀ ob : Obj, Inv X pins σ H1 { s1 with heap := s1.heap.push ob } := fun ob => J1.kept (t' := s1.toks) fun b o e => Heap.get?_push_of_some _ e
  rcases q with ⟨⟨xs, hq⟩, q⟩ | ⟨⟨xs, hq⟩, q⟩
  · obtain ⟨its, rv, p, hz⟩ := J1.list hq
    exact wpAny_pyIter_list p.isList ⟨s1.heap.objs.size, _, _, _, H1, rfl, kp _, turn_list a _, ⟨_, Heap.get?_push_size _ rfl, rfl, rfl⟩, fp, q⟩
  · obtain ⟨its, rv, p, hz⟩ := J1.tuple hq
    exact wpAny_pyIter_tuple (show s1.heap.IsTuple a its.toArray from p) ⟨s1.heap.objs.size, _, _, _, H1, rfl, kp _, turn_tuple a _, ⟨_, Heap.get?_push_size _ rfl, rfl, rfl⟩, fp, q⟩
theorem seqD_some {o : O} {ds : List D} (h : seqD o = some ds) : o.d = .list ds ∨ o.d = .tuple ds := by
  unfold seqD at h
  dsimp only at h
  split at h
  · rename_i q; cases h; exact .inl q
  · rename_i q; cases h; exact .inr q
  · cases h
theorem si_seq {l : Expr} {a : IE} (hl : PE X l (tR X W (den L a))) : PI X tg l (tI X W (denI L (.seq a))) := by
  refine (pi_seqE hl).up fun σ H R h => ?_
  obtain ⟨Z, e, F, s, h⟩ := h
  refine ⟨Z, e, F, s, ?_⟩
  simp only [denI] at h
  cases q : den L a e with
  | err c d e1 => simp only [q, Res.bind, outG] at h; exact h
  | stuck => simp only [q, Res.bind, outG] at h
  | ok o e1 =>
    simp only [q, Res.bind] at h
    simp only [outG]
    intro x H1 ⟨Z1, F1, P1, st, r⟩
    cases q2 : seqD o with
    | none => simp only [q2, lift, outG] at h
    | some ds =>
      simp only [q2, lift, outG] at h
      obtain ⟨Z2, st2, dr⟩ := hand_frz st r
      rcases seqD_some q2 with ed | ed
      · rw [ed] at dr
        cases dr with
        | @lst a xs _ rd al => exact ⟨a, rfl, .inl ⟨⟨xs, .inl (rd_same st2.same rd)⟩, h _ _ ⟨Z2, F1, st2, itd_list rd al⟩⟩⟩
      · rw [ed] at dr
        cases dr with
        | @tup a xs _ rd al => exact ⟨a, rfl, .inr ⟨⟨xs, .inl (.inl (st2.same _ _ rd))⟩, h _ _ ⟨Z2, F1, st2, itd_tup rd al⟩⟩⟩

/-! ### ranges -/
theorem or_int {K : Frag} {Z H : Hp} {x : V} {i : Int} {P : List Addr} (r : OR K Z H x (.v (.int i)) P) : x = .int i ∧ P = [] := by
  cases r with
  | v d => cases d; exact ⟨rfl, rfl⟩
theorem tO_range {as : List IE} {R : It → Hp → Prop} (h : tI X W (denI L (.range as)) σ H R) : tO X W (denEs L as) σ H fun vs H1 => ∃ os ds, rangeIt os = some ds ∧ (∃ is : List Int, os = is.map (fun i => .v (.int i)) ∧ vs = is.map V.int) ∧ ∀ J, (∀ Z, ItD Z J ds) → R J H1 := by
  obtain ⟨Z, e, F, s, h⟩ := h
  refine ⟨Z, e, F, s, ?_⟩
  simp only [denI] at h
  cases q : denEs L as e with
  | err c d e1 => simp only [q, Res.bind, outG] at h; exact h
  | stuck => simp only [q, Res.bind, outG] at h
  | ok os e1 =>
    simp only [q, Res.bind] at h
    simp only [outG]
    intro vs H1 ⟨Z1, F1, P1, st, r⟩
    cases q2 : rangeIt os with
    | none => simp only [q2, lift, outG] at h
    | some ds =>
      simp only [q2, lift, outG] at h
      refine ⟨os, ds, q2, ?_, fun J hJ => h J H1 ⟨Z1, F1, st.drop, hJ Z1⟩⟩
      unfold rangeIt at q2
      split at q2
      · cases r with | cons a b => cases b; obtain ⟨ex, _⟩ := or_int a; exact ⟨[_], rfl, by rw [ex]; rfl⟩
      · cases r with | cons a b => cases b with | cons a2 b => cases b; obtain ⟨ex, _⟩ := or_int a; obtain ⟨ex2, _⟩ := or_int a2; exact ⟨[_, _], rfl, by rw [ex, ex2]; rfl⟩
      · cases r with | cons a b => cases b with | cons a2 b => cases b with | cons a3 b => cases b; obtain ⟨ex, _⟩ := or_int a; obtain ⟨ex2, _⟩ := or_int a2; obtain ⟨ex3, _⟩ := or_int a3; exact ⟨[_, _, _], rfl, by rw [ex, ex2, ex3]; rfl⟩
      · cases q2
theorem map_is {is : List Int} {j : Int} {r : List O} (h : is.map (fun i => O.v (.int i)) = .v (.int j) :: r) : ∃ js, is = j :: js ∧ r = js.map fun i => O.v (.int i) := by
  cases is with
  | nil => cases h
  | cons i js =>
    simp only [List.map_cons, List.cons.injEq, O.v.injEq, PyData.int.injEq] at h
    exact ⟨js, by rw [h.1], h.2.symm⟩
theorem starE {es : List Expr} {env : Env} (h : es.all plainArg = true) : starEach es env = es.map fun e => (false, eval e env) := by
  induction es with
  | nil => rfl
  | cons e es ih =>
    rw [List.all_cons, Bool.and_eq_true] at h
    rw [star_plain h.1, ih h.2]
    rfl
theorem rangeR1 {as : List IE} {R : It → Hp → Prop} {vs : List V} {H1 : Hp} (hl : as.length = 1) (hv : vs.length = 1) (h : ∃ os ds, rangeIt os = some ds ∧ (∃ is : List Int, os = is.map (fun i => .v (.int i)) ∧ vs = is.map V.int) ∧ ∀ J, (∀ Z, ItD Z J ds) → R J H1) :
    ∃ j : Int, vs = [.int j] ∧ -(2 ^ 62) ≤ j ∧ j < 2 ^ 62 ∧ R (Itr 0 j.toNat) H1 := by
  obtain ⟨os, ds, q, ⟨is, e1, e2⟩, fin⟩ := h
  subst e1 e2
  match is, hv with
  | [j], _ =>
    simp only [List.map_cons, List.map_nil, rangeIt] at q
    split at q
    · rename_i c
      cases q
      exact ⟨j, rfl, (mag_sp c).1, (mag_sp c).2, fin _ fun Z => itd_range⟩
    · cases q
theorem rangeR2 {R : It → Hp → Prop} {vs : List V} {H1 : Hp} (hv : vs.length = 2) (h : ∃ os ds, rangeIt os = some ds ∧ (∃ is : List Int, os = is.map (fun i => .v (.int i)) ∧ vs = is.map V.int) ∧ ∀ J, (∀ Z, ItD Z J ds) → R J H1) :
    ∃ i j : Int, vs = [.int i, .int j] ∧ (-(2 ^ 62) ≤ i ∧ i < 2 ^ 62 ∧ -(2 ^ 62) ≤ j ∧ j < 2 ^ 62) ∧ R (Itr i (j - i).toNat) H1 := by
  obtain ⟨os, ds, q, ⟨is, e1, e2⟩, fin⟩ := h
  subst e1 e2
  match is, hv with
  | [i, j], _ =>
    simp only [List.map_cons, List.map_nil, rangeIt] at q
    split at q
    · rename_i c
      rw [Bool.and_eq_true] at c
      cases q
      exact ⟨i, j, rfl, ⟨(mag_sp c.1).1, (mag_sp c.1).2, (mag_sp c.2).1, (mag_sp c.2).2⟩, fin _ fun Z => itd_range⟩
    · cases q
theorem rangeR3 {R : It → Hp → Prop} {vs : List V} {H1 : Hp} (hv : vs.length = 3) (h : ∃ os ds, rangeIt os = some ds ∧ (∃ is : List Int, os = is.map (fun i => .v (.int i)) ∧ vs = is.map V.int) ∧ ∀ J, (∀ Z, ItD Z J ds) → R J H1) :
    ∃ (i j c : Int) (n : Nat), vs = [.int i, .int j, .int c] ∧ RgC i j c n ∧ R (Itc i c n) H1 := by
  obtain ⟨os, ds, q, ⟨is, e1, e2⟩, fin⟩ := h
  subst e1 e2
  match is, hv with
  | [i, j, c], _ =>
    simp only [List.map_cons, List.map_nil, rangeIt] at q
    split at q
    · rename_i k
      simp only [Bool.and_eq_true, decide_eq_true_eq] at k
      obtain ⟨⟨⟨k1, k2⟩, k3⟩, k4⟩ := k
      cases q
      exact ⟨i, j, c, _, rfl, ⟨k1, k2, k3, (Int.toNat_of_nonneg k4).symm⟩, fin _ fun Z => itd_rangeC⟩
    · cases q
end
end Ev
set_option Elab.async false
set_option linter.all false
set_option maxRecDepth 100000
/-! Ev12: targets; blocks in brackets. -/
namespace Ev
open PySem PySem.Spec PyProof.Rows L2

def gTs : List Nat → TGs
  | [] => gNil
  | i :: is => gCons (gName i) (gTs is)
def gT (K : Frag) : Tgt → TG
  | .one i => gName i
  | .many is => gTup K is.length (gTs is)
section
variable {K : Frag} {σ σ2 : Sg} {Z Z1 Z2 H H1 H2 : Hp} {F G P : List Addr} {e e1 : Ve}
theorem rel_put {i : Nat} {x : V} {d : D} (r : Rel K Z H σ e F) (hi : i < e.length) (h : Dr Z x d) : ∃ f G, Rel K Z H (σ.set i (some x)) (e.set i (some (.v d))) G ∧ F.Perm (f ++ G) := by
  obtain ⟨f, G, r1, pm⟩ := r.drop i
  refine ⟨f, G, ?_, pm⟩
  have p := Rel.put r1 (get_set_self hi) (OR.v (K := K) (H := H) h)
  rwa [set_set_same] at p
/-- behind a store: what was forgotten, what stays -/
structure Stored (K : Frag) (Z H : Hp) (σ : Sg) (F : List Addr) (S : List Nat) (e1 : Ve) (σ2 : Sg) (G : List Addr) : Prop where
  rel : Rel K Z H σ2 e1 G
  perm : ∃ f, F.Perm (f ++ G)
  out : ∀ j, j ∉ S → σ2[j]? = σ[j]?
  len : σ2.length = σ.length
theorem gTs_go {Q : Sg → Hp → Prop} : ∀ {is : List Nat} {ds : List D} {xs : List V} {σ : Sg} {e : Ve} {F : List Addr}, Rel K Z H σ e F → setMany is ds e = some e1 → DrAll Z xs ds → (∀ σ2 G, Stored K Z H σ F is e1 σ2 G → Q σ2 H) → gTs is xs σ H Q
  | [], [], _, σ, e, F, r, h, .nil, q => by
    cases h
    exact ⟨rfl, q σ F ⟨r, ⟨[], List.Perm.refl _⟩, fun _ _ => rfl, rfl⟩⟩
  | i :: is, d :: ds, x :: xs, σ, e, F, r, h, .cons a b, q => by
    unfold setMany at h
    split at h
    · rename_i hi
      obtain ⟨f, G, r1, pm⟩ := rel_put r hi a
      refine ⟨x, xs, rfl, gTs_go r1 h b fun σ2 G2 s => q σ2 G2 ⟨s.rel, ?_, fun j hj => ?_, by rw [s.len, List.length_set]⟩⟩
      · obtain ⟨f2, pm2⟩ := s.perm
        exact ⟨f ++ f2, pm.trans (by rw [List.append_assoc]; exact List.Perm.append_left f pm2)⟩
      · rw [s.out j fun z => hj (List.mem_cons_of_mem _ z), List.getElem?_set_ne (fun (z : i = j) => hj (by rw [z]; exact List.mem_cons_self ..))]
    · cases h
  | [], _ :: _, _, _, _, _, _, h, _, _ => by simp [setMany] at h
  | _ :: _, [], _, _, _, _, _, h, _, _ => by simp [setMany] at h
theorem setMany_len : ∀ {is : List Nat} {ds : List D} {e e1 : Ve}, setMany is ds e = some e1 → is.length = ds.length
  | [], [], _, _, _ => rfl
  | _ :: is, _ :: ds, e, _, h => by
    unfold setMany at h
    split at h
    · exact congrArg Nat.succ (setMany_len h)
    · cases h
  | [], _ :: _, _, _, h => by simp [setMany] at h
  | _ :: _, [], _, _, h => by simp [setMany] at h
theorem gT_go {t : Tgt} {d : D} {x : V} {Q : Sg → Hp → Prop} (hs : Same Z H) (r : Rel K Z H σ e F) (h : t.put d e = some e1) (hd : Dr Z x d) (q : ∀ σ2 G, Stored K Z H σ F t.slots e1 σ2 G → Q σ2 H) : gT K t x σ H Q := by
  cases t with
  | one i =>
    unfold Tgt.put at h
    simp only at h
    split at h
    · rename_i hi
      cases h
      obtain ⟨f, G, r1, pm⟩ := rel_put r hi hd
      exact q _ G ⟨r1, ⟨f, pm⟩, fun j hj => List.getElem?_set_ne fun z => hj (by rw [← z]; exact List.mem_singleton.mpr rfl), by rw [List.length_set]⟩
    · cases h
  | many is =>
    unfold Tgt.put at h
    simp only at h
    split at h
    · rename_i ds
      cases hd with
      | @tup a xs _ rd al =>
        exact ⟨a, xs, rfl, .inl (.inl (hs _ _ rd)), by rw [DrAll.length al, setMany_len h], gTs_go r h al q⟩
    · cases h
theorem pg_T {X : Cx} {t : Tgt} {tg : Expr} (hN : X.N.Nodup) (hc : X.calm = true) (h : match t, tg with
    | .one i, .Name x _ => X.N[i]? = some x ∧ Loc X.env.scope x ∧ (X.fn x = true ∨ X.env.scope.names.lookup x = some .local)
    | _, _ => False) : PG X tg (gT X.K t) := by
  cases t with
  | one i =>
    cases tg with
    | Name x p => exact pg_name hN h.1 h.2.1 h.2.2
    | _ => exact h.elim
  | many is => exact h.elim

/-! ### slots wiped -/
theorem wipe_in {j : Nat} : ∀ {vs : List Nat} {σ : Sg}, j ∈ vs → j < σ.length → (wipe σ vs)[j]? = some none
  | v :: vs, σ, h, hl => by
    unfold wipe
    by_cases e : v = j
    · subst e
      rw [List.getElem?_set_self (by rw [wipe_length]; exact hl)]
    · rw [List.getElem?_set_ne e]
      exact wipe_in ((List.mem_cons.mp h).resolve_left fun z => e z.symm) hl
theorem wipe_eq {vs : List Nat} {σ σ2 : Sg} (hl : σ2.length = σ.length) (h : ∀ j, j ∉ vs → σ2[j]? = σ[j]?) : wipe σ2 vs = wipe σ vs := by
  apply List.ext_getElem?
  intro j
  by_cases m : j ∈ vs
  · by_cases g : j < σ.length
    · rw [wipe_in m g, wipe_in m (by omega)]
    · rw [List.getElem?_eq_none (by rw [wipe_length]; omega), List.getElem?_eq_none (by rw [wipe_length]; omega)]
  · rw [wipe_out m, wipe_out m, h j m]
theorem wipe_idem {vs : List Nat} {σ : Sg} : wipe (wipe σ vs) vs = wipe σ vs := wipe_eq (wipe_length _ _) fun j m => wipe_out m
theorem rel_wipe : ∀ {vs : List Nat} {F : List Addr}, Rel K Z H σ e F → ∃ f G, Rel K Z H (wipe σ vs) (wipeE e vs) G ∧ F.Perm (f ++ G)
  | [], F, r => ⟨[], F, r, List.Perm.refl _⟩
  | v :: vs, F, r => by
    obtain ⟨f, G, r1, pm⟩ := rel_wipe (vs := vs) r
    obtain ⟨f2, G2, r2, pm2⟩ := r1.drop v
    refine ⟨f ++ f2, G2, ?_, pm.trans (by rw [List.append_assoc]; exact List.Perm.append_left f pm2)⟩
    unfold wipe wipeE
    by_cases hl : v < (wipeE e vs).length
    · exact Rel.any r2 (get_set_self hl)
    · have e1 : (wipe σ vs).set v none = wipe σ vs := List.set_eq_of_length_le (by have := r1.len; omega)
      rw [e1]
      exact r2
theorem wipeE_in {j : Nat} : ∀ {vs : List Nat} {e : Ve}, j ∈ vs → j < e.length → (wipeE e vs)[j]? = some none
  | v :: vs, e, h, hl => by
    have len : ∀ vs : List Nat, (wipeE e vs).length = e.length := fun vs => by
      induction vs with
      | nil => rfl
      | cons v vs ih => unfold wipeE; rw [List.length_set, ih]
    unfold wipeE
    by_cases q : v = j
    · subst q
      rw [List.getElem?_set_self (by rw [len]; exact hl)]
    · rw [List.getElem?_set_ne q]
      exact wipeE_in ((List.mem_cons.mp h).resolve_left fun z => q z.symm) hl
theorem wipeE_len (e : Ve) : ∀ vs : List Nat, (wipeE e vs).length = e.length
  | [] => rfl
  | v :: vs => by unfold wipeE; rw [List.length_set, wipeE_len e vs]
/-- slots of which nothing is known may hold anything -/
theorem rel_swap : ∀ {σ1 σ2 : Sg} {e : Ve} {F : List Addr}, Rel K Z H σ1 e F → σ2.length = σ1.length → (∀ j : Nat, e[j]? = some none ∨ σ2[j]? = σ1[j]?) → Rel K Z H σ2 e F
  | _, σ2, _, _, .nil, hl, _ => by
    have : σ2 = [] := List.length_eq_zero_iff.mp hl
    rw [this]
    exact .nil
  | _, s :: σ2, _, _, .skip r, hl, h => .skip (rel_swap r (by simpa using hl) fun j => by simpa using h (j + 1))
  | _, s :: σ2, _, _, .some q r p, hl, h => by
    have := h 0
    simp at this
    subst this
    exact .some q (rel_swap r (by simpa using hl) fun j => by simpa using h (j + 1)) p
  | _, [], _, _, .skip _, hl, _ => by simp at hl
  | _, [], _, _, .some _ _ _, hl, _ => by simp at hl
def bare (o : Option O) : Prop := o = none ∨ ∃ d, o = some (.v d)
theorem rel_fix {o o' : Option O} : ∀ {σ : Sg} {e : Ve} {F : List Addr} {i : Nat}, Rel K Z H σ e F → e[i]? = some o → bare o → (o' = none ∨ ∃ d x, o' = some (.v d) ∧ σ[i]? = some (some x) ∧ Dr Z x d) → Rel K Z H σ (e.set i o') F
  | _, _, _, _, .nil, h, _, _ => by simp at h
  | _, _, _, 0, .skip r, h, _, k => by
    rcases k with k | ⟨d, x, k, hx, hd⟩
    · rw [k]; exact .skip r
    · rw [k]
      simp at hx
      subst hx
      exact .some (F := []) (.v hd) r (List.Perm.refl _)
  | _, _, _, i + 1, .skip r, h, b, k => .skip (rel_fix (i := i) r (by simpa using h) b (by simpa using k))
  | _, _, _, 0, .some q r p, h, b, k => by
    simp at h
    subst h
    rcases b with b | ⟨d0, b⟩
    · cases b
    · cases b
      cases q with
      | v q =>
        have r' := r.perm p
        rcases k with k | ⟨d, x, k, hx, hd⟩
        · rw [k]
          exact .skip r'
        · rw [k]
          simp at hx
          subst hx
          exact .some (F := []) (.v hd) r' (List.Perm.refl _)
  | _, _, _, i + 1, .some q r p, h, b, k => .some q (rel_fix (i := i) r (by simpa using h) b (by simpa using k)) p
/-- the slots of a block's own names come back -/
theorem rel_back {e0 : Ve} (hd : ∀ v d, look e0 v = some (.v d) → ∃ x, σ[v]? = some (some x) ∧ Dr Z x d) : ∀ {vs : List Nat}, Rel K Z H σ e F → (∀ v ∈ vs, ∀ o, e[v]? = some o → bare o) → Rel K Z H σ (backE e0 e vs) F
  | [], r, _ => r
  | v :: vs, r, h => by
    have ih := rel_back hd (vs := vs) r fun u m => h u (List.mem_cons_of_mem _ m)
    have keep : ∀ vs : List Nat, ∀ o, (backE e0 e vs)[v]? = some o → bare o := fun vs => by
      induction vs with
      | nil => exact h v (List.mem_cons_self ..)
      | cons u us ih2 =>
        intro o q
        unfold backE at q
        by_cases g : u = v
        · subst g
          rw [List.getElem?_set] at q
          simp at q
          obtain ⟨_, q⟩ := q
          subst q
          unfold keepV
          split
          · exact .inr ⟨_, rfl⟩
          · exact .inl rfl
        · rw [List.getElem?_set_ne g] at q
          exact ih2 o q
    unfold backE
    cases q : (backE e0 e vs)[v]? with
    | none =>
      rw [List.set_eq_of_length_le (by simpa using q)]
      exact ih
    | some o =>
      refine rel_fix ih q (keep vs o q) ?_
      unfold keepV
      split
      · rename_i d k
        obtain ⟨x, hx, dx⟩ := hd v d k
        exact .inr ⟨d, x, rfl, hx, dx⟩
      · exact .inl rfl
end
end Ev
set_option Elab.async false
set_option linter.all false
set_option maxRecDepth 100000
/-! Ev13: a list in brackets with a for. -/
namespace Ev
open PySem PySem.Spec PyProof.Rows L2

def tYN (X : Cx) (W : WX) (L : List FnE) : Option IE → TT
  | none => tYes
  | some c => tT X W fun e => asBool (den L c e)
section
variable {X : Cx} {W : WX} {L : List FnE} {σ : Sg} {H : Hp}
structure CInv (K : Frag) (Z1 H0 : Hp) (F1 : List Addr) (D : Addr) (vs : List Nat) (σ : Sg) (Z' H' : Hp) (e' : Ve) (F' : List Addr) (xs : List V) (acc : List O) (P' : List Addr) : Prop where
  ext : Ext Z1 H0 F1 Z' H' (F' ++ D :: P')
  same : Same Z' H'
  rel : Rel K Z' H' (wipe σ vs) (wipeE e' vs) F'
  nd : (F' ++ D :: P').Nodup
  atD : H' D = some (.lst xs)
  zD : Z' D = none
  ors : ORs K Z' H' xs acc P'
theorem condG {cond : Option IE} {σ2 : Sg} {Z H : Hp} {F : List Addr} {e : Ve} {b : Bool} {e2 : Ve} {Q : Bool → Hp → Prop} (s : Sts X.K Z H σ2 e F) (h : denC L cond e = .ok b e2) (q : ∀ H2, (∃ Z2 F2, Step X.K σ2 Z H F Z2 H2 e2 F2 []) → Q b H2) : tYN X W L cond σ2 H Q := by
  cases cond with
  | none =>
    simp only [denC] at h
    cases h
    exact q H ⟨Z, F, .refl s⟩
  | some c =>
    simp only [denC] at h
    refine ⟨Z, e, F, s, ?_⟩
    simp only [h, outG]
    intro x H' ⟨ex, Z2, F2, st⟩
    subst ex
    exact q H' ⟨Z2, F2, st⟩
theorem elt_ok {elt : IE} {σ2 : Sg} {Z H : Hp} {F : List Addr} {e e3 : Ve} {o : O} {Q : VK} (s : Sts X.K Z H σ2 e F) (h : den L elt e = .ok o e3) (q : ∀ x H2, EndE X.K σ2 Z H F e3 x o H2 → Q x H2) : tR X W (den L elt) σ2 H Q := by
  refine ⟨Z, e, F, s, ?_⟩
  simp only [h, outG]
  exact q
theorem lc_go {elt : IE} {tg : Tgt} {it : Iter} {cond : Option IE} {Q : VK} (h : tR X W (den L (.comp elt tg it cond)) σ H Q) : tLc (tI X W (denI L it)) (gT X.K tg) (tYN X W L cond) (tR X W (den L elt)) tg.slots σ H Q := by
  obtain ⟨Z, e, F, s, h⟩ := h
  refine ⟨Z, e, F, s, ?_⟩
  simp only [den] at h
  cases q : denI L it e with
  | err c d e1 => simp only [q, Res.bind, outG] at h; exact h
  | stuck => simp only [q, Res.bind, outG] at h
  | ok ds e1 =>
    simp only [q, Res.bind] at h
    simp only [outG]
    intro J H1 ⟨Z1, F1, st, itd⟩ D hD
    have st0 := st.sts
    have sm1 := st.same
    obtain ⟨vs, hvs⟩ : ∃ vs, vs = tg.slots := ⟨_, rfl⟩
    rw [← hvs] at h ⊢
    refine ⟨fun i m H' => m = ds.length - i ∧ i ≤ ds.length ∧ ∃ Z' e' F' xs acc P', CInv X.K Z1 H1 F1 D vs σ Z' H' e' F' xs acc P' ∧
      outG X W EndE σ Z H F Q ((compGo tg (fun e => denC L cond e) (fun e => den L elt e) (ds.drop i) acc e').bind fun os e2 => .ok (.own os) (backE e1 (wipeE e2 vs) vs)), ⟨ds.length, rfl, Nat.zero_le _, ?_⟩, ?_⟩
    · obtain ⟨f, G, r, pm⟩ := rel_wipe (vs := vs) st0.rel
      have ndG := nodup_parts st0.nd pm
      refine ⟨Z1, e1, G, [], [], [], ⟨⟨same_refl _, fun a o e _ => same_upd hD a o e, fun a o e => .inl ⟨o, e⟩, fun a m => ?_, fun a xs e => same_upd hD a _ e⟩, same_trans sm1 (same_upd hD), ?_, ?_, upd_same, fresh_z sm1 hD, .nil⟩, ?_⟩
      · rcases List.mem_append.mp m with m | m
        · exact .inl (pm.mem_iff.mpr (List.mem_append_right _ m))
        · rw [List.mem_singleton] at m
          exact .inr (m ▸ hD)
      · exact Rel.keep (same_refl _) (fun a xs e => same_upd hD a _ e) r fun a m => by
          obtain ⟨⟨l, e⟩, z⟩ := r.mem a m
          exact ⟨(same_upd hD a _ e).trans e.symm, z⟩
      · rw [List.nodup_append]
        refine ⟨ndG.2.1, List.nodup_cons.mpr ⟨by simp, List.nodup_nil⟩, fun a m b mb eq => ?_⟩
        rw [List.mem_singleton] at mb
        obtain ⟨⟨l, e⟩, z⟩ := r.mem a m
        rw [eq, mb, hD] at e
        cases e
      · simpa [Res.bind] using h
    · rintro i m H' ⟨rfl, hi, Z', e', F', xs, acc, P', C, hq⟩
      have s1 : Same Z1 H' := same_trans C.ext.zz C.same
      by_cases hlt : i < ds.length
      · right
        have hd : ds[i]? = some ds[i] := List.getElem?_eq_getElem hlt
        have edrop : ds.drop i = ds[i] :: ds.drop (i + 1) := List.drop_eq_getElem_cons hlt
        refine ⟨itd.go i H' _ s1 hd, ?_⟩
        rw [edrop] at hq
        unfold compGo at hq
        refine ⟨fun H'' => ∃ Z'' e'' F'' ys ac P'', CInv X.K Z1 H1 F1 D vs σ Z'' H'' e'' F'' ys ac P'' ∧
          outG X W EndE σ Z H F Q ((compGo tg (fun e => denC L cond e) (fun e => den L elt e) (ds.drop (i + 1)) ac e'').bind fun os e2 => .ok (.own os) (backE e1 (wipeE e2 vs) vs)),
          fun H'' ⟨Z'', e'', F'', ys, ac, P'', C2, h2⟩ => ⟨ds.length - (i + 1), by omega, rfl, hlt, Z'', e'', F'', ys, ac, P'', C2, h2⟩, ?_⟩
        intro x H2 hy
        obtain ⟨Z2, x2, sm2, dx⟩ := itd.yld i H' _ x H2 s1 hd hy Z' C.ext.zz C.same
        rw [← hvs] at hq
        cases q1 : tg.put ds[i] (wipeE e' vs) with
        | none => rw [q1] at hq; exact hq.elim
        | some ea =>
          rw [q1] at hq
          simp only at hq
          have ndP := List.nodup_append.mp C.nd
          have apD := apart_of C.nd
          have r2 : Rel X.K Z2 H2 (wipe σ vs) (wipeE e' vs) F' := Rel.keep x2.zz x2.tu C.rel fun a m => let ⟨⟨l, q⟩, z⟩ := C.rel.mem a m; x2.at q z (by simp)
          refine gT_go sm2 r2 q1 dx fun σ2 G sd => ?_
          have ew : wipe σ2 vs = wipe (wipe σ vs) vs := wipe_eq sd.len fun j m => sd.out j (by rw [← hvs]; exact m)
          refine ⟨by rw [ew, wipe_idem], ?_⟩
          obtain ⟨f, pmG⟩ := sd.perm
          have ndG := nodup_parts ndP.1 pmG
          have subG : ∀ a ∈ G, a ∈ F' := fun a m => pmG.mem_iff.mpr (List.mem_append_right _ m)
          have ss2 : Sts X.K Z2 H2 σ2 ea G := ⟨sm2, sd.rel, ndG.2.1⟩
          have at2 : H2 D = some (.lst xs) ∧ Z2 D = none := by
            obtain ⟨a1, a2⟩ := x2.at C.atD C.zD (by simp)
            exact ⟨a1.trans C.atD, a2⟩
          have or2 := x2.ors C.ors (fun a m => by simp)
          have nd2 : (G ++ D :: P').Nodup := by
            rw [List.nodup_append]
            exact ⟨ndG.2.1, ndP.2.1, fun a m b mb => ndP.2.2 a (subG a m) b mb⟩
          have ex2 : Ext Z1 H1 F1 Z2 H2 (G ++ D :: P') := by
            refine (C.ext.trans (x2.lift (F := F' ++ D :: P')) fun a m => m).sub fun a m => ?_
            rcases List.mem_append.mp m with m | m
            · exact List.mem_append_left _ (subG a m)
            · exact List.mem_append_right _ m
          cases q2 : denC L cond ea with
          | err c d e2 => simp only [q2] at hq; exact hq.elim
          | stuck => simp only [q2] at hq; exact hq.elim
          | ok b e2 =>
            simp only [q2] at hq
            refine condG ss2 q2 fun H3 ⟨Z3, F3, st3⟩ => ?_
            have at3 := st3.ext.at at2.1 at2.2 (fun m => apart_of nd2 D (List.mem_cons_self ..) m)
            have at3' : H3 D = some (.lst xs) := at3.1.trans at2.1
            have or3 := st3.ext.ors or2 fun a m z => apart_of nd2 a (List.mem_cons_of_mem _ m) z
            have st_2 : ∀ a ∈ D :: P', ∃ o, H2 a = some o := fun a m => (List.mem_cons.mp m).elim (fun z => z ▸ ⟨_, at2.1⟩) fun z => st_of (Z := Z2) (ORs.mem or2) a z
            have ext3 : Ext Z2 H2 G Z3 H3 F3 := st3.ext.sub fun a m => List.mem_append_left _ m
            have nd3 : (F3 ++ D :: P').Nodup := ext3.nd nd2 st_2 st3.sts.nd
            have ex3 : Ext Z1 H1 F1 Z3 H3 (F3 ++ D :: P') := ex2.pend ext3
            have ewS : ∀ {Z3 H3 : Hp} {e3 : Ve} {F3 : List Addr}, Rel X.K Z3 H3 σ2 e3 F3 → ∃ f G, Rel X.K Z3 H3 (wipe σ vs) (wipeE e3 vs) G ∧ F3.Perm (f ++ G) := fun {Z3 H3 e3 F3} r => by
              have w := rel_wipe (vs := vs) r
              rw [ew, wipe_idem] at w
              exact w
            cases b with
            | false =>
              rw [if_neg (by decide)]
              obtain ⟨f3, G3, r3, pm3⟩ := ewS st3.rel
              have sub3 : ∀ a ∈ G3, a ∈ F3 := fun a m => pm3.mem_iff.mpr (List.mem_append_right _ m)
              refine ⟨Z3, e2, G3, xs, acc, P', ⟨ex3.sub fun a m => ?_, st3.same, r3, ?_, at3', at3.2, or3⟩, hq⟩
              · rcases List.mem_append.mp m with m | m
                · exact List.mem_append_left _ (sub3 a m)
                · exact List.mem_append_right _ m
              · have n3 := List.nodup_append.mp nd3
                rw [List.nodup_append]
                exact ⟨(nodup_parts n3.1 pm3).2.1, n3.2.1, fun a m b mb => n3.2.2 a (sub3 a m) b mb⟩
            | true =>
              rw [if_pos rfl]
              cases q3 : den L elt e2 with
              | err c d e3 => simp only [q3] at hq; exact hq.elim
              | stuck => simp only [q3] at hq; exact hq.elim
              | ok o e3 =>
                simp only [q3] at hq
                by_cases hz : acc.length < sizeLine
                · rw [if_pos hz] at hq
                  refine elt_ok st3.sts q3 fun y H4 ⟨Z4, F4, P4, st4, r4⟩ => ?_
                  have at4 := st4.ext.at at3' at3.2 (fun m => apart_of nd3 D (List.mem_cons_self ..) m)
                  have at4' : H4 D = some (.lst xs) := at4.1.trans at3'
                  have or4 := st4.ext.ors or3 fun a m z => apart_of nd3 a (List.mem_cons_of_mem _ m) z
                  have st_3 : ∀ a ∈ D :: P', ∃ o, H3 a = some o := fun a m => (List.mem_cons.mp m).elim (fun z => z ▸ ⟨_, at3'⟩) fun z => st_of (Z := Z3) (ORs.mem or3) a z
                  have nd4 : ((F4 ++ P4) ++ D :: P').Nodup := st4.ext.nd nd3 st_3 st4.nd
                  have ex4 : Ext Z1 H1 F1 Z4 H4 ((F4 ++ P4) ++ D :: P') := ex3.pend st4.ext
                  have hlen : xs.length = acc.length := or4.length
                  refine ⟨xs, at4', by rw [hlen]; exact hz, ?_⟩
                  obtain ⟨f4, G4, r4', pm4⟩ := ewS st4.rel
                  have sub4 : ∀ a ∈ G4, a ∈ F4 := fun a m => pm4.mem_iff.mpr (List.mem_append_right _ m)
                  have n4 := List.nodup_append.mp nd4
                  have n4a := List.nodup_append.mp n4.1
                  have Dn : ∀ a, a ∈ F4 ++ P4 → a ≠ D := fun a m z => n4.2.2 a m D (List.mem_cons_self ..) z
                  have DP : D ∉ P' := (List.nodup_cons.mp n4.2.1).1
                  have up : ∀ a, a ≠ D → upd H4 D (.lst (xs ++ [y])) a = H4 a := fun a z => upd_ne z
                  have tups : ∀ a l, H4 a = some (.tup l) → upd H4 D (.lst (xs ++ [y])) a = some (.tup l) := fun a l q => by
                    rw [up a fun z => by rw [z, at4'] at q; cases q]
                    exact q
                  have zkeep : ∀ a ∈ F4 ++ P4, upd H4 D (.lst (xs ++ [y])) a = H4 a := fun a m => up a (Dn a m)
                  have memP4 := OR.mem r4
                  have inF1 : ∀ a u, H1 a = some u → a ∉ F1 → a ≠ D := fun a u q m z => by rw [z, hD] at q; cases q
                  refine ⟨Z4, e3, G4, xs ++ [y], acc ++ [o], P' ++ P4, ⟨?_, ?_, ?_, ?_, upd_same, at4.2, ?_⟩, hq⟩
                  · refine ⟨ex4.zz, fun a u q m => (up a (inF1 a u q m)).trans (ex4.fr a u q m), ex4.zn, fun a m => ex4.gn a ?_, fun a l q => tups a l (ex4.tu a l q)⟩
                    rcases List.mem_append.mp m with m | m
                    · exact List.mem_append_left _ (List.mem_append_left _ (sub4 a m))
                    · rcases List.mem_cons.mp m with m | m
                      · exact List.mem_append_right _ (m ▸ List.mem_cons_self ..)
                      · rcases List.mem_append.mp m with m | m
                        · exact List.mem_append_right _ (List.mem_cons_of_mem _ m)
                        · exact List.mem_append_left _ (List.mem_append_right _ m)
                  · intro a u q
                    rw [up a fun z => by rw [z, at4.2] at q; cases q]
                    exact st4.same a u q
                  · exact Rel.keep (same_refl _) tups r4' fun a m => ⟨zkeep a (List.mem_append_left _ (sub4 a m)), (r4'.mem a m).2⟩
                  · have pmx : (G4 ++ D :: (P' ++ P4)).Perm ((G4 ++ P4) ++ D :: P') := by
                      rw [List.append_assoc]
                      refine List.Perm.append_left G4 ?_
                      exact (List.perm_append_comm (l₁ := D :: P') (l₂ := P4))
                    rw [pmx.nodup_iff, List.nodup_append]
                    refine ⟨?_, n4.2.1, fun a m b mb => n4.2.2 a ?_ b mb⟩
                    · rw [List.nodup_append]
                      exact ⟨(nodup_parts n4a.1 pm4).2.1, n4a.2.1, fun a m b mb => n4a.2.2 a (sub4 a m) b mb⟩
                    · rcases List.mem_append.mp m with m | m
                      · exact List.mem_append_left _ (sub4 a m)
                      · exact List.mem_append_right _ m
                  · have o1 : ORs X.K Z4 (upd H4 D (.lst (xs ++ [y]))) xs acc P' := ORs.keep (same_refl _) tups or4 fun a m => ⟨up a fun z => DP (z ▸ m), (ORs.mem or4 a m).2⟩
                    have o2 : OR X.K Z4 (upd H4 D (.lst (xs ++ [y]))) y o P4 := OR.keep (same_refl _) tups r4 fun a m => ⟨zkeep a (List.mem_append_right _ m), (memP4 a m).2⟩
                    have := o1.app (.cons o2 .nil)
                    rwa [List.append_nil] at this
                · rw [if_neg hz] at hq; exact hq.elim
      · left
        have ei : ds.drop i = [] := List.drop_eq_nil_of_le (by omega)
        refine ⟨itd.stop i H' s1 (by omega), ?_⟩
        rw [ei] at hq
        unfold compGo at hq
        simp only [Res.bind, outG] at hq
        have nd' := List.nodup_append.mp C.nd
        have r5 : Rel X.K Z' H' σ (wipeE e' vs) F' := by
          refine rel_swap C.rel (wipe_length _ _).symm fun j => ?_
          by_cases m : j ∈ vs
          · by_cases g : j < e'.length
            · exact .inl (wipeE_in m g)
            · refine .inr ?_
              have := C.rel.len
              rw [wipe_length, wipeE_len] at this
              rw [List.getElem?_eq_none (by omega), List.getElem?_eq_none (by rw [wipe_length]; omega)]
          · exact .inr (wipe_out m).symm
        have r6 : Rel X.K Z' H' σ (backE e1 (wipeE e' vs) vs) F' := by
          refine rel_back (fun v d hv => ?_) r5 fun v m o ho => ?_
          · obtain ⟨x, f, G, a1, a2, _⟩ := st0.rel.get (look_some hv)
            cases a2 with
            | v dr => exact ⟨x, a1, Dr.sub C.ext.zz dr⟩
          · by_cases g : v < e'.length
            · rw [wipeE_in m g] at ho
              cases ho
              exact .inl rfl
            · rw [List.getElem?_eq_none (by rw [wipeE_len]; omega)] at ho
              cases ho
        refine hq (.ref D) H' ⟨Z', F', D :: P', ⟨?_, C.same, r6, C.nd⟩, .own C.atD C.zD C.ors⟩
        exact (st.ext.sub fun a m => List.mem_append_left _ m).trans C.ext fun a m => m
end
end Ev
set_option Elab.async false
set_option linter.all false
set_option maxRecDepth 100000
/-! Ev14: statements: what one leaves; stores. -/
namespace Ev
open PySem PySem.Spec PyProof.Rows L2

/-- slot 0 of a def that changes its first argument is never stored to -/
def Sam (io : Bool) (σ σ' : Sg) : Prop := io = true → σ'[0]? = σ[0]?
theorem Sam.refl {io : Bool} {σ : Sg} : Sam io σ σ := fun _ => rfl
theorem Sam.trans {io : Bool} {σ σ1 σ2 : Sg} (a : Sam io σ σ1) (b : Sam io σ1 σ2) : Sam io σ σ2 := fun h => (b h).trans (a h)
/-- what is asked behind a statement -/
def outS (X : Cx) (io : Bool) (σ : Sg) (Z H : Hp) (F : List Addr) (D : Ends) (r : SRes) : Prop := match r with
  | .next e' => ∀ σ' H', Sam io σ σ' → (∃ Z' F', Step X.K σ' Z H F Z' H' e' F' []) → D.nx σ' H'
  | .brk e' => ∀ σ' H', Sam io σ σ' → (∃ Z' F', Step X.K σ' Z H F Z' H' e' F' []) → D.bk σ' H'
  | .ret o e' => ∀ x σ' H', Sam io σ σ' → EndE X.K σ' Z H F e' x o H' → D.rt x H'
  | _ => False
def tS (X : Cx) (io : Bool) (m : Ve → SRes) : TS := fun D σ H => ∃ Z e F, Sts X.K Z H σ e F ∧ outS X io σ Z H F D (m e)
section
variable {X : Cx} {W : WX} {L : List FnE} {io : Bool} {K : Frag} {σ σ1 σ2 : Sg} {Z Z1 Z2 H H1 H2 : Hp} {F F1 F2 P P1 P2 : List Addr} {e e1 e2 : Ve} {D : Ends}
theorem Step.sig (a : Step K σ Z H F Z1 H1 e1 F1 P) (r : Rel K Z1 H1 σ2 e1 F1) : Step K σ2 Z H F Z1 H1 e1 F1 P := ⟨a.ext, a.same, r, a.nd⟩
/-- a step from a later state, seen from the first one -/
theorem Step.thn (a : Step K σ1 Z H F Z1 H1 e1 F1 []) (b : Step K σ2 Z1 H1 F1 Z2 H2 e2 F2 P) : Step K σ2 Z H F Z2 H2 e2 F2 P :=
  ⟨a.ext.trans b.ext fun x m => List.mem_append_left _ m, b.same, b.rel, b.nd⟩
theorem outS_of {r : SRes} (a : Step X.K σ1 Z H F Z1 H1 e1 F1 []) (sm : Sam io σ σ1) (h : outS X io σ Z H F D r) : outS X io σ1 Z1 H1 F1 D r := by
  cases r with
  | next e' => exact fun σ' H' s ⟨Z', F', st⟩ => h σ' H' (sm.trans s) ⟨Z', F', a.thn st⟩
  | brk e' => exact fun σ' H' s ⟨Z', F', st⟩ => h σ' H' (sm.trans s) ⟨Z', F', a.thn st⟩
  | ret o e' => exact fun x σ' H' s ⟨Z', F', P, st, r⟩ => h x σ' H' (sm.trans s) ⟨Z', F', P, a.thn st, r⟩
  | err c d e' => exact h
  | stuck => exact h
theorem outS_seq {r : SRes} {k : Ve → SRes} (h : outS X io σ Z H F D (r.seq k)) : outS X io σ Z H F { D with nx := fun σ' H' => ∃ Z' e' F', Sts X.K Z' H' σ' e' F' ∧ outS X io σ' Z' H' F' D (k e') } r := by
  cases r with
  | next e' => exact fun σ' H' s ⟨Z', F', st⟩ => ⟨Z', e', F', st.sts, outS_of st s h⟩
  | brk e' => exact h
  | ret o e' => exact h
  | err c d e' => exact h
  | stuck => exact h
theorem sss_nil : PSs X [] (tS X io (exs L io [])) := pss_nil.up fun D σ H ⟨Z, e, F, s, h⟩ => by
  simp only [exs] at h
  exact h σ H .refl ⟨Z, F, .refl s⟩
theorem sss_cons {st : Stmt} {r : List Stmt} {i : IS} {is : List IS} (h1 : PS X st (tS X io (ex1 L io i))) (h2 : PSs X r (tS X io (exs L io is))) : PSs X (st :: r) (tS X io (exs L io (i :: is))) :=
  (pss_cons h1 h2).up fun D σ H ⟨Z, e, F, s, h⟩ => ⟨Z, e, F, s, by
    simp only [exs] at h
    exact outS_seq h⟩
/-- an expression, then what is done with it -/
theorem tS_expr {m : Ve → Res O} {k : O → Ve → SRes} (h : tS X io (fun v => (m v).st k) D σ H) : tR X W m σ H fun x H1 => ∃ Z F Z1 e1 F1 P o, outS X io σ Z H F D (k o e1) ∧ Step X.K σ Z H F Z1 H1 e1 F1 P ∧ OR X.K Z1 H1 x o P := by
  obtain ⟨Z, e, F, s, h⟩ := h
  refine ⟨Z, e, F, s, ?_⟩
  cases q : m e with
  | err c d e1 => simp only [q, Res.st] at h; exact h.elim
  | stuck => simp only [q, Res.st] at h; exact h.elim
  | ok o e1 =>
    simp only [q, Res.st] at h
    simp only [outG]
    intro x H1 ⟨Z1, F1, P, st, r⟩
    exact ⟨Z, F, Z1, e1, F1, P, o, h, st, r⟩
theorem ss_pass {pos : Pos} : PS X (.Pass pos) (tS X io (ex1 L io .pass)) := ps_pass.up fun D σ H ⟨Z, e, F, s, h⟩ => by
  simp only [ex1] at h
  exact h σ H .refl ⟨Z, F, .refl s⟩
theorem ss_brk {pos : Pos} : PS X (.Break pos) (tS X io (ex1 L io .brk)) := ps_break.up fun D σ H ⟨Z, e, F, s, h⟩ => by
  simp only [ex1] at h
  exact h σ H .refl ⟨Z, F, .refl s⟩
theorem ss_doc {x j} {pos pos' : Pos} : PS X (.Expr (.Constant (.str x) j pos) pos') (tS X io (ex1 L io .pass)) := ps_doc.up fun D σ H ⟨Z, e, F, s, h⟩ => by
  simp only [ex1] at h
  exact h σ H .refl ⟨Z, F, .refl s⟩
theorem ss_never {st : Stmt} {c : Str} {a : IE} : PS X st (tS X io (ex1 L io (.raise c a))) := ps_never.up fun D σ H ⟨Z, e, F, s, h⟩ => by
  simp only [ex1] at h
  exact h
theorem ss_ret {ex : Expr} {pos : Pos} {a : IE} (h : PE X ex (tR X W (den L a))) : PS X (.Return (some ex) pos) (tS X io (ex1 L io (.ret a))) := (ps_ret h).up fun D σ H q => by
  have q2 : tS X io (fun v => (den L a v).st fun o v1 => .ret o v1) D σ H := by
    obtain ⟨Z, e, F, s, q⟩ := q
    refine ⟨Z, e, F, s, ?_⟩
    simp only [ex1] at q
    exact q
  obtain ⟨Z, e, F, s, g⟩ := tS_expr (W := W) q2
  refine ⟨Z, e, F, s, ?_⟩
  cases q3 : den L a e with
  | err c d e1 => simp only [q3, outG] at g ⊢; exact g
  | stuck => simp only [q3, outG] at g
  | ok o e1 =>
    simp only [q3, outG] at g ⊢
    intro x H1 en
    obtain ⟨Z', F', Z1, e1', F1, P, o', w, st, r⟩ := g x H1 en
    exact w x σ H1 .refl ⟨Z1, F1, P, st, r⟩
theorem tR_mono {m : Ve → Res O} {Q Q' : VK} (h : tR X W m σ H Q) (k : ∀ x H', Q x H' → Q' x H') : tR X W m σ H Q' := by
  obtain ⟨Z, e, F, s, g⟩ := h
  refine ⟨Z, e, F, s, ?_⟩
  cases q3 : m e with
  | err c d e1 => simp only [q3, outG] at g ⊢; exact g
  | stuck => simp only [q3, outG] at g
  | ok o e1 =>
    simp only [q3, outG] at g ⊢
    exact fun x H1 en => k x H1 (g x H1 en)
theorem ss_retN {pos : Pos} : PS X (.Return none pos) (tS X io (ex1 L io .retN)) := ps_retN.up fun D σ H ⟨Z, e, F, s, h⟩ => by
  simp only [ex1] at h
  exact h .non σ H .refl ⟨Z, F, [], .refl s, .v .non⟩
theorem ss_ex {ex : Expr} {pos : Pos} {a : IE} (h : PE X ex (tR X W (den L a))) (hs : swapsWith ex none pos.line X.env = pure false) : PS X (.Expr ex pos) (tS X io (ex1 L io (.ex a))) := (ps_expr h hs).up fun D σ H q => by
  have q2 : tS X io (fun v => (den L a v).st fun _ v1 => .next v1) D σ H := by
    obtain ⟨Z, e, F, s, q⟩ := q
    refine ⟨Z, e, F, s, ?_⟩
    simp only [ex1] at q
    exact q
  exact tR_mono (tS_expr (W := W) q2) fun x H1 ⟨Z, F, Z1, e1, F1, P, o, w, st, r⟩ => w σ H1 .refl ⟨Z1, F1, st.drop⟩
theorem ss_if {c : Expr} {a b : List Stmt} {ic : IE} {ia ib : List IS} {pos : Pos} (hc : PT X c (tT X W fun e => asBool (den L ic e))) (ha : PSs X a (tS X io (exs L io ia))) (hb : PSs X b (tS X io (exs L io ib))) :
    PS X (.If c a b pos) (tS X io (ex1 L io (.ite ic ia ib))) := (ps_if hc ha hb).up fun D σ H ⟨Z, e, F, s, h⟩ => by
  refine ⟨Z, e, F, s, ?_⟩
  simp only [ex1] at h
  show outG _ _ _ _ _ _ _ _ (asBool (den L ic e))
  cases q : asBool (den L ic e) with
  | err c d e1 => simp only [q, Res.st] at h; exact h.elim
  | stuck => simp only [q, Res.st] at h; exact h.elim
  | ok t e1 =>
    simp only [q, Res.st] at h
    simp only [outG]
    intro x H1 ⟨ex, Z1, F1, st⟩
    subst ex
    cases x with
    | true =>
      rw [if_pos rfl] at h ⊢
      exact ⟨Z1, e1, F1, st.sts, outS_of st .refl h⟩
    | false =>
      rw [if_neg (by decide)] at h ⊢
      exact ⟨Z1, e1, F1, st.sts, outS_of st .refl h⟩
/-! ### loops -/
theorem ss_for {tg iter : Expr} {body : List Stmt} {t : Tgt} {it : Iter} {ib : List IS} {pos : Pos} (hp : PassesOwn (model X.prog X.w) X.A X.env X.xe) (hc : X.calm = true) (hi : PI X tg iter (tI X W (denI L it))) (hg : PG X tg (gT X.K t)) (hb : PSs X body (tS X io (exs L io ib)))
    (hs : ∀ x, foldedSetIterable iter X.env x = pure x) : PS X (.For tg iter body [] pos) (tS X io (ex1 L io (.for t it ib))) := (ps_for hp hc hi hg hb hs).up fun D σ H ⟨Z, e, F, s, h⟩ => by
  refine ⟨Z, e, F, s, ?_⟩
  simp only [ex1] at h
  cases q : denI L it e with
  | err c d e1 => simp only [q, Res.st] at h; exact h.elim
  | stuck => simp only [q, Res.st] at h; exact h.elim
  | ok ds e1 =>
    simp only [q, Res.st] at h
    simp only [outG]
    intro J H1 ⟨Z1, F1, st, itd⟩
    refine ⟨fun i m σ' H' => m = ds.length - i ∧ i ≤ ds.length ∧ ∃ Z' e' F', Sts X.K Z' H' σ' e' F' ∧ Same Z1 Z' ∧ outS X io σ' Z' H' F' D (forGo io t (fun e => exs L io ib e) (ds.drop i) e'), ⟨ds.length, rfl, Nat.zero_le _, Z1, e1, F1, st.sts, same_refl _, by simpa using outS_of st .refl h⟩, ?_⟩
    rintro i m σ2 H2 ⟨rfl, hi, Z2, e2, F2, s2, z2, h2⟩
    have sz : Same Z1 H2 := same_trans z2 s2.same
    by_cases hlt : i < ds.length
    · right
      have hd : ds[i]? = some ds[i] := List.getElem?_eq_getElem hlt
      rw [List.drop_eq_getElem_cons hlt] at h2
      unfold forGo at h2
      refine ⟨itd.go i H2 _ sz hd, fun σ' H' => ∃ Z' e' F', Sts X.K Z' H' σ' e' F' ∧ Same Z1 Z' ∧ outS X io σ' Z' H' F' D (forGo io t (fun e => exs L io ib e) (ds.drop (i + 1)) e'), fun σ' H' ⟨Z', e', F', a, b, c⟩ => ⟨ds.length - (i + 1), by omega, rfl, hlt, Z', e', F', a, b, c⟩, ?_⟩
      intro x H3 hy
      obtain ⟨Z3, x3, sm3, dx⟩ := itd.yld i H2 _ x H3 sz hd hy Z2 z2 s2.same
      have s3 := x3.sts sm3 s2
      cases q1 : putT io t ds[i] e2 with
      | none => rw [q1] at h2; exact h2.elim
      | some ea =>
        rw [q1] at h2
        simp only at h2
        have q2 : t.put ds[i] e2 = some ea ∧ (io && t.slots.contains 0) = false := by
          unfold putT at q1
          cases c : (io && t.slots.contains 0) with
          | true => rw [c] at q1; cases q1
          | false => rw [c] at q1; exact ⟨q1, rfl⟩
        refine gT_go sm3 s3.rel q2.1 dx fun σ4 G sd => ?_
        obtain ⟨f, pm⟩ := sd.perm
        have nd4 := nodup_parts s3.nd pm
        have s4 : Sts X.K Z3 H3 σ4 ea G := ⟨sm3, sd.rel, nd4.2.1⟩
        have sam : Sam io σ2 σ4 := fun hio => sd.out 0 fun z => by
          have := q2.2
          rw [hio, Bool.true_and] at this
          rw [List.contains_iff_mem.mpr z] at this
          cases this
        have st4 : Step X.K σ4 Z2 H2 F2 Z3 H3 ea G [] := ⟨(x3.lift (F := F2)).sub fun a m => pm.mem_iff.mpr (List.mem_append_right _ (by simpa using m)), sm3, sd.rel, by simpa using nd4.2.1⟩
        refine ⟨Z3, ea, G, s4, ?_⟩
        have z13 : Same Z1 Z3 := same_trans z2 x3.zz
        cases q3 : exs L io ib ea with
        | next e5 =>
          simp only [q3] at h2
          exact fun σ5 H5 sm5 ⟨Z5, F5, st5⟩ => ⟨Z5, e5, F5, st5.sts, same_trans z13 st5.ext.zz, outS_of (st4.thn st5) (sam.trans sm5) h2⟩
        | brk e5 =>
          simp only [q3] at h2
          exact fun σ5 H5 sm5 ⟨Z5, F5, st5⟩ => h2 σ5 H5 (sam.trans sm5) ⟨Z5, F5, st4.thn st5⟩
        | ret o e5 =>
          simp only [q3] at h2
          exact fun x5 σ5 H5 sm5 ⟨Z5, F5, P5, st5, r5⟩ => h2 x5 σ5 H5 (sam.trans sm5) ⟨Z5, F5, P5, st4.thn st5, r5⟩
        | err c d e5 => simp only [q3] at h2; exact h2.elim
        | stuck => simp only [q3] at h2; exact h2.elim
    · left
      rw [List.drop_eq_nil_of_le (by omega)] at h2
      unfold forGo at h2
      exact ⟨itd.stop i H2 sz (by omega), h2 σ2 H2 .refl ⟨Z2, F2, .refl s2⟩⟩
theorem ss_whl {c : Expr} {body : List Stmt} {ic : IE} {ib : List IS} {pos : Pos} (hp : PassesOwn (model X.prog X.w) X.A X.env X.xe) (hc : PT X c (tT X W fun e => asBool (den L ic e))) (hb : PSs X body (tS X io (exs L io ib))) :
    PS X (.While c body [] pos) (tS X io (ex1 L io (.whl ic ib))) := (ps_while hp hc hb).up fun D σ H ⟨Z, e, F, s, h⟩ => by
  simp only [ex1] at h
  refine ⟨fun m σ' H' => ∃ Z' e' F', Sts X.K Z' H' σ' e' F' ∧ outS X io σ' Z' H' F' D (whlGo (fun e => asBool (den L ic e)) (fun e => exs L io ib e) m e'), ⟨fuel, Z, e, F, s, h⟩, ?_⟩
  rintro m σ1 H1 ⟨Z1, e1, F1, s1, h1⟩
  refine ⟨Z1, e1, F1, s1, ?_⟩
  cases m with
  | zero => unfold whlGo at h1; exact h1.elim
  | succ m =>
    unfold whlGo at h1
    show outG _ _ _ _ _ _ _ _ (asBool (den L ic e1))
    cases q : asBool (den L ic e1) with
    | err c d e1 => simp only [q] at h1; exact h1.elim
    | stuck => simp only [q] at h1; exact h1.elim
    | ok t e2 =>
      simp only [q] at h1
      simp only [outG]
      intro x H2 ⟨ex, Z2, F2, st2⟩
      subst ex
      cases x with
      | false =>
        rw [if_neg (by decide)]
        simp only at h1
        exact h1 σ1 H2 .refl ⟨Z2, F2, st2⟩
      | true =>
        rw [if_pos rfl]
        simp only at h1
        refine ⟨fun σ' H' => ∃ Z' e' F', Sts X.K Z' H' σ' e' F' ∧ outS X io σ' Z' H' F' D (whlGo (fun e => asBool (den L ic e)) (fun e => exs L io ib e) m e'), fun σ' H' w => ⟨m, Nat.lt_succ_self m, w⟩, Z2, e2, F2, st2.sts, ?_⟩
        cases q3 : exs L io ib e2 with
        | next e5 =>
          simp only [q3] at h1
          exact fun σ5 H5 sm5 ⟨Z5, F5, st5⟩ => ⟨Z5, e5, F5, st5.sts, outS_of (st2.thn st5) sm5 h1⟩
        | brk e5 =>
          simp only [q3] at h1
          exact fun σ5 H5 sm5 ⟨Z5, F5, st5⟩ => h1 σ5 H5 sm5 ⟨Z5, F5, st2.thn st5⟩
        | ret o e5 =>
          simp only [q3] at h1
          exact fun x5 σ5 H5 sm5 ⟨Z5, F5, P5, st5, r5⟩ => h1 x5 σ5 H5 sm5 ⟨Z5, F5, P5, st2.thn st5, r5⟩
        | err c d e5 => simp only [q3] at h1; exact h1.elim
        | stuck => simp only [q3] at h1; exact h1.elim
end
end Ev
set_option Elab.async false
set_option linter.all false
set_option maxRecDepth 100000
/-! Ev15: lists written to. -/
namespace Ev
open PySem PySem.Spec PyProof.Rows L2

section
variable {X : Cx} {W : WX} {L : List FnE} {io : Bool} {K : Frag} {σ σ1 σ2 : Sg} {Z Z1 Z2 H H1 H2 : Hp} {F F1 F2 P P1 P2 : List Addr} {e e1 e2 : Ve} {D : Ends}
/-- an owned list written to: the things G, P lie apart -/
theorem write_own {a : Addr} {vs ws : List V} {i : Nat} {os2 : List O} {R G : List Addr} (st : Step K σ Z H F Z1 H1 e1 F1 P) (hx : σ[i]? = some (some (.ref a))) (ea : H1 a = some (.lst vs)) (za : Z1 a = none)
    (rg : Rel K Z1 H1 σ (e1.set i none) G) (nd : (a :: (R ++ G)).Nodup) (sub : ∀ b ∈ R ++ G, b ∈ F1 ++ P) (ma : a ∈ F1) (ro : ORs K Z1 H1 ws os2 R) : Step K σ Z H F Z1 (upd H1 a (.lst ws)) (e1.set i (some (.own os2))) (a :: (R ++ G)) [] := by
  have nr := List.nodup_cons.mp nd
  have up : ∀ b, b ≠ a → upd H1 a (.lst ws) b = H1 b := fun b z => upd_ne z
  have tups : ∀ b l, H1 b = some (.tup l) → upd H1 a (.lst ws) b = some (.tup l) := fun b l q => by
    rw [up b fun z => by rw [z, ea] at q; cases q]
    exact q
  have ro2 : ORs K Z1 (upd H1 a (.lst ws)) ws os2 R := ORs.keep (same_refl _) tups ro fun b m => ⟨up b fun z => nr.1 (z ▸ List.mem_append_left _ m), (ORs.mem ro b m).2⟩
  have rg2 : Rel K Z1 (upd H1 a (.lst ws)) σ (e1.set i none) G := Rel.keep (same_refl _) tups rg fun b m => ⟨up b fun z => nr.1 (z ▸ List.mem_append_right _ m), (rg.mem b m).2⟩
  have bk := Rel.back rg2 hx (OR.own upd_same za ro2)
  have smz : Same Z1 (upd H1 a (.lst ws)) := fun b u q => by
    rw [up b fun z => by rw [z, za] at q; cases q]
    exact st.same b u q
  refine ⟨⟨st.ext.zz, fun b u q m => ?_, st.ext.zn, fun b m => ?_, fun b l q => tups b l (st.ext.tu b l q)⟩, smz, by simpa using bk, by simpa using nd⟩
  · rw [up b fun z => ?_]
    · exact st.ext.fr b u q m
    · rcases st.ext.gn a (List.mem_append_left _ ma) with k | k
      · exact m (z ▸ k)
      · rw [z, k] at q
        cases q
  · rw [List.append_nil] at m
    rcases List.mem_cons.mp m with z | z
    · rw [z]
      exact st.ext.gn a (List.mem_append_left _ ma)
    · exact st.ext.gn b (sub b z)
theorem ors_set : ∀ {vs : List V} {os : List O} {P : List Addr} {j : Nat} {x : V} {o : O} {Po : List Addr}, ORs K Z H vs os P → j < vs.length → OR K Z H x o Po → ∃ f R, ORs K Z H (vs.set j x) (os.set j o) R ∧ (P ++ Po).Perm (f ++ R)
  | _, _, _, j, _, _, _, .nil, h, _ => by simp at h
  | _, _, _, 0, x, o, Po, .cons (F := f) (G := g) r t, _, q => by
    refine ⟨f, Po ++ g, .cons q t, ?_⟩
    rw [List.append_assoc]
    exact List.Perm.append_left f List.perm_append_comm
  | _, _, _, j + 1, x, o, Po, .cons (F := f) (G := g) r t, h, q => by
    obtain ⟨f2, R, a, b⟩ := ors_set (j := j) t (by simpa using h) q
    refine ⟨f2, f ++ R, .cons r a, ?_⟩
    rw [List.append_assoc]
    refine (List.Perm.append_left f b).trans ?_
    rw [← List.append_assoc, ← List.append_assoc]
    exact List.Perm.append_right R List.perm_append_comm
theorem ors_erase : ∀ {vs : List V} {os : List O} {P : List Addr} {j : Nat} {o : O}, ORs K Z H vs os P → os[j]? = some o → ∃ x Po R, vs[j]? = some x ∧ OR K Z H x o Po ∧ ORs K Z H (vs.eraseIdx j) (os.eraseIdx j) R ∧ P.Perm (Po ++ R)
  | _, _, _, _, _, .nil, h => by simp at h
  | _, _, _, 0, o, .cons (F := f) (G := g) r t, h => by
    simp at h
    subst h
    exact ⟨_, f, g, rfl, r, t, List.Perm.refl _⟩
  | _, _, _, j + 1, o, .cons (F := f) (G := g) r t, h => by
    obtain ⟨x, Po, R, a, b, c, d⟩ := ors_erase (j := j) t (by simpa using h)
    refine ⟨x, Po, f ++ R, by simpa using a, b, .cons r c, ?_⟩
    refine (List.Perm.append_left f d).trans ?_
    rw [← List.append_assoc, ← List.append_assoc]
    exact List.Perm.append_right R List.perm_append_comm
/-- the owned list of a slot -/
theorem own_at (r : Rel K Z H σ e F) {i : Nat} {os : List O} (h : look e i = some (.own os)) : ∃ a vs R G, σ[i]? = some (some (.ref a)) ∧ H a = some (.lst vs) ∧ Z a = none ∧ ORs K Z H vs os R ∧ Rel K Z H σ (e.set i none) G ∧ F.Perm (a :: (R ++ G)) := by
  obtain ⟨x, f, G, h1, h2, h3, h4⟩ := r.get (look_some h)
  cases h2 with
  | own ea za ro => exact ⟨_, _, _, G, h1, ea, za, ro, h3, h4⟩
theorem app_go {a : Addr} {i : Nat} {y : V} {o : O} {os : List O} (st : Step K σ Z H F Z1 H1 e1 F1 P) (hx : σ[i]? = some (some (.ref a))) (hl : look e1 i = some (.own os)) (r : OR K Z1 H1 y o P) :
    ∃ vs, H1 a = some (.lst vs) ∧ vs.length = os.length ∧ ∃ F2, Step K σ Z H F Z1 (upd H1 a (.lst (vs ++ [y]))) (e1.set i (some (.own (os ++ [o])))) F2 [] := by
  obtain ⟨a', vs, R, G, h1, h2, h3, h4, h5, h6⟩ := own_at st.rel hl
  rw [hx] at h1
  cases h1
  have pm : (F1 ++ P).Perm (a :: ((R ++ P) ++ G)) := by
    refine (List.Perm.append_right P h6).trans ?_
    show (a :: ((R ++ G) ++ P)).Perm _
    refine List.Perm.cons a ?_
    rw [List.append_assoc, List.append_assoc]
    exact List.Perm.append_left R List.perm_append_comm
  refine ⟨vs, h2, h4.length, _, write_own st hx h2 h3 h5 (pm.nodup_iff.mp st.nd) (fun b m => pm.mem_iff.mpr (List.mem_cons_of_mem _ m)) (h6.mem_iff.mpr (List.mem_cons_self ..)) ?_⟩
  have := h4.app (.cons r .nil)
  rwa [List.append_nil] at this
theorem ss_app {x : Str} {ex : Expr} {i : Nat} {p apos cpos pos : Pos} {a : IE} (hN : X.N[i]? = some x) (hv : Vis X.env.scope x) (hd : (x == ("__debug__" : Str)) = false) (hcd : (x == ("__classdict__" : Str)) = false) (h : PE X ex (tR X W (den L a))) (hl : (apos.endLine == cpos.line) = true) (hp : plainArg ex = true) :
    PS X (.Expr (.Call (.Attribute (.Name x p) "append" apos) [ex] [] cpos) pos) (tS X io (ex1 L io (.app i a))) := by
  have pe := pe_bm (X := X) (cpos := cpos) (apos := apos) (name := "append") PySem.F.plainAttrs_list PySem.F.slot_list_append PySem.F.type_list_append (mt_append (X := X)) (pe_var (pos := p) hN hv hd hcd) (pa_consP hp h pa_nil) rfl (by rw [star_plain hp]; rfl) hl (star_plain hp) rfl
  refine (ps_expr pe rfl).up fun D σ H ⟨Z, e, F, s, q⟩ => ?_
  simp only [ex1] at q
  cases ql : look e i with
  | none => rw [ql] at q; exact q.elim
  | some o0 =>
    rw [ql] at q
    cases o0 with
    | v d => exact q.elim
    | tup l => exact q.elim
    | own os0 =>
      simp only at q
      obtain ⟨ad, vs, R, G, h1, h2, h3, h4, h5, h6⟩ := own_at s.rel ql
      refine ⟨.ref ad, h1, .inl ⟨rfl, vs, .inl (.inl h2)⟩, ⟨Z, e, F, s, ?_⟩⟩
      cases q1 : den L a e with
      | err c d e1 => simp only [q1, Res.st] at q; exact q.elim
      | stuck => simp only [q1, Res.st] at q; exact q.elim
      | ok o e1 =>
        simp only [q1, Res.st] at q
        simp only [outG]
        intro y H1 ⟨Z1, F1, P, st, r⟩
        cases ql1 : look e1 i with
        | none => rw [ql1] at q; exact q.elim
        | some o1 =>
          rw [ql1] at q
          cases o1 with
          | v d => exact q.elim
          | tup l => exact q.elim
          | own os =>
            simp only at q
            by_cases hz : os.length < sizeLine
            · rw [if_pos hz] at q
              obtain ⟨vs1, g1, g2, F2, st2⟩ := app_go st h1 ql1 r
              exact ⟨ad, vs1, y, rfl, rfl, g1, by rw [g2]; exact hz, q σ _ .refl ⟨Z1, F2, st2⟩⟩
            · rw [if_neg hz] at q; exact q.elim
/-- a fresh list appended to, then dropped -/
theorem ss_appE {rx ex : Expr} {apos cpos pos : Pos} {r a : IE} (hr : PE X rx (tR X W (den L r))) (h : PE X ex (tR X W (den L a))) (hb : attributeBase rx "append" X.env (eval rx X.env) = eval rx X.env) (hl : (apos.endLine == cpos.line) = true) (hp : plainArg ex = true) :
    PS X (.Expr (.Call (.Attribute rx "append" apos) [ex] [] cpos) pos) (tS X io (ex1 L io (.appE r a))) := by
  have pe := pe_bm (X := X) (cpos := cpos) (apos := apos) (name := "append") PySem.F.plainAttrs_list PySem.F.slot_list_append PySem.F.type_list_append (mt_append (X := X)) hr (pa_consP hp h pa_nil) hb (by rw [star_plain hp]; rfl) hl (star_plain hp) rfl
  refine (ps_expr pe rfl).up fun D σ H ⟨Z, e, F, s, q⟩ => ⟨Z, e, F, s, ?_⟩
  simp only [ex1] at q
  cases q1 : den L r e with
  | err c d e1 => simp only [q1, Res.st] at q; exact q.elim
  | stuck => simp only [q1, Res.st] at q; exact q.elim
  | ok o e1 =>
    simp only [q1, Res.st] at q
    simp only [outG]
    intro y H1 ⟨Z1, F1, P, st, ro⟩
    cases ro with
    | v d => exact q.elim
    | tup _ _ => exact q.elim
    | @own ad vs os R ea za ro =>
      simp only at q
      refine ⟨.inl ⟨rfl, vs, .inl (.inl ea)⟩, ⟨Z1, e1, F1, st.sts, ?_⟩⟩
      cases q2 : den L a e1 with
      | err c d e2 => simp only [q2] at q; exact q.elim
      | stuck => simp only [q2] at q; exact q.elim
      | ok o2 e2 =>
        simp only [q2] at q
        simp only [outG]
        intro z H2 ⟨Z2, F2, P2, st2, r2⟩
        by_cases hz : os.length < sizeLine
        · rw [if_pos hz] at q
          have at2 := st2.ext.at ea za fun m => st.apart ad (List.mem_cons_self ..) m
          have ea2 : H2 ad = some (.lst vs) := at2.1.trans ea
          have nd3 : ((F2 ++ P2) ++ ad :: R).Nodup := st2.ext.nd st.nd (st_of (Z := Z1) (OR.mem (OR.own (K := X.K) ea za ro))) st2.nd
          have nF : ad ∉ F2 := fun m => (List.nodup_append.mp nd3).2.2 ad (List.mem_append_left _ m) ad (List.mem_cons_self ..) rfl
          have exx : Ext Z H F Z2 H2 (F2 ++ [ad]) := (st.ext.pend st2.ext).sub fun b m => (List.mem_append.mp m).elim (fun k => List.mem_append_left _ (List.mem_append_left _ k)) fun k => List.mem_append_right _ (by rw [List.mem_singleton] at k; rw [k]; exact List.mem_cons_self ..)
          refine ⟨ad, vs, z, rfl, rfl, ea2, by rw [ro.length]; exact hz, q σ _ .refl ⟨Z2, F2, ?_⟩⟩
          have up : ∀ b, b ≠ ad → upd H2 ad (.lst (vs ++ [z])) b = H2 b := fun b k => upd_ne k
          have tups : ∀ b l, H2 b = some (.tup l) → upd H2 ad (.lst (vs ++ [z])) b = some (.tup l) := fun b l k => by
            rw [up b fun w => by rw [w, ea2] at k; cases k]
            exact k
          refine ⟨⟨exx.zz, fun b u k m => ?_, exx.zn, fun b m => exx.gn b (List.mem_append_left _ (by simpa using m)), fun b l k => tups b l (exx.tu b l k)⟩, fun b u k => ?_, ?_, by simpa using st2.sts.nd⟩
          · rw [up b fun w => ?_]
            · exact exx.fr b u k m
            · rcases exx.gn ad (List.mem_append_right _ (List.mem_singleton.mpr rfl)) with g | g
              · exact m (w ▸ g)
              · rw [w, g] at k
                cases k
          · rw [up b fun w => by rw [w, at2.2] at k; cases k]
            exact st2.same b u k
          · exact Rel.keep (same_refl _) tups st2.rel fun b m => ⟨up b fun w => nF (w ▸ m), (st2.rel.mem b m).2⟩
        · rw [if_neg hz] at q; exact q.elim
/-- x.pop(k) -/
theorem se_pop {x : Str} {ex : Expr} {i : Nat} {p apos cpos : Pos} {k : IE} (hN : X.N[i]? = some x) (hv : Vis X.env.scope x) (hd : (x == ("__debug__" : Str)) = false) (hcd : (x == ("__classdict__" : Str)) = false) (h : PE X ex (tR X W (den L k))) (hl : (apos.endLine == cpos.line) = true) (hp : plainArg ex = true) :
    PE X (.Call (.Attribute (.Name x p) "pop" apos) [ex] [] cpos) (tR X W (den L (.pop i k))) := by
  refine (pe_bm (X := X) (cpos := cpos) (apos := apos) (name := "pop") PySem.F.plainAttrs_list PySem.F.slot_list_pop PySem.F.type_list_pop (mt_popAt (X := X)) (pe_var (pos := p) hN hv hd hcd) (pa_consP hp h pa_nil) rfl (by rw [star_plain hp]; rfl) hl (star_plain hp) rfl).up fun σ H Q ⟨Z, e, F, s, q⟩ => ?_
  simp only [den] at q
  cases ql : look e i with
  | none => rw [ql] at q; exact q.elim
  | some o0 =>
    rw [ql] at q
    cases o0 with
    | v d => exact q.elim
    | tup l => exact q.elim
    | own os0 =>
      simp only at q
      obtain ⟨ad, vs, R, G, h1, h2, h3, h4, h5, h6⟩ := own_at s.rel ql
      refine ⟨.ref ad, h1, .inl ⟨rfl, vs, .inl (.inl h2)⟩, ⟨Z, e, F, s, ?_⟩⟩
      cases q1 : den L k e with
      | err c d e1 => simp only [q1, Res.bind, outG] at q; exact q
      | stuck => simp only [q1, Res.bind, outG] at q
      | ok o e1 =>
        simp only [q1, Res.bind] at q
        simp only [outG]
        intro y H1 ⟨Z1, F1, P, st, r⟩
        split at q
        · rename_i n os ql1
          obtain ⟨ey, eP⟩ := or_int r
          subst ey eP
          by_cases hz : mag n = true
          · rw [if_pos hz] at q
            have hz := mag_sp hz
            cases qj : seqIndex? n os.length with
            | none => rw [qj] at q; exact q.elim
            | some j =>
              rw [qj] at q
              simp only at q
              cases qo : os[j]? with
              | none => rw [qo] at q; exact q.elim
              | some o' =>
                rw [qo] at q
                obtain ⟨a', vs1, R1, G1, g1, g2, g3, g4, g5, g6⟩ := own_at st.rel ql1
                rw [h1] at g1
                cases g1
                obtain ⟨x', Po, R2, k1, k2, k3, k4⟩ := ors_erase g4 qo
                refine ⟨ad, vs1, n, j, x', rfl, rfl, g2, by omega, by omega, by rw [g4.length]; exact qj, k1, q x' _ ?_⟩
                have pm : F1.Perm (Po ++ (ad :: (R2 ++ G1))) := by
                  refine g6.trans ?_
                  refine (List.Perm.cons ad (List.Perm.append_right G1 k4)).trans ?_
                  rw [List.append_assoc]
                  exact List.perm_middle.symm
                have nd1 : (Po ++ (ad :: (R2 ++ G1))).Nodup := pm.nodup_iff.mp st.sts.nd
                have ndp := List.nodup_append.mp nd1
                have w := write_own st h1 g2 g3 g5 ndp.2.1 (fun b m => List.mem_append_left _ (pm.mem_iff.mpr (List.mem_append_right _ (List.mem_cons_of_mem _ m)))) (g6.mem_iff.mpr (List.mem_cons_self ..)) k3
                have nad : ∀ b ∈ Po, b ≠ ad := fun b m z => ndp.2.2 b m ad (List.mem_cons_self ..) z
                refine ⟨Z1, ad :: (R2 ++ G1), Po, ⟨⟨w.ext.zz, w.ext.fr, w.ext.zn, fun b m => ?_, w.ext.tu⟩, w.same, w.rel, ?_⟩, ?_⟩
                · rcases List.mem_append.mp m with m | m
                  · exact w.ext.gn b (List.mem_append_left _ m)
                  · exact st.ext.gn b (List.mem_append_left _ (pm.mem_iff.mpr (List.mem_append_left _ m)))
                · exact (List.perm_append_comm).nodup_iff.mp nd1
                · refine OR.keep (same_refl _) (fun b l c => ?_) k2 fun b m => ⟨upd_ne (nad b m), (OR.mem k2 b m).2⟩
                  rw [upd_ne fun z => by rw [z, g2] at c; cases c]
                  exact c
          · rw [if_neg hz] at q; exact q.elim
        · exact q.elim
end
end Ev
set_option Elab.async false
set_option linter.all false
set_option maxRecDepth 100000
/-! Ev16: stores. -/
namespace Ev
open PySem PySem.Spec PyProof.Rows L2

def gTg (X : Cx) (W : WX) (L : List FnE) : Tg → TG
  | .n i => gName i
  | .sub i k => gSub (tVar i) (tR X W (den L k)) rSetL
def gTgl (X : Cx) (W : WX) (L : List FnE) : List Tg → TGs
  | [] => gNil
  | t :: ts => gCons (gTg X W L t) (gTgl X W L ts)
section
variable {X : Cx} {W : WX} {L : List FnE} {io : Bool} {K : Frag} {σ σ1 σ2 : Sg} {Z Z1 Z2 H H1 H2 : Hp} {F F1 F2 P P1 P2 : List Addr} {e e1 e2 : Ve} {D : Ends}
/-- an owned list written to, things P2 in hand -/
theorem write_own2 {a : Addr} {vs ws : List V} {i : Nat} {os2 : List O} {R G : List Addr} (st : Step K σ Z H F Z1 H1 e1 F1 P) (hx : σ[i]? = some (some (.ref a))) (ea : H1 a = some (.lst vs)) (za : Z1 a = none)
    (rg : Rel K Z1 H1 σ (e1.set i none) G) (nd : ((a :: (R ++ G)) ++ P2).Nodup) (sub : ∀ b ∈ (R ++ G) ++ P2, b ∈ F1 ++ P) (ma : a ∈ F1) (ro : ORs K Z1 H1 ws os2 R) :
    Step K σ Z H F Z1 (upd H1 a (.lst ws)) (e1.set i (some (.own os2))) (a :: (R ++ G)) P2 ∧ ∀ {xs : List V} {os : List O}, ORs K Z1 H1 xs os P2 → ORs K Z1 (upd H1 a (.lst ws)) xs os P2 := by
  have nx := List.nodup_append.mp nd
  have w := write_own st hx ea za rg nx.1 (fun b m => sub b (List.mem_append_left _ m)) ma ro
  refine ⟨⟨⟨w.ext.zz, w.ext.fr, w.ext.zn, fun b m => ?_, w.ext.tu⟩, w.same, w.rel, nd⟩, fun {xs os} r => ?_⟩
  · rcases List.mem_append.mp m with m | m
    · exact w.ext.gn b (List.mem_append_left _ m)
    · exact st.ext.gn b (sub b (List.mem_append_right _ m))
  · refine ORs.keep (same_refl _) (fun b l c => ?_) r fun b m => ⟨upd_ne fun z => nx.2.2 a (List.mem_cons_self ..) b m z.symm, (ORs.mem r b m).2⟩
    rw [upd_ne fun z => by rw [z, ea] at c; cases c]
    exact c
theorem doTg_go {t : Tg} {x : V} {o : O} {xs : List V} {os : List O} {Po : List Addr} {k : Ve → SRes} (st : Step X.K σ1 Z H F Z1 H1 e1 F1 (Po ++ P)) (ro : OR X.K Z1 H1 x o Po) (rs : ORs X.K Z1 H1 xs os P) (h : outS X io σ Z H F D ((doTg L io t o e1).seq k)) :
    gTg X W L t x σ1 H1 fun σ2 H2 => Sam io σ1 σ2 ∧ ∃ Z2 e2 F2, Step X.K σ2 Z H F Z2 H2 e2 F2 P ∧ ORs X.K Z2 H2 xs os P ∧ outS X io σ Z H F D (k e2) := by
  have ndP := (List.nodup_append.mp st.nd)
  cases t with
  | n i =>
    unfold doTg at h
    simp only at h
    unfold setN at h
    by_cases c : (decide (i < e1.length) && !(io && i == 0)) = true
    · have c2 : i < e1.length ∧ (io && i == 0) = false := by
        rw [Bool.and_eq_true] at c
        exact ⟨of_decide_eq_true c.1, by have := c.2; revert this; cases (io && i == 0) <;> simp⟩
      have c3 : (i < e1.length && !(io && i == 0)) = true := c
      rw [if_pos c3] at h
      simp only [liftS, SRes.seq] at h
      obtain ⟨f, G, rg, pm⟩ := st.rel.drop i
      have bk := Rel.put rg (get_set_self c2.1) ro
      rw [set_set_same] at bk
      refine ⟨fun hio => List.getElem?_set_ne fun z => ?_, Z1, _, Po ++ G, ⟨⟨st.ext.zz, st.ext.fr, st.ext.zn, fun a m => st.ext.gn a ?_, st.ext.tu⟩, st.same, bk, ?_⟩, rs, h⟩
      · have := c2.2
        rw [hio, z] at this
        simp at this
      · have mG : ∀ b ∈ G, b ∈ F1 := fun b q => pm.mem_iff.mpr (List.mem_append_right _ q)
        rcases List.mem_append.mp m with m | m
        · rcases List.mem_append.mp m with m | m
          · exact List.mem_append_right _ (List.mem_append_left _ m)
          · exact List.mem_append_left _ (mG a m)
        · exact List.mem_append_right _ (List.mem_append_right _ m)
      · have pp : (F1 ++ (Po ++ P)).Perm (f ++ ((Po ++ G) ++ P)) := by
          refine (List.Perm.append_right _ pm).trans ?_
          rw [List.append_assoc]
          refine List.Perm.append_left f ?_
          rw [← List.append_assoc]
          exact List.Perm.append_right P List.perm_append_comm
        exact (List.nodup_append.mp (pp.nodup_iff.mp st.nd)).2.1
    · have c3 : ¬ (i < e1.length && !(io && i == 0)) = true := c
      rw [if_neg c3] at h
      exact h.elim
  | sub i k' =>
    unfold doTg at h
    simp only at h
    cases ql : look e1 i with
    | none => rw [ql] at h; exact h.elim
    | some o0 =>
      rw [ql] at h
      cases o0 with
      | v d => exact h.elim
      | tup l => exact h.elim
      | own os0 =>
        simp only at h
        obtain ⟨a, vs, R, G, h1, h2, h3, h4, h5, h6⟩ := own_at st.rel ql
        refine ⟨.ref a, h1, Z1, e1, F1, st.sts, ?_⟩
        cases q1 : den L k' e1 with
        | err c d e2 => simp only [q1, Res.st, SRes.seq] at h; exact h.elim
        | stuck => simp only [q1, Res.st, SRes.seq] at h; exact h.elim
        | ok ko e2 =>
          simp only [q1, Res.st] at h
          simp only [outG]
          intro iy H2 ⟨Z2, F2, Pk, st2, r2⟩
          unfold setAt at h
          split at h
          · rename_i n os' ql2
            obtain ⟨ey, eP⟩ := or_int r2
            subst ey eP
            cases qj : ixN os'.length n with
            | none => rw [qj] at h; exact h.elim
            | some j =>
              rw [qj] at h
              simp only [Option.map_some, liftS, SRes.seq] at h
              obtain ⟨a2, vs2, R2, G2, g1, g2, g3, g4, g5, g6⟩ := own_at st2.rel ql2
              rw [h1] at g1
              cases g1
              have hl := g4.length
              have hj : j < vs2.length := by rw [hl]; exact (ixN_seq qj).2.1
              -- what was in hand stays
              have mPP : ∀ b ∈ Po ++ P, (∃ l, H1 b = some (.lst l)) ∧ Z1 b = none := fun b m => (List.mem_append.mp m).elim (OR.mem ro b) (ORs.mem rs b)
              have x2 : Ext Z1 H1 F1 Z2 H2 F2 := st2.ext.sub fun b m => List.mem_append_left _ m
              have ro2 := x2.or ro fun b m z => apart_of st.nd b (List.mem_append_left _ m) z
              have rs2 := x2.ors rs fun b m z => apart_of st.nd b (List.mem_append_right _ m) z
              have nd2 : (F2 ++ (Po ++ P)).Nodup := x2.nd st.nd (st_of (Z := Z1) mPP) st2.sts.nd
              have s12 : Step X.K σ1 Z H F Z2 H2 e2 F2 (Po ++ P) := ⟨st.ext.pend x2, st2.same, st2.rel, nd2⟩
              obtain ⟨f, R', k1, k2⟩ := ors_set (j := j) g4 hj ro2
              have pm : (F2 ++ (Po ++ P)).Perm (f ++ ((a :: (R' ++ G2)) ++ P)) := by
                refine (List.Perm.append_right _ g6).trans ?_
                have e1 : ((a :: (R2 ++ G2)) ++ (Po ++ P)).Perm (a :: ((R2 ++ Po) ++ (G2 ++ P))) := by
                  show (a :: ((R2 ++ G2) ++ (Po ++ P))).Perm _
                  refine List.Perm.cons a ?_
                  rw [List.append_assoc, List.append_assoc]
                  refine List.Perm.append_left R2 ?_
                  rw [← List.append_assoc, ← List.append_assoc]
                  exact List.Perm.append_right P List.perm_append_comm
                refine e1.trans ((List.Perm.cons a (List.Perm.append_right _ k2)).trans ?_)
                have e2 : (a :: ((f ++ R') ++ (G2 ++ P))).Perm (f ++ (a :: (R' ++ (G2 ++ P)))) := by
                  rw [List.append_assoc]
                  exact List.perm_middle.symm
                refine e2.trans (List.Perm.of_eq ?_)
                simp
              have ndw := (List.nodup_append.mp (pm.nodup_iff.mp nd2)).2.1
              have sub : ∀ b ∈ (R' ++ G2) ++ P, b ∈ F2 ++ (Po ++ P) := fun b m => pm.mem_iff.mpr (List.mem_append_right _ (by
                rcases List.mem_append.mp m with m | m
                · exact List.mem_append_left _ (List.mem_cons_of_mem _ m)
                · exact List.mem_append_right _ m))
              obtain ⟨w, kp⟩ := write_own2 (P2 := P) s12 h1 g2 g3 g5 ndw sub (g6.mem_iff.mpr (List.mem_cons_self ..)) k1
              exact ⟨a, vs2, n, j, rfl, rfl, g2, by rw [hl]; exact qj, .refl, Z2, _, _, w, kp rs2, h⟩
          · exact h.elim
theorem doTgs_go : ∀ {ts : List Tg} {xs : List V} {os : List O} {σ1 : Sg} {Z1 H1 : Hp} {e1 : Ve} {F1 P : List Addr}, Step X.K σ1 Z H F Z1 H1 e1 F1 P → ORs X.K Z1 H1 xs os P → Sam io σ σ1 → outS X io σ Z H F D (doTgs L io ts os e1) → gTgl X W L ts xs σ1 H1 D.nx
  | [], [], [], σ1, Z1, H1, e1, F1, _, st, .nil, sm, h => by
    unfold doTgs at h
    exact ⟨rfl, h σ1 H1 sm ⟨Z1, F1, st⟩⟩
  | t :: ts, x :: xs, o :: os, σ1, Z1, H1, e1, F1, _, st, .cons r rs, sm, h => by
    unfold doTgs at h
    refine ⟨x, xs, rfl, ?_⟩
    have g := doTg_go (W := W) st r rs h
    have mono : ∀ {t : Tg} {x : V} {σ1 : Sg} {H1 : Hp} {Q Q' : Sg → Hp → Prop}, gTg X W L t x σ1 H1 Q → (∀ σ2 H2, Q σ2 H2 → Q' σ2 H2) → gTg X W L t x σ1 H1 Q' := fun {t x σ1 H1 Q Q'} g k => by
      cases t with
      | n i => exact k _ _ g
      | sub i k' =>
        obtain ⟨v, hv, g⟩ := g
        refine ⟨v, hv, tR_mono g fun y H2 ⟨p, ys, n, j, a1, a2, a3, a4, a5⟩ => ⟨p, ys, n, j, a1, a2, a3, a4, k _ _ a5⟩⟩
    exact mono g fun σ2 H2 ⟨s2, Z2, e2, F2, st2, rs2, h2⟩ => doTgs_go st2 rs2 (sm.trans s2) h2
  | [], _, _ :: _, _, _, _, _, _, _, _, _, _, h => by simp [doTgs, outS] at h
  | _ :: _, _, [], _, _, _, _, _, _, _, _, _, h => by simp [doTgs, outS] at h

/-! ### statements -/
theorem ss_asg {tg ex : Expr} {t : Tg} {a : IE} {pos : Pos} (h : PE X ex (tR X W (den L a))) (hg : PG X tg (gTg X W L t)) (hs : swapsWithSole [tg] ex pos.line X.env = pure false) (hw : swappedStores [tg] ex X.env = pure none) (h1 : (assignEach [tg] X.env).map (·.2) = [assign tg X.env]) :
    PS X (.Assign [tg] ex pos) (tS X io (ex1 L io (.asg (.one t) a))) := (ps_asg h hg hs hw h1).up fun D σ H q => by
  have q2 : tS X io (fun v => (den L a v).st fun o v1 => doTgs L io [t] [o] v1) D σ H := by
    obtain ⟨Z, e, F, s, q⟩ := q
    refine ⟨Z, e, F, s, ?_⟩
    simp only [ex1] at q
    have e1 : ∀ o v1, doTgs L io [t] [o] v1 = doTg L io t o v1 := fun o v1 => by
      unfold doTgs
      cases doTg L io t o v1 <;> rfl
    simp only [e1]
    exact q
  refine tR_mono (tS_expr (W := W) q2) fun x H1 ⟨Z, F, Z1, e1, F1, P, o, w, st, r⟩ => ?_
  obtain ⟨v, r', ev, g⟩ := doTgs_go (W := W) (P := P ++ []) (by simpa using st) (.cons r .nil) .refl w
  cases ev
  have mono : ∀ {t : Tg} {x : V} {σ1 : Sg} {H1 : Hp} {Q Q' : Sg → Hp → Prop}, gTg X W L t x σ1 H1 Q → (∀ σ2 H2, Q σ2 H2 → Q' σ2 H2) → gTg X W L t x σ1 H1 Q' := fun {t x σ1 H1 Q Q'} g k => by
    cases t with
    | n i => exact k _ _ g
    | sub i k' =>
      obtain ⟨v, hv, g⟩ := g
      refine ⟨v, hv, tR_mono g fun y H2 ⟨p, ys, n, j, a1, a2, a3, a4, a5⟩ => ⟨p, ys, n, j, a1, a2, a3, a4, k _ _ a5⟩⟩
  exact mono g fun σ2 H2 q => q.2
theorem ss_asgT {es : List Expr} {ex : Expr} {ts : List Tg} {a : IE} {kk : Nat} {tpos pos : Pos} (h : PE X ex (tR X W (den L a))) (hg : PG X (.Tuple es kk tpos) (gTup X.K ts.length (gTgl X W L ts))) (hs : swapsWithSole [.Tuple es kk tpos] ex pos.line X.env = pure false) (hw : swappedStores [.Tuple es kk tpos] ex X.env = pure none)
    (h1 : (assignEach [.Tuple es kk tpos] X.env).map (·.2) = [assign (.Tuple es kk tpos) X.env]) : PS X (.Assign [.Tuple es kk tpos] ex pos) (tS X io (ex1 L io (.asg (.many ts) a))) := (ps_asg h hg hs hw h1).up fun D σ H q => by
  have q2 : tS X io (fun v => (den L a v).st fun o v1 => match elems true o with
    | some (false, os) => if ts.length = os.length then doTgs L io ts os v1 else .stuck
    | _ => .stuck) D σ H := by
    obtain ⟨Z, e, F, s, q⟩ := q
    refine ⟨Z, e, F, s, ?_⟩
    simp only [ex1] at q
    exact q
  refine tR_mono (tS_expr (W := W) q2) fun x H1 ⟨Z, F, Z1, e1, F1, P, o, w, st, r⟩ => ?_
  split at w
  · rename_i os he
    obtain ⟨ad, vs, P', ex, hq, ros, sub, nds, _⟩ := elems_at st.same r he
    subst ex
    have hl : ts.length = os.length := by
      by_cases c : ts.length = os.length
      · exact c
      · rw [if_neg c] at w; exact w.elim
    rw [if_pos hl] at w
    refine ⟨ad, vs, rfl, .inl (.inl (by simpa using hq)), by rw [ros.length, hl], ?_⟩
    have nP := (List.nodup_append.mp st.nd)
    have st' : Step X.K σ Z H F Z1 H1 e1 F1 P' := ⟨st.ext.sub fun b m => (List.mem_append.mp m).elim (fun k => List.mem_append_left _ k) fun k => List.mem_append_right _ (sub b k), st.same, st.rel, by
      rw [List.nodup_append]
      exact ⟨nP.1, nds nP.2.1, fun b m c mc => nP.2.2 b m c (sub c mc)⟩⟩
    exact doTgs_go st' ros .refl w
  · exact w.elim
end
end Ev
set_option Elab.async false
set_option linter.all false
set_option maxRecDepth 100000
/-! Ev17: several names at once; a block stored. -/
namespace Ev
open PySem PySem.Spec PyProof.Rows L2

section
variable {X : Cx} {W : WX} {L : List FnE} {io : Bool} {σ : Sg} {H : Hp} {D : Ends}
theorem gTg_mono {t : Tg} {x : V} {σ1 : Sg} {H1 : Hp} {Q Q' : Sg → Hp → Prop} (g : gTg X W L t x σ1 H1 Q) (k : ∀ σ2 H2, Q σ2 H2 → Q' σ2 H2) : gTg X W L t x σ1 H1 Q' := by
  cases t with
  | n i => exact k _ _ g
  | sub i k' =>
    obtain ⟨v, hv, g⟩ := g
    exact ⟨v, hv, tR_mono g fun y H2 ⟨p, ys, n, j, a1, a2, a3, a4, a5⟩ => ⟨p, ys, n, j, a1, a2, a3, a4, k _ _ a5⟩⟩
theorem asg_core {t : Tg} {a : IE} (q : tS X io (ex1 L io (.asg (.one t) a)) D σ H) : tR X W (den L a) σ H fun x H1 => gTg X W L t x σ H1 D.nx := by
  have q2 : tS X io (fun v => (den L a v).st fun o v1 => doTgs L io [t] [o] v1) D σ H := by
    obtain ⟨Z, e, F, s, q⟩ := q
    refine ⟨Z, e, F, s, ?_⟩
    simp only [ex1] at q
    have e1 : ∀ o v1, doTgs L io [t] [o] v1 = doTg L io t o v1 := fun o v1 => by
      unfold doTgs
      cases doTg L io t o v1 <;> rfl
    simp only [e1]
    exact q
  refine tR_mono (tS_expr (W := W) q2) fun x H1 ⟨Z, F, Z1, e1, F1, P, o, w, st, r⟩ => ?_
  obtain ⟨v, r', ev, g⟩ := doTgs_go (W := W) (P := P ++ []) (by simpa using st) (.cons r .nil) .refl w
  cases ev
  exact gTg_mono g fun σ2 H2 q => q.2
theorem el_mk {os : List O} : elems true (mkTup os) = some (false, os) := by
  unfold mkTup
  split
  · rename_i h
    have e : (O.ds os).map O.v = os := by
      rw [O.ds_map, List.map_map]
      have : os.map (fun o => O.v o.d) = os.map id := List.map_congr_left fun o m => by
        have := List.all_eq_true.mp h o m
        cases o with
        | v d => rfl
        | own l => cases this
        | tup l => cases this
      show os.map (fun o => O.v o.d) = os
      rw [this, List.map_id]
    show some (false, (O.ds os).map O.v) = _
    rw [e]
  · show (if (true || os.all O.isV) = true then some (false, os) else none) = _
    rw [Bool.true_or, if_pos rfl]
theorem par_core {ts : List Tg} {es : List IE} (q : tS X io (ex1 L io (.asg (.many ts) (.tup es))) D σ H) : tO X W (denEs L es) σ H fun xs H1 => xs.length = ts.length ∧ gTgl X W L ts xs σ H1 D.nx := by
  obtain ⟨Z, e, F, s, h⟩ := q
  refine ⟨Z, e, F, s, ?_⟩
  simp only [ex1, den] at h
  cases q1 : denEs L es e with
  | err c d e1 => simp only [q1, Res.bind, Res.st] at h; exact h.elim
  | stuck => simp only [q1, Res.bind, Res.st] at h; exact h.elim
  | ok os e1 =>
    simp only [q1, Res.bind, mkTupF] at h
    simp only [outG]
    intro xs H1 ⟨Z1, F1, P, st, r⟩
    by_cases hf : fits os = true
    · rw [if_pos hf] at h
      simp only [lift, Res.st, el_mk] at h
      by_cases c : ts.length = os.length
      · rw [if_pos c] at h
        exact ⟨by rw [r.length, c], doTgs_go st r .refl h⟩
      · rw [if_neg c] at h; exact h.elim
    · rw [if_neg hf] at h; exact h.elim
theorem ss_asgLc {i : Nat} {y : Str} {py : Pos} {elt tg iter : Expr} {ifs : List Expr} {scope : Scope} {own : List (Str × Nat)} {pos spos : Pos} {ielt : IE} {itg : Tgt} {it : Iter} {cond : Option IE} (hc : X.calm = true) (hN : X.N.Nodup) (hy : X.N[i]? = some y) (hyl : X.env.scope.names.lookup y = some .local)
    (hsw : swapsWith (.ListComp elt [⟨tg, iter, ifs, 0⟩] scope pos) (some (.Name y py)) spos.line X.env = pure true) (hi : PI X tg iter (tI X W (denI L it))) (ok : BlkOk X.N X.env.scope scope own) (eo : own.map (·.2) = itg.slots)
    (hg : ∀ (s : Shared) (H : Hp) (C : Addr) (cl : List (Str × Addr)) (fp : List Addr), PG (X.blk s H scope (compEnvC scope cl C X.env) fp) tg (gT X.K itg)) (ht : ∀ (s : Shared) (H : Hp) (C : Addr) (cl : List (Str × Addr)) (fp : List Addr), PTs (X.blk s H scope (compEnvC scope cl C X.env) fp) ifs (tYN X W L cond))
    (he : ∀ (s : Shared) (H : Hp) (C : Addr) (cl : List (Str × Addr)) (fp : List Addr), PE (X.blk s H scope (compEnvC scope cl C X.env) fp) elt (tR X W (den L ielt))) (hs : ∀ x, foldedSetIterable iter X.env x = pure x) :
    PS X (.Assign [.Name y py] (.ListComp elt [⟨tg, iter, ifs, 0⟩] scope pos) spos) (tS X io (ex1 L io (.asg (.one (.n i)) (.comp ielt itg it cond)))) :=
  (ps_setLc hc hN hy hyl hsw hi ok hg ht he hs).up fun D σ H q => by
    have w := lc_go (asg_core (W := W) q)
    rw [← eo] at w
    exact w
theorem se_comp {elt tg iter : Expr} {ifs : List Expr} {scope : Scope} {own : List (Str × Nat)} {pos : Pos} {ielt : IE} {itg : Tgt} {it : Iter} {cond : Option IE} (hc : X.calm = true) (hN : X.N.Nodup) (hi : PI X tg iter (tI X W (denI L it))) (ok : BlkOk X.N X.env.scope scope own) (eo : own.map (·.2) = itg.slots)
    (hg : ∀ (s : Shared) (H : Hp) (C : Addr) (cl : List (Str × Addr)) (fp : List Addr), PG (X.blk s H scope (compEnvC scope cl C X.env) fp) tg (gT X.K itg)) (ht : ∀ (s : Shared) (H : Hp) (C : Addr) (cl : List (Str × Addr)) (fp : List Addr), PTs (X.blk s H scope (compEnvC scope cl C X.env) fp) ifs (tYN X W L cond))
    (he : ∀ (s : Shared) (H : Hp) (C : Addr) (cl : List (Str × Addr)) (fp : List Addr), PE (X.blk s H scope (compEnvC scope cl C X.env) fp) elt (tR X W (den L ielt))) (hs : ∀ x, foldedSetIterable iter X.env x = pure x) :
    PE X (.ListComp elt [⟨tg, iter, ifs, 0⟩] scope pos) (tR X W (den L (.comp ielt itg it cond))) :=
  (pe_lc hc hN hi ok hg ht he hs).up fun σ H Q q => by
    have w := lc_go q
    rw [← eo] at w
    exact w
theorem ss_par2 {i j : Nat} {x y : Str} {a b : Expr} {ia ib : IE} {px py pt pos : Pos} {kt k2 pt2} (hc : X.calm = true) (hN : X.N.Nodup) (hi : X.N[i]? = some x) (hj : X.N[j]? = some y) (hij : i ≠ j) (hx : X.env.scope.names.lookup x = some .local) (hy : X.env.scope.names.lookup y = some .local)
    (ha : PA X [a, b] (tO X W (denEs L [ia, ib]))) (hw : swappedStores [.Tuple [.Name x px, .Name y py] kt pt] (.Tuple [a, b] k2 pt2) X.env = pure (some [x, y])) :
    PS X (.Assign [.Tuple [.Name x px, .Name y py] kt pt] (.Tuple [a, b] k2 pt2) pos) (tS X io (ex1 L io (.asg (.many [.n i, .n j]) (.tup [ia, ib])))) :=
  (ps_par hc hN hi hj hij hx hy ha hw rfl).up fun D σ H q => by
    have tO_mono : ∀ {m : Ve → Res (List O)} {R R' : List V → Hp → Prop}, tO X W m σ H R → (∀ xs H1, R xs H1 → R' xs H1) → tO X W m σ H R' := fun {m R R'} ⟨Z, e, F, s, h⟩ k => ⟨Z, e, F, s, by
      cases q3 : m e with
      | err c d e1 => simp only [q3, outG] at h ⊢; exact h
      | stuck => simp only [q3, outG] at h
      | ok o e1 => simp only [q3, outG] at h ⊢; exact fun x H1 en => k x H1 (h x H1 en)⟩
    refine tO_mono (par_core (W := W) q) fun xs H1 ⟨hl, g⟩ => ?_
    obtain ⟨u, r, e1, v, r2, e2, e3, g⟩ := g
    subst e1 e2 e3
    exact ⟨u, v, rfl, g⟩
theorem ss_par3 {i j l : Nat} {x y z : Str} {a b c : Expr} {ia ib ic : IE} {px py pz pt pos : Pos} {kt k2 pt2} (hc : X.calm = true) (hN : X.N.Nodup) (hi : X.N[i]? = some x) (hj : X.N[j]? = some y) (hl : X.N[l]? = some z) (hij : i ≠ j) (hil : i ≠ l) (hjl : j ≠ l)
    (hx : X.env.scope.names.lookup x = some .local) (hy : X.env.scope.names.lookup y = some .local) (hz : X.env.scope.names.lookup z = some .local)
    (ha : PA X [a, b, c] (tO X W (denEs L [ia, ib, ic]))) (hw : swappedStores [.Tuple [.Name x px, .Name y py, .Name z pz] kt pt] (.Tuple [a, b, c] k2 pt2) X.env = pure (some [x, y, z])) :
    PS X (.Assign [.Tuple [.Name x px, .Name y py, .Name z pz] kt pt] (.Tuple [a, b, c] k2 pt2) pos) (tS X io (ex1 L io (.asg (.many [.n i, .n j, .n l]) (.tup [ia, ib, ic])))) :=
  (ps_par3 hc hN hi hj hl hij hil hjl hx hy hz ha hw rfl).up fun D σ H q => by
    have tO_mono : ∀ {m : Ve → Res (List O)} {R R' : List V → Hp → Prop}, tO X W m σ H R → (∀ xs H1, R xs H1 → R' xs H1) → tO X W m σ H R' := fun {m R R'} ⟨Z, e, F, s, h⟩ k => ⟨Z, e, F, s, by
      cases q3 : m e with
      | err c d e1 => simp only [q3, outG] at h ⊢; exact h
      | stuck => simp only [q3, outG] at h
      | ok o e1 => simp only [q3, outG] at h ⊢; exact fun x H1 en => k x H1 (h x H1 en)⟩
    refine tO_mono (par_core (W := W) q) fun xs H1 ⟨hl, g⟩ => ?_
    obtain ⟨u, r, e1, v, r2, e2, w, r3, e3, e4, g⟩ := g
    subst e1 e2 e3 e4
    exact ⟨u, v, w, rfl, g⟩
end
end Ev
set_option Elab.async false
set_option linter.all false
set_option maxRecDepth 100000
/-! Ev18: a def keeps its promise; the law. -/
namespace Ev
open PySem PySem.Spec PyProof.Rows L2

section
variable {P : Program} {w : World} {K : Frag} {mg : Str → Option Value} {base : Heap} {Z H : Hp}
theorem rel_none : ∀ n : Nat, Rel K Z H (List.replicate n none) (List.replicate n none) []
  | 0 => .nil
  | n + 1 => .skip (rel_none n)
theorem rel_start {n : Nat} : ∀ {vs : List V} {os : List O} {F : List Addr}, ORs K Z H vs os F → Rel K Z H (vs.map some ++ List.replicate n none) (os.map some ++ List.replicate n none) F
  | _, _, _, .nil => rel_none n
  | _, _, _, .cons a b => .some a (rel_start b) (List.Perm.refl _)
theorem fnG_def {f : Addr} {fd : FuncData} {g : FnE} {x qual : Str} {params : Arguments} {body : List Stmt} {scope : Scope} {N : List Str} {ir : List IS} {L : List FnE} {k : Nat} (F : FunD K x qual params body scope [] [] f fd) (S : FnScope N g.ps scope)
    (hs : g.sem = runDef L g.io N.length ir)
    (main : ∀ (cdv : Value) (A : Around) (l : List Env) (s : Shared) (H : Hp), Room k (A.deeper (envOfC qual scope s.heap.objs.size f cdv)) → A.guards = some [] → PSs (cxOf noX P w K mg base N qual scope f cdv A l s H noE) body (tS (cxOf noX P w K mg base N qual scope f cdv A l s H noE) g.io (exs L g.io ir))) :
    FnG P w K mg base (k + 1) f fd g.ps (spOf K g) := by
  obtain ⟨⟨oc, od, dV, kV, doc, pm, an, cdv, ct, osl, e, lk, hc, _, _⟩, _⟩ := F
  subst e
  refine fnG_of lk hc S (fun vs H Q h => h.1) fun A l s H vs Q hr hg h => ⟨_, main cdv A l s H hr hg, ?_⟩
  obtain ⟨hl, Z, os, P0, hsm, nd, ro, z, out, hsem, fin⟩ := h
  have hlen := ro.length
  refine ⟨Z, os.map some ++ List.replicate (N.length - os.length) none, P0, ⟨hsm, ?_, nd⟩, ?_⟩
  · unfold L2.start
    rw [hlen]
    exact rel_start ro
  rw [hs] at hsem
  unfold runDef at hsem
  -- what slot 0 has become
  have slot : ∀ {Z' H' : Hp} {e' : Ve} {F' : List Addr} {σ' : Sg}, Rel K Z' H' σ' e' F' → F'.Nodup → Sam g.io (start N vs) σ' → ∃ Pu, OutR K Z' H' vs (outOf g.io e') Pu ∧ (∀ a ∈ Pu, a ∈ F') ∧ Pu.Nodup := by
    intro Z' H' e' F' σ' r n sm
    unfold outOf
    cases hio : g.io with
    | false => exact ⟨[], rfl, fun _ m => (by cases m), List.nodup_nil⟩
    | true =>
      rw [if_pos rfl]
      cases ql : look e' 0 with
      | none => exact ⟨[], rfl, fun _ m => (by cases m), List.nodup_nil⟩
      | some u =>
        obtain ⟨x, fu, G, h1, h2, _, h4⟩ := r.get (look_some ql)
        rw [sm hio] at h1
        unfold L2.start at h1
        cases vs with
        | nil =>
          rw [List.map_nil, List.nil_append, List.getElem?_replicate] at h1
          split at h1 <;> cases h1
        | cons y ys =>
          rw [List.map_cons, List.cons_append, List.getElem?_cons_zero] at h1
          cases h1
          exact ⟨fu, ⟨_, _, rfl, h2⟩, fun a m => h4.mem_iff.mpr (List.mem_append_left _ m), (nodup_parts n h4).1⟩
  generalize exs L g.io ir (os.map some ++ List.replicate (N.length - os.length) none) = r at hsem
  cases r with
  | err c d e' => cases hsem
  | stuck => cases hsem
  | brk e' => cases hsem
  | next e' =>
    simp only [finish] at hsem
    cases hsem
    intro σ' H' sm ⟨Z', F', st⟩
    obtain ⟨Pu, ou, sub, nu⟩ := slot st.rel st.sts.nd sm
    exact fin .non H' ⟨Z', [], Pu, st.ext.sub fun a m => List.mem_append_left _ (sub a m), st.same, .v .non, ou, nu⟩
  | ret o e' =>
    simp only [finish] at hsem
    cases hsem
    intro x σ' H' sm ⟨Z', F', Px, st, rx⟩
    obtain ⟨Pu, ou, sub, nu⟩ := slot st.rel st.sts.nd sm
    have n2 := List.nodup_append.mp st.nd
    refine fin x H' ⟨Z', Px, Pu, st.ext.sub fun a m => ?_, st.same, rx, ou, ?_⟩
    · rcases List.mem_append.mp m with m | m
      · exact List.mem_append_right _ m
      · exact List.mem_append_left _ (sub a m)
    · rw [List.nodup_append]
      exact ⟨n2.2.1, nu, fun a m b mb q => n2.2.2 b (sub b mb) a m q.symm⟩
end

/-! ### the head: no list stands in the written part -/
def isLst (o : Obj) : Bool := match o.cls with
  | .type c => decide (c = "list")
  | _ => false
def noL (K : Frag) : Prop := ∀ a o, K.lookup a = some o → isLst o = false
def cutL (K : Frag) : Frag := K.filter fun p => !isLst p.2
theorem lookup_mem {K : Frag} {a : Addr} {o : Obj} : K.lookup a = some o → (a, o) ∈ K := by
  induction K with
  | nil => intro h; cases h
  | cons p r ih =>
    intro h
    obtain ⟨b, u⟩ := p
    rw [List.lookup_cons] at h
    cases q : (a == b) with
    | true =>
      rw [q] at h
      cases h
      rw [beq_iff_eq.mp q]
      exact List.mem_cons_self ..
    | false =>
      rw [q] at h
      exact List.mem_cons_of_mem _ (ih h)
theorem cutL_no (K : Frag) : noL (cutL K) := fun a o h => by
  have m := List.mem_filter.mp (lookup_mem h)
  simpa using m.2
theorem cutL_in {g : Addr → Option Obj} {as : List Addr} {h : Heap} (hg : ∀ a, g a = h.get? a) : (cutL (He.frG g as)).In h := fun a o e => by
  have m := (List.mem_filter.mp (lookup_mem e)).1
  unfold He.frG at m
  obtain ⟨b, _, hb⟩ := List.mem_filterMap.mp m
  cases q : g b with
  | none => rw [q] at hb; cases hb
  | some u =>
    rw [q] at hb
    cases hb
    rw [← hg, q]
def obsL (n : Nat) (fa : List He.Fa) (fn : List He.DefD) (g : Addr → Option Obj) : He.AlD := He.obsD fa fn (cutL (He.frG g (He.asD g n)))
def hookL (n : Nat) (fa : List He.Fa) (fn : List He.DefD) : PySem.W.Hook where
  α := He.AlD
  obs := fun s => obsL n fa fn s.heap.get?
  val := fun _ => He.valD fn
  says := fun _ h => ∃ K : Frag, K.In h ∧ noL K ∧ He.SaysD fa fn K
  of := fun _ _ e => ⟨_, cutL_in fun _ => rfl, cutL_no _, e⟩
  keeps := fun _ _ _ ⟨K, hK, n, c⟩ k => ⟨K, PySem.W.Frag.In.keeps hK k, n, c⟩
theorem obsL_eq {n : Nat} {fa : List He.Fa} {fn : List He.DefD} {g : Addr → Option Obj} {s : Shared} (h : ∀ a, g a = s.heap.get? a) : obsL n fa fn g = (hookL n fa fn).obs s := by
  have e : g = s.heap.get? := funext h
  rw [e] <;> rfl

/-! ### the law's call -/
def intsO (ns : List Int) : O := .v (.list (ns.map PyData.int))
theorem dr_ints {Z : Hp} : ∀ ns : List Int, DrAll Z (ns.map V.int) (ns.map PyData.int)
  | [] => .nil
  | n :: ns => .cons (.int n) (dr_ints ns)
theorem law_G {P : Program} {w : World} {K : Frag} {mg mb : Str → Option Value} {k : Nat} {fa a : Addr} {fd : FuncData} {g : FnE} {x : Str} {s1 : Shared} {vs : List Value} {ns : List Int} (hin : K.In s1.heap) (hno : noL K) (hns : s1.heap.Ns mainGlobals mg)
    (hb : s1.heap.Ns builtinsNs mb) (hbb : ∀ x : Str, x ≠ "__name__" → mb x = bootBuiltins x) (hlim : s1.heap.NoLimit) (hg : s1.gens = #[]) (ha : s1.heap.get? a = some { cls := .type "list", data := .seq vs.toArray }) (hi : IntsAre vs ns) (hl : ns.length ≤ sizeLine) (hr : Room k callerA)
    (F : ∀ base : Heap, K.In base → base.Ns mainGlobals mg → FnG P w K mg base k fa fd [x] (spOf K g)) (hps : g.ps = [x]) (hbind : ∀ (s : Shared) (u : Value), BindsTo s fd ⟨[u], []⟩ [(x, u)]) (hsem : ∃ out, g.sem [intsO ns] = .ok (.v (.bool true)) out) :
    codeAny (model P w) callerA (.call (.ref fa) ⟨[.ref a], []⟩) (fun r s' => r = .ok (.ret (.bool true)) ∧ OldK s1.heap s'.heap ∧ s'.os = s1.os ∧ AllBare s'.gens) s1 := by
  have rv := vals_ints hi
  have ka : K.lookup a = none := by
    cases q : K.lookup a with
    | none => rfl
    | some o =>
      have e := hin a o q
      rw [ha] at e
      cases e
      have := hno a _ q
      simp [isLst] at this
  obtain ⟨H, hH⟩ : ∃ H : Hp, H = fun b => if b = a then some (.frz { cls := .type "list", data := .seq vs.toArray } (.lst (ns.map V.int))) else none := ⟨_, rfl⟩
  have atA : H a = some (.frz { cls := .type "list", data := .seq vs.toArray } (.lst (ns.map V.int))) := by rw [hH]; exact if_pos rfl
  have off : ∀ b, b ≠ a → H b = none := fun b n => by rw [hH]; exact if_neg n
  have hok : HOk P w H s1.heap := fun b u e => by
    by_cases c : b = a
    · subst c
      rw [atA] at e
      cases e
      exact ⟨ha, by rw [List.length_map]; exact hl, vs, _, rv, ha⟩
    · rw [off b c] at e
      cases e
  have back : ∀ {b : Addr} {o : Obj}, s1.heap.get? b = some o → b ≠ a → (hidT s1.heap H).get? b = some o := fun e n => hidT_get e (off _ n)
  have nsk : ∀ {b : Addr} {m : Str → Option Value}, s1.heap.Ns b m → (hidT s1.heap H).Ns b m := by
    rintro b m ⟨o, es, ep, e, d, r⟩
    refine ⟨o, es, ep, back e fun z => ?_, d, r⟩
    rw [z, ha] at e
    cases e
    cases (show Data.seq vs.toArray _ = Data.dict es ep from d)
  have inb : K.In (hidT s1.heap H) := fun b o e => back (hin b o e) fun z => by rw [z, ka] at e; cases e
  have md : Mod K mg (hidT s1.heap H) := ⟨inb, nsk hns, ⟨mb, nsk hb, hbb⟩, let ⟨mc, p, q⟩ := hlim; ⟨mc, nsk p, q⟩⟩
  have e0 : Env0 P w K mg (hidT s1.heap H) callerA [] s1 H := by
    refine ⟨rfl, md, fun b o e => of_hidT e, Nat.le_of_eq (hidT_size _ _), trivial, fun b z => ?_, hok, .of_eq hg⟩
    exact absurd (show b ∈ ([] : List Addr) from z) (by simp)
  obtain ⟨out, hsem⟩ := hsem
  have sp : spOf K g [.ref a] H (fun v _ => v = .bl true) := by
    refine ⟨by rw [hps]; rfl, H, [intsO ns], [], same_refl _, List.nodup_nil, ORs.cons (F := []) (.v (.lst (.inr ⟨_, atA⟩) (dr_ints ns))) .nil, .v (.bool true), out, hsem, ?_⟩
    rintro v H' ⟨Z', Pz, Pu, _, _, r, _⟩
    cases r with
    | v d => cases d; rfl
  refine codeAny_mono ((F _ inb (nsk hns)).run callerA [] s1 H ⟨[.ref a], []⟩ [.ref a] [.ref a] _ hr rfl e0 (hbind s1 (.ref a)) (.cons rfl .nil) sp) ?_
  intro r s' h
  match r, h with
  | .ok (.ret u), h =>
    obtain ⟨v, H', os, bare, un, hok', rv', q⟩ := h
    subst q
    obtain rfl : u = Value.bool true := rv'
    refine ⟨rfl, OldK.of_keep fun b o e => ?_, os, bare⟩
    by_cases c : b = a
    · subst c
      have z := un.frzs b _ _ atA
      obtain ⟨e2, _⟩ := hok' b _ z
      rw [ha] at e
      cases e
      exact e2
    · exact un.keep b o e (off b c) (fun z => absurd (show b ∈ ([] : List Addr) from z) (by simp)) (by simp)
/-- the whole of a law behind its head -/
theorem walk_G {l : PySem.W.OpenLaw} {n k : Nat} {q : Program} {loose : List Str} {XP : (Str → Option Value) → Heap → Prop} {YP : World → Heap → Prop} {d : DefRec} {x : Str} {g : FnE} (hn : l.most = some n) (hn2 : n ≤ sizeLine) (hdf : d.params.defaults = []) (hr : Room k callerA) (hps : g.ps = [x])
    (F : ∀ (w : World) (mg : Str → Option Value) (fa : Addr) (h : Heap), YP w h → h.Ns mainGlobals mg → mg d.name = some (.ref fa) → ∃ (K : Frag) (fd : FuncData), K.In h ∧ noL K ∧ (∀ (s : Shared) (u : Value), BindsTo s fd ⟨[u], []⟩ [(x, u)]) ∧ ∀ base : Heap, K.In base → base.Ns mainGlobals mg → FnG l.prog w K mg base k fa fd [x] (spOf K g))
    (plain : ∀ ns : List Int, ns.length ≤ n → (∀ z ∈ ns, Builtin.Int.intBits z ≤ 1048576) → ∃ out, g.sem [intsO ns] = .ok (.v (.bool true)) out) :
    PySem.W.WalkO q loose XP YP l.row.toRowW d [] (fun f vs => PySem.call f vs) := by
  refine Att.attach_callB hn hdf fun w s0 s1 mg mb fa o pm cd doc a vs ns G Y _ _ _ hmg hobj hints hlen hbits hg => ?_
  obtain ⟨K, fd, hin, hno, hb, hF⟩ := F w mg fa _ Y G.T.g hmg
  exact law_G hin hno G.T.g G.T.b G.T.builtins G.T.nolimit hg hobj hints (Nat.le_trans hlen hn2) hr hF hps hb (plain ns hlen hbits)
end Ev
set_option Elab.async false
set_option linter.all false
set_option maxRecDepth 100000
/-! Ev19: the operations' rows in the text. -/
namespace Ev
open PySem PySem.Spec PyProof.Rows L2

/-- what the check of a text looks at: the slots' names, the scope, which names the block stores, the callees, the built-in names -/
structure Cc where
  N : List Str
  sc : Scope
  fp : Str → Bool
  sg : List (Str × List Str × List (List Nat))
  G : List Str
def glb (C : Cc) (x : Str) : Bool := (match C.sc.names.lookup x with
  | some .globalImplicit => true
  | _ => false) && C.G.contains x
structure Good (X : Cx) (C : Cc) (L : List FnE) : Prop where
  N : X.N = C.N
  sc : X.env.scope = C.sc
  fp : X.fn = C.fp
  nd : X.N.Nodup
  calm : X.calm = true
  gd : X.A.guards = some []
  un : X.A.units + 66 < cLine
  free : ∀ x ∈ C.G, X.mg x = none
  fns : ∀ (f : Nat) (g : FnE), L[f]? = some g → ∃ (k : Nat) (fa : Addr) (fd : FuncData) (kws : List (List Nat)), C.sg[f]? = some (g.name, g.ps, kws) ∧ X.mg g.name = some (.ref fa) ∧ PySem.W.keepIn X.K (.ref fa) = true ∧ Room k X.A ∧ FnG X.prog X.w X.K X.mg X.base k fa fd g.ps (spOf X.K g) ∧ Binds X.K fd g.ps [] ∧ ∀ ks ∈ kws, KwB fd g.ps ks
section
variable {X : Cx} {W : WX} {L : List FnE} {σ : Sg} {H : Hp} {C : Cc}
theorem Good.gl (g : Good X C L) {x : Str} (h : glb C x = true) : Gl X x ∧ X.mg x = none := by
  unfold glb at h
  rw [Bool.and_eq_true] at h
  refine ⟨?_, g.free x (List.contains_iff_mem.mp h.2)⟩
  unfold Gl Env.kindOf
  rw [g.sc]
  have := h.1
  split at this
  · assumption
  · cases this
/-! ### readings weakened -/
theorem tG_mono {α β : Type} {m : Ve → Res α} {End : Frag → Sg → Hp → Hp → List Addr → Ve → β → α → Hp → Prop} {Q Q' : β → Hp → Prop} (h : tG X W m End σ H Q) (k : ∀ x H', Q x H' → Q' x H') : tG X W m End σ H Q' := by
  obtain ⟨Z, e, F, s, g⟩ := h
  refine ⟨Z, e, F, s, ?_⟩
  cases q3 : m e with
  | err c d e1 => simp only [q3, outG] at g ⊢; exact g
  | stuck => simp only [q3, outG] at g
  | ok o e1 =>
    simp only [q3, outG] at g ⊢
    exact fun x H1 en => k x H1 (g x H1 en)
theorem un_up {p : Prim} {a : IP} {r : V → Hp → VK → Prop} (pv : ∀ x H Q, PrimPre X.K p [x] H Q → r x H Q) {Q : VK} (h : tR X W (den L (.prim p [a])) σ H Q) : tUn r (tP X W (denP L a)) σ H Q :=
  tG_mono (tV_cons (prim_pre h)) fun x H1 q => pv x H1 Q (tV_nil q)
theorem bin_up {p : Prim} {a b : IP} {r : R2} (pv : ∀ x y H Q, PrimPre X.K p [x, y] H Q → r x y H Q) {Q : VK} (h : tR X W (den L (.prim p [a, b])) σ H Q) : tOp r (tP X W (denP L a)) (tP X W (denP L b)) σ H Q :=
  tG_mono (tV_cons (prim_pre h)) fun x H1 q => tG_mono (tV_cons q) fun y H2 q => pv x y H2 Q (tV_nil q)
theorem cb_up {p : Prim} {as : List IP} {r : List V → Hp → VK → Prop} (pv : ∀ xs H Q, PrimPre X.K p xs H Q → r xs H Q) {Q : VK} (h : tR X W (den L (.prim p as)) σ H Q) : tCB r (tV X W (denPs L as)) σ H Q :=
  tG_mono (prim_pre h) fun xs H1 q => pv xs H1 Q q

/-- operands and their rows -/
inductive PP (X : Cx) (W : WX) (L : List FnE) : List Expr → List IP → Prop
  | nil : PP X W L [] []
  | cons {e : Expr} {es : List Expr} {a : IP} {as : List IP} : PE X e (tP X W (denP L a)) → PP X W L es as → PP X W L (e :: es) (a :: as)
theorem PP.one {e : Expr} {as : List IP} (h : PP X W L [e] as) : ∃ a, as = [a] ∧ PE X e (tP X W (denP L a)) := by
  cases h with
  | cons a r => cases r; exact ⟨_, rfl, a⟩
theorem PP.two {e e2 : Expr} {as : List IP} (h : PP X W L [e, e2] as) : ∃ a b, as = [a, b] ∧ PE X e (tP X W (denP L a)) ∧ PE X e2 (tP X W (denP L b)) := by
  cases h with
  | cons a r => cases r with | cons b r => cases r; exact ⟨_, _, rfl, a, b⟩
theorem PP.three {e e2 e3 : Expr} {as : List IP} (h : PP X W L [e, e2, e3] as) : ∃ a b c, as = [a, b, c] ∧ PE X e (tP X W (denP L a)) ∧ PE X e2 (tP X W (denP L b)) ∧ PE X e3 (tP X W (denP L c)) := by
  cases h with
  | cons a r => cases r with | cons b r => cases r with | cons c r => cases r; exact ⟨_, _, _, rfl, a, b, c⟩
theorem PP.pa : ∀ {es : List Expr} {as : List IP}, PP X W L es as → es.all plainArg = true → PA X es (tV X W (denPs L as))
  | _, _, .nil, _ => pa_nil.up fun σ H Q q => tV_nil q
  | _, _, .cons a r, h => by
    rw [List.all_cons, Bool.and_eq_true] at h
    exact (pa_consP h.1 a (PP.pa r h.2)).up fun σ H Q q => tV_cons q

/-! ### what the rules ask besides -/
def notSuper : Expr → Bool
  | .Call .. => false
  | _ => true
theorem base_ok {o : Expr} {m : Str} {env : Env} {t : Sem Value} (h : notSuper o = true) : attributeBase o m env t = t := by
  cases o <;> first | rfl | cases h
def plainIx : Expr → Bool
  | .Slice .. => false
  | .Tuple .. => false
  | _ => true
theorem ix_ok {b : Expr} (h : plainIx b = true) : PlainIx b := by
  cases b <;> first | (intro _ _; rfl) | cases h
def marks : Expr → Bool
  | .Set .. => false
  | _ => true
theorem mark_ok {op : CmpOp} {b : Expr} (h : marks b = true) : behindInMarks op b = false := by
  cases b <;> first | rfl | cases h
def rReprE : List V → Hp → VK → Prop := fun xs H Q => ∃ x d, xs = [x] ∧ Dr H x d ∧ reprOk d = true ∧ Q (.str d.shown) H
theorem call_reprE (hg : X.A.guards = some []) (hu : X.A.units + 66 < cLine) : CallR X (.builtin "repr") rReprE := by
  intro pins s σ H xs us Q J r ⟨x, d, ex, hd, ok, q⟩
  subst ex
  unfold reprOk at ok
  simp only [Bool.and_eq_true, decide_eq_true_eq] at ok
  obtain ⟨⟨⟨hk, hs⟩, hsh⟩, hz⟩ := ok
  unfold SeqAt.shaped at hs
  rw [Bool.and_eq_true] at hs
  have hdep : d.depth ≤ 64 := of_decide_eq_true hs.2
  cases r with
  | cons r rr =>
    cases rr
    obtain ⟨as, rd⟩ := Dp.reads J d x _ (hd.dp (K := X.K)) r
    have ref : ∀ a, x = .ref a → wpAny (model X.prog X.w) X.A (call (.builtin "repr") [.ref a]) (EP X pins σ Q) X.xe s := fun a e => by
      subst e
      cases r
      exact repr_of_reads' rd hsh (PyData.noDict_hsm (PyData.hasDict_of_canLay d hs.1)) hg (by omega) (fun _ _ e => e) (fun h' u tk k => ⟨.str _, H, J.kept k, ⟨u, rfl⟩, q⟩) hz
    cases hd with
    | int i =>
      obtain ⟨t, e⟩ := (show ∃ t, _ = Value.int i t from r)
      subst e
      exact PySem.P.repr_of_int (of_decide_eq_true (by simpa [PyData.showable] using hsh)) ⟨.str _, H, J.tok _, ⟨_, rfl⟩, q⟩
    | lst _ _ => cases r; exact ref _ rfl
    | tup _ _ => cases r; exact ref _ rfl
    | non => cases hk
    | bl b => cases hk
    | str z => cases hk
theorem pv_repr {x : V} {Q : VK} (h : PrimPre X.K .repr [x] H Q) : rReprE [x] H Q := by
  obtain ⟨Z, P, s, o, r, hs, h1, nd, e, fin⟩ := pre1 (fun _ => rfl) h
  split at e
  · rename_i c
    cases e
    exact ⟨x, _, rfl, h1.dr hs, c, fin _ _ (pend_str hs _)⟩
  · cases e
/-! ### order -/
theorem ors_trip {K : Frag} {Z H : Hp} : ∀ {vs : List V} {os : List O} {P : List Addr}, ORs K Z H vs os P →
    ∃ bs : List (V × O × List Addr), vs = bs.map (·.1) ∧ os = bs.map (·.2.1) ∧ P = (bs.map (·.2.2)).flatten ∧ ∀ b ∈ bs, OR K Z H b.1 b.2.1 b.2.2
  | _, _, _, .nil => ⟨[], rfl, rfl, rfl, fun _ h => by cases h⟩
  | _, _, _, .cons (x := x) (o := o) (F := F) r rs => by
    obtain ⟨bs, h1, h2, h3, h4⟩ := ors_trip rs
    refine ⟨(x, o, F) :: bs, by rw [h1]; rfl, by rw [h2]; rfl, by rw [h3]; rfl, fun b m => ?_⟩
    rcases List.mem_cons.mp m with e | e
    · subst e; exact r
    · exact h4 b e
theorem trip_ors {K : Frag} {Z H : Hp} : ∀ {bs : List (V × O × List Addr)}, (∀ b ∈ bs, OR K Z H b.1 b.2.1 b.2.2) → ORs K Z H (bs.map (·.1)) (bs.map (·.2.1)) (bs.map (·.2.2)).flatten
  | [], _ => .nil
  | b :: bs, h => by
    simp only [List.map_cons, List.flatten_cons]
    exact ORs.cons (h b List.mem_cons_self) (trip_ors fun c m => h c (List.mem_cons_of_mem _ m))
theorem sortable_sp {ds : List D} (h : sortable ds = true) : PySem.W.AllAlike ds ∧ PySem.W.Sortable ds ∧ ∀ d ∈ ds, d.depth ≤ 64 := by
  unfold sortable at h
  simp only [Bool.and_eq_true, Bool.or_eq_true, List.all_eq_true] at h
  obtain ⟨⟨h1, h2⟩, h3⟩ := h
  refine ⟨fun d m d' m' => h1 d m d' m', ?_, fun d m => ?_⟩
  · rcases h2 with h2 | h2
    · refine .inl fun d m => ?_
      have := h2 d m
      unfold tupNE at this
      split at this
      · exact ⟨_, _, rfl⟩
      · cases this
    · refine .inr fun d m => ?_
      have := h2 d m
      unfold plainKey at this
      split at this
      · cases this
      · cases this
      · rename_i n1 n2
        exact ⟨fun e => n1 e, fun xs e => n2 xs e⟩
  · have := h3 d m
    unfold SeqAt.shaped at this
    rw [Bool.and_eq_true] at this
    exact of_decide_eq_true this.2
def rSortedD (K : Frag) : List V → Hp → VK → Prop := fun vs H Q => ∃ (a : Addr) (bs : List (V × O × List Addr)), vs = [V.ref a] ∧ SqL K H a (bs.map (·.1)) ∧ (∀ b ∈ bs, Dr H b.1 b.2.1.d) ∧ sortable (bs.map fun b => b.2.1.d) = true ∧
  ∀ p, H p = none → Q (.ref p) (upd H p (.lst ((bs.mergeSort (PySem.W.dataLe false fun b => b.2.1.d)).map (·.1))))
theorem each_vals {bs : List (V × O × List Addr)} : ∀ {its : List Value}, Vals (bs.map (·.1)) its → PySem.W.EachIs (fun v (b : V × O × List Addr) => RelV b.1 v) its bs := by
  induction bs with
  | nil => intro its r; cases r; exact .nil
  | cons b bs ih => intro its r; cases r with | cons a t => exact .cons a (ih t)
theorem vals_each {bs : List (V × O × List Addr)} : ∀ {its : List Value}, PySem.W.EachIs (fun v (b : V × O × List Addr) => RelV b.1 v) its bs → Vals (bs.map (·.1)) its := by
  induction bs with
  | nil => intro its r; cases r; exact .nil
  | cons b bs ih => intro its r; cases r with | cons a t => exact .cons a (ih t)
theorem each_imp {α β : Type} {R S : α → β → Prop} : ∀ {xs : List α} {bs : List β}, PySem.W.EachIs R xs bs → (∀ x, ∀ b ∈ bs, R x b → S x b) → PySem.W.EachIs S xs bs
  | _, _, .nil, _ => .nil
  | _, _, .cons a t, h => .cons (h _ _ List.mem_cons_self a) (each_imp t fun x b m r => h x b (List.mem_cons_of_mem _ m) r)
theorem cr_sortedD (hu : X.A.units + 66 < cLine) : CallR X (.builtin "sorted") (rSortedD X.K) := by
  intro pins s σ H vs us Q I r h
  obtain ⟨a, bs, rfl, hs, hd, hso, q⟩ := h
  obtain ⟨its, rv, hl, hz⟩ := I.list hs
  rw [Vals.ref1 r]
  obtain ⟨h1, h2, h3⟩ := sortable_sp hso
  have el := rv.length
  rw [List.length_map] at el hz
  refine PySem.W.sorted_data (R := fun v (b : V × O × List Addr) => RelV b.1 v) (enc := fun b => b.2.1.d) (bs := bs) hl.isList (each_vals rv) (each_imp (each_vals rv) fun v b m rr => ?_) h1 h2 hz (fun b m => ?_) fun out hlen ho => ?_
  · obtain ⟨as, rd⟩ := Dp.reads I b.2.1.d b.1 _ ((hd b m).dp (K := X.K)) rr
    exact ⟨as, rd⟩
  · have := h3 b.2.1.d (List.mem_map_of_mem (f := fun b : V × O × List Addr => b.2.1.d) m)
    show X.A.units + 2 + b.2.1.d.depth < cLine
    omega
  · have vo := vals_each ho
    obtain ⟨ep, he'⟩ := PyProof.Rows.sortedAll_at s.heap its out.toArray
    have hlen2 : ((bs.mergeSort (PySem.W.dataLe false fun b => b.2.1.d)).map (·.1)).length ≤ sizeLine := by
      rw [List.length_map, List.length_mergeSort]
      exact hz
    exact ⟨.ref _, upd H (s.heap.objs.size + 1) (.lst ((bs.mergeSort (PySem.W.dataLe false fun b => b.2.1.d)).map (·.1))), I.laid (t' := s.toks) (fun _ _ => PyProof.Rows.sortedAll_old) (Nat.le_succ _) ⟨hlen2, out, ep, vo, he'⟩, rfl, q _ (I.hok.fresh (Nat.le_succ _))⟩
theorem pv_sortedD {x : V} {Q : VK} (h : PrimPre X.K .sorted [x] H Q) : rSortedD X.K [x] H Q := by
  obtain ⟨Z, P, s, o, r, hs, h1, nd, e, fin⟩ := pre1 (fun _ => rfl) h
  split at e
  · rename_i xs he
    split at e
    · rename_i c
      cases e
      obtain ⟨a, vs, P', rfl, hq, ro, sub, ng⟩ := h1.elems hs he
      obtain ⟨bs, rfl, rfl, rfl, hb⟩ := ors_trip ro
      refine ⟨a, bs, rfl, .inl (by simpa using hq), fun b m => (hb b m).dr hs, ?_, fun p np => fin _ _ ?_⟩
      · rw [O.ds_map, List.map_map] at c
        exact c
      · have pm : (bs.mergeSort (PySem.W.dataLe false fun b => b.2.1.d)).Perm bs := List.mergeSort_perm _ _
        have em : sortO (bs.map (·.2.1)) = (bs.mergeSort (PySem.W.dataLe false fun b => b.2.1.d)).map (·.2.1) := by
          unfold sortO
          exact (List.map_mergeSort (f := fun b : V × O × List Addr => b.2.1) (r := PySem.W.dataLe false fun b => b.2.1.d) (s := PySem.W.dataLe false O.d) fun _ _ _ _ => rfl).symm
        have pf : ((bs.mergeSort (PySem.W.dataLe false fun b => b.2.1.d)).map (·.2.2)).flatten.Perm (bs.map (·.2.2)).flatten := (pm.map _).flatten
        rw [em]
        exact pend_lst hs (trip_ors fun b m => hb b (pm.mem_iff.mp m)) (fun a m => sub a (pf.mem_iff.mp m)) (pf.nodup_iff.mpr (ng nd)) np
    · cases e
  · cases e
end
end Ev
set_option Elab.async false
set_option linter.all false
set_option maxRecDepth 100000
/-! Ev20: a list, a tuple turned round. -/
namespace Ev
open PySem PySem.Spec PyProof.Rows L2

section
variable {prog : Program} {w : World} {A : Around} {E : Value → Shared → Prop} {s : Shared}
theorem pick_rev (xs : Array Value) : ((List.range xs.size).filterMap fun (m : Nat) => xs[((xs.size : Int) - 1 + (m : Int) * (-1)).toNat]?).toArray = xs.toList.reverse.toArray := by
  congr 1
  have e : ∀ m ∈ List.range xs.size, xs[((xs.size : Int) - 1 + (m : Int) * (-1)).toNat]? = xs.toList.reverse[m]? := fun m hm => by
    have hm := List.mem_range.mp hm
    have h1 : ((xs.size : Int) - 1 + (m : Int) * (-1)).toNat = xs.size - 1 - m := by omega
    rw [h1, List.getElem?_reverse (by simpa using hm)]
    simp
  have cong : ∀ (l : List Nat) (f g : Nat → Option Value), (∀ m ∈ l, f m = g m) → l.filterMap f = l.filterMap g := fun l f g h => by
    induction l with
    | nil => rfl
    | cons a l ih => rw [List.filterMap_cons, List.filterMap_cons, h a (List.mem_cons_self ..), ih fun m hm => h m (List.mem_cons_of_mem _ hm)]
  rw [cong _ _ _ e]
  have key : ∀ (l : List Value), (List.range l.length).filterMap (fun m => l[m]?) = l := fun l => by
    induction l with
    | nil => rfl
    | cons a l ih =>
      rw [List.length_cons, List.range_succ_eq_map, List.filterMap_cons]
      simp only [List.getElem?_cons_zero, List.filterMap_map]
      congr 1
  have := key xs.toList.reverse
  rw [List.length_reverse, Array.length_toList] at this
  exact this
theorem sliceApplied_rev {sl : Addr} {vl vu vs : Value} {n : Nat} {Q : Int × Int × Nat → Shared → Prop} (hs : s.heap.IsSliceOf sl vl vu vs) (pl : IsPart vl none) (pu : IsPart vu none) (ps : IsPart vs (some (-1)))
    (h : Q ((n : Int) - 1, -1, n) s) : wpAny (model prog w) A (Builtin.Slice.sliceApplied (.ref sl) (pure (n : Int))) Q E s := by
  obtain ⟨os, hos, hcs, hds⟩ := id hs
  unfold Builtin.Slice.sliceApplied Builtin.Slice.sliceFields
  refine wpAny_bind (wpAny_bind (wpAny_field hos hds (x := vl) rfl (wpAny_bind (wpAny_field hos hds (x := vu) rfl (wpAny_bind (wpAny_field hos hds (x := vs) rfl (wpAny_pure ?_)))))))
  refine wpAny_bind (HT.slicePart_ ps ?_)
  show wpAny _ _ (if ((-1 : Int) == 0) = true then _ else _) _ _ s
  rw [if_neg (by decide)]
  refine wpAny_bind (HT.slicePart_ pl (wpAny_bind (HT.slicePart_ pu (wpAny_bind (wpAny_pure ?_)))))
  show wpAny _ _ (match Builtin.Slice.sliceAdjust none none (-1) (n : Int) with | (lo, hi) => pure (lo, (-1 : Int), Builtin.Slice.slicePlaces lo hi (-1))) _ _ s
  have e1 : Builtin.Slice.sliceAdjust none none (-1) (n : Int) = ((n : Int) - 1, -1) := rfl
  rw [e1]
  have e2 : Builtin.Slice.slicePlaces ((n : Int) - 1) (-1) (-1) = n := by
    unfold Builtin.Slice.slicePlaces
    rw [if_neg (by decide)]
    split
    · rw [show (-(-1) : Int) = 1 from rfl, Int.ediv_one]
      omega
    · omega
  show wpAny _ _ (pure ((n : Int) - 1, (-1 : Int), Builtin.Slice.slicePlaces ((n : Int) - 1) (-1) (-1))) _ _ s
  rw [e2]
  exact wpAny_pure h
theorem getItem_tuple_rev {t sl : Addr} {items : Array Value} {vl vu vs : Value} {Q : Value → Shared → Prop} (ht : IsTup s.heap t items) (hs : s.heap.IsSliceOf sl vl vu vs) (pl : IsPart vl none) (pu : IsPart vu none) (ps : IsPart vs (some (-1)))
    (h : Q (.ref s.heap.objs.size) { s with heap := s.heap.push { cls := .type "tuple", data := .seq items.toList.reverse.toArray } }) (hsz : items.size ≤ sizeLine) : wpAny (model prog w) A (getItem (.ref t) (.ref sl)) Q E s := by
  obtain ⟨os, hos, hcs, hds⟩ := id hs
  have hTs : s.TypeIs (.ref sl) "slice" := ⟨os, hos, hcs⟩
  have hok : sizeOk (.seq items.toList.reverse.toArray) := by
    show items.toList.reverse.toArray.size ≤ sizeLine
    simpa using hsz
  unfold getItem
  try with_reducible refine wpAny_holding ?_
  first | refine wpAny_bind (wpAny_pure ?_) | skip
  refine wpAny_bind (wpAny_sequenceKey ht.typeIs (by decide) ?_)
  refine wpAny_bind (wpAny_callSpecial?_slot (name := Str.ofString "__getitem__") ht.typeIs PyProof.Rows.slot_tuple_getitem
    (wpAny_call_entry PyProof.Rows.slot_tuple_getitem ht.typeIs entry_tuple_getitem ?_ (args_tuple_getitem _ _)))
  show wpAny _ _ (Builtin.Tuple.tupleItemsOf (.ref t) >>= _) _ _ s
  refine wpAny_bind (PyProof.Rows.tupleItemsOf_ ht ?_)
  refine wpAny_bind (wpAny_typeOf hTs ?_)
  rw [if_pos (by decide)]
  refine wpAny_bind (sliceApplied_rev hs pl pu ps ?_)
  have hno : ¬ ((((items.size : Int) - 1) == 0 && (-1 : Int) == 1 && items.size == items.size) = true) := by
    intro q
    rw [Bool.and_eq_true, Bool.and_eq_true] at q
    exact absurd q.1.2 (by decide)
  show wpAny _ _ (if (((items.size : Int) - 1) == 0 && (-1 : Int) == 1 && items.size == items.size) = true then _ else _) _ _ s
  rw [if_neg hno, pick_rev]
  first
    | exact wpAny_bind (m := Builtin.Tuple.tupleExact _) (wpAny_newObj_type (wpAny_pure ⟨_, rfl, wpAny_pure h⟩) hok)
    | exact wpAny_bind (m := Builtin.Tuple.tupleExact _) (wpAny_newObj_type (wpAny_bind (wpAny_pure (wpAny_pure ⟨_, rfl, wpAny_pure h⟩))) hok)
    | exact wpAny_bind (wpAny_bind (m := Builtin.Tuple.tupleExact _) (wpAny_newObj_type (wpAny_pure (wpAny_pure ⟨_, rfl, wpAny_pure h⟩)) hok))
    | exact wpAny_bind (wpAny_bind (m := Builtin.Tuple.tupleExact _) (wpAny_newObj_type (wpAny_pure ⟨_, rfl, wpAny_pure h⟩) hok))
end
/-- xs[::-1], a list or a tuple -/
theorem pe_revE {X : Cx} {e : Expr} {te : TE} {k : Nat} {p1 p2 p3 pos : Pos} (he : PE X e te) : PE X (.Subscript e (.Slice none none (some (.UnaryOp .USub (.Constant (.int 1) k p1) p2)) p3) pos) (tUn rRevE te) := by
  have hst : PO X (some (.UnaryOp .USub (.Constant (.int 1) k p1) p2)) (tPart (tUn (rU fun i => .int (-i)) (tC (.int 1)))) := po_some (pe_un un_neg pe_int)
  refine ⟨fun pins s σ H Q J h => Subscript_ (thn (he.run pins s σ H _ J h) ?_)⟩
  intro v s1 ⟨x, H1, J1, r1, a, xs, ex, q⟩
  subst ex
  cases r1
  refine wpAny_Slice (thn (po_none.run pins s1 σ H1 (fun o H2 => o = none ∧ H2 = H1) J1 ⟨rfl, rfl⟩) fun vl s2 ⟨_, H2, J2, pl, e1, e2⟩ => ?_)
  subst e1 e2
  refine thn (po_none.run pins s2 σ H2 (fun o H3 => o = none ∧ H3 = H2) J2 ⟨rfl, rfl⟩) fun vu s3 ⟨_, H3, J3, pu, e1, e2⟩ => ?_
  subst e1 e2
  refine thn (hst.run pins s3 σ H3 (fun o H4 => o = some (-1) ∧ H4 = H3) J3 ⟨1, rfl, -1, rfl, rfl, rfl⟩) fun vs s4 ⟨_, H4, J4, ps, e1, e2⟩ => ?_
  subst e1 e2
  have J5 : Inv X pins σ H4 { s4 with heap := s4.heap.push { cls := .type "slice", data := .fields #[vl, vu, vs] } } := J4.kept (t' := s4.toks) fun b o e => Heap.get?_push_of_some _ e
  show wpAny (model X.prog X.w) X.A (subscriptTail e (.Slice none none (some (.UnaryOp .USub (.Constant (.int 1) k p1) p2)) p3) (.ref a) (.ref s4.heap.objs.size)) (EP X pins σ Q) X.xe { s4 with heap := s4.heap.push { cls := .type "slice", data := .fields #[vl, vu, vs] } }
  rcases q with ⟨hq, q⟩ | ⟨hq, q⟩
  · obtain ⟨its, r, ht, hz⟩ := J5.list (.inl hq)
    have hl := r.length
    refine tail_any (ops := [.ref a, .ref s4.heap.objs.size]) ht.isList.typeIs (PySem.slot_list_getitem.lookup) ?_ (by with_unfolding_all rfl)
    refine wpAny_getItem_list_slice ht.isList (Heap.IsSliceOf.new _ vl vu vs) pl pu ps (by decide) ?_ (by rw [List.size_toArray]; omega)
    rw [PySem.W.krv_pick]
    refine ⟨.ref _, _, J5.laid (t' := s4.toks) (o := .lst xs.reverse) (fun b o e => Heap.get?_push_of_some _ e) (Nat.le_refl _) ⟨by rw [List.length_reverse]; exact hz, _, 0, r.reverse, Heap.get?_push_size _ rfl⟩, rfl, q _ (J5.hok.fresh (Nat.le_refl _))⟩
  · obtain ⟨its, r, ht, hz⟩ := J5.tuple (.inl (.inl hq))
    have hl := r.length
    refine tail_any (ops := [.ref a, .ref s4.heap.objs.size]) ht.typeIs PyProof.Rows.slot_tuple_getitem.lookup ?_ (by with_unfolding_all rfl)
    refine getItem_tuple_rev ht (Heap.IsSliceOf.new _ vl vu vs) pl pu ps ?_ (by rw [List.size_toArray]; omega)
    refine ⟨.ref _, _, J5.laid (t' := s4.toks) (o := .tup xs.reverse) (fun b o e => Heap.get?_push_of_some _ e) (Nat.le_refl _) ⟨by rw [List.length_reverse]; exact hz, its.reverse, r.reverse, ?_⟩, rfl, q _ (J5.hok.fresh (Nat.le_refl _))⟩
    exact IsTup.new _ _
end Ev
set_option Elab.async false
set_option linter.all false
set_option maxRecDepth 100000
/-! Ev21: an operation's row, checked. -/
namespace Ev
open PySem PySem.Spec PyProof.Rows L2

/-! ### the rows -/
def prBin (p : Prim) : Expr → Option (List Expr)
  | .BinOp a o b _ => (match p, o with
    | .add, .Add => some [a, b]
    | .sub, .Sub => some [a, b]
    | .mul, .Mult => some [a, b]
    | .fdiv, .FloorDiv => some [a, b]
    | .mod, .Mod => some [a, b]
    | .pow, .Pow => some [a, b]
    | _, _ => none)
  | _ => none
def prUn (p : Prim) : Expr → Option (List Expr)
  | .UnaryOp o a _ => (match p, o with
    | .neg, .USub => some [a]
    | .not, .Not => some [a]
    | _, _ => none)
  | _ => none
def prCmp (p : Prim) : Expr → Option (List Expr)
  | .Compare a [o] [b] _ => if marks b then (match p, o with
    | .eq, .Eq => some [a, b]
    | .ne, .NotEq => some [a, b]
    | .lt, .Lt => some [a, b]
    | .le, .LtE => some [a, b]
    | .gt, .Gt => some [a, b]
    | .ge, .GtE => some [a, b]
    | .isin, .In => some [a, b]
    | .notin, .NotIn => some [a, b]
    | _, _ => none) else none
  | _ => none
def prIs (p : Prim) : Expr → Option (List Expr)
  | .Compare a [o] [.Constant c _ _] _ => (match p, o, c with
    | .isN, .Is, .none => some [a]
    | .notN, .IsNot, .none => some [a]
    | .isB t, .Is, .bool b => if t == b then some [a] else none
    | _, _, _ => none)
  | _ => none
def prRev (p : Prim) : Expr → Option (List Expr)
  | .Subscript a (.Slice none none (some (.UnaryOp .USub (.Constant (.int i) _ _) _)) _) _ => if p = .rev ∧ i = 1 then some [a] else none
  | _ => none
def prMeth (p : Prim) : Expr → Option (List Expr)
  | .Call (.Attribute o m apos) ks [] pos => if notSuper o && (apos.endLine == pos.line) then (match p, ks with
    | .bitlen, [] => if m == "bit_length" then some [o] else none
    | _, _ => none) else none
  | _ => none
def prIsi (C : Cc) (p : Prim) : Expr → Option (List Expr)
  | .Call (.Name x _) [a, .Name T _] [] _ => (match p with
    | .isinst t => if x == "isinstance" && glb C x && glb C T && T == Str.ofString t && isiOk t && plainArg a then some [a] else none
    | _ => none)
  | _ => none
def prRg (C : Cc) (p : Prim) : Expr → Option (List Expr)
  | .Call (.Name x _) [.Call (.Name y _) es [] _] [] _ => if x == "list" && y == "range" && glb C x && glb C y && es.all plainArg then (match p, es with
    | .range1, [a] => some [a]
    | .range2, [a, b] => some [a, b]
    | _, _ => none) else none
  | _ => none
def prFn (C : Cc) (p : Prim) : Expr → Option (List Expr)
  | .Call (.Name x _) es [] _ => if glb C x && es.all plainArg then (match p, es with
    | .len, [a] => if x == "len" then some [a] else none
    | .sum, [a] => if x == "sum" then some [a] else none
    | .min2, [a, b] => if x == "min" then some [a, b] else none
    | .max2, [a, b] => if x == "max" then some [a, b] else none
    | .divmod, [a, b] => if x == "divmod" then some [a, b] else none
    | .repr, [a] => if x == "repr" then some [a] else none
    | .sorted, [a] => if x == "sorted" then some [a] else none
    | .int, [a] => if x == "int" then some [a] else none
    | .listOf, [a] => if x == "list" then some [a] else none
    | .tupleOf, [a] => if x == "tuple" then some [a] else none
    | _, _ => none) else none
  | _ => none
def prE (C : Cc) (p : Prim) (e : Expr) : Option (List Expr) :=
  (prBin p e).or ((prUn p e).or ((prIs p e).or ((prCmp p e).or ((prRev p e).or ((prMeth p e).or ((prIsi C p e).or ((prRg C p e).or (prFn C p e))))))))

section
variable {X : Cx} {W : WX} {L : List FnE} {C : Cc} {p : Prim} {e : Expr} {es : List Expr} {as : List IP}
abbrev Goal (X : Cx) (W : WX) (L : List FnE) (p : Prim) (e : Expr) (as : List IP) : Prop := PE X e (tR X W (den L (.prim p as)))
theorem ok_bin (h : prBin p e = some es) (a : PP X W L es as) : Goal X W L p e as := by
  unfold prBin at h
  split at h
  · split at h <;> first | (cases h; obtain ⟨x, y, rfl, h1, h2⟩ := a.two) | cases h
    · exact (pe_op (op_addE op_add op_add_str) h1 h2).up fun σ H Q q => bin_up (fun _ _ _ _ w => pv_add w) q
    · exact (pe_op op_sub h1 h2).up fun σ H Q q => bin_up (fun _ _ _ _ w => pv_sub w) q
    · exact (pe_op op_mulE h1 h2).up fun σ H Q q => bin_up (fun _ _ _ _ w => pv_mul w) q
    · exact (pe_op op_fdivW h1 h2).up fun σ H Q q => bin_up (fun _ _ _ _ w => pv_fdiv w) q
    · exact (pe_op op_mod h1 h2).up fun σ H Q q => bin_up (fun _ _ _ _ w => pv_mod w) q
    · exact (pe_op op_powW h1 h2).up fun σ H Q q => bin_up (fun _ _ _ _ w => pv_pow w) q
  · cases h
theorem ok_un (h : prUn p e = some es) (a : PP X W L es as) : Goal X W L p e as := by
  unfold prUn at h
  split at h
  · split at h <;> first | (cases h; obtain ⟨x, rfl, h1⟩ := a.one) | cases h
    · exact (pe_un un_neg h1).up fun σ H Q q => un_up (fun _ _ _ w => pv_neg w) q
    · exact (pe_not h1).up fun σ H Q q => un_up (r := fun x H Q => ∃ c, x = .bl c ∧ Q (.bl (!c)) H) (fun _ _ _ w => pv_not w) q
  · cases h
theorem ok_cmp (g : Good X C L) (h : prCmp p e = some es) (a : PP X W L es as) : Goal X W L p e as := by
  unfold prCmp at h
  have u := g.un
  split at h
  · split at h
    · rename_i mk
      have m := fun (op : CmpOp) => mark_ok (op := op) mk
      split at h <;> first | (cases h; obtain ⟨x, y, rfl, h1, h2⟩ := a.two) | cases h
      · exact (pe_cmpR (op_eqE (by omega)) h1 h2 (m _)).up fun σ H Q q => bin_up (fun _ _ _ _ w => pv_eq w) q
      · exact (pe_cmpR (op_neE (by omega)) h1 h2 (m _)).up fun σ H Q q => bin_up (fun _ _ _ _ w => pv_ne w) q
      · exact (pe_cmpR op_lt h1 h2 (m _)).up fun σ H Q q => bin_up (fun _ _ _ _ w => pv_lt w) q
      · exact (pe_cmpR op_le h1 h2 (m _)).up fun σ H Q q => bin_up (fun _ _ _ _ w => pv_le w) q
      · exact (pe_cmpR op_gt1 h1 h2 (m _)).up fun σ H Q q => bin_up (fun _ _ _ _ w => pv_gt w) q
      · exact (pe_cmpR op_ge1 h1 h2 (m _)).up fun σ H Q q => bin_up (fun _ _ _ _ w => pv_ge w) q
      · exact (pe_cmpR (op_inD (by omega)) h1 h2 (m _)).up fun σ H Q q => bin_up (fun _ _ _ _ w => pv_isin w) q
      · exact (pe_cmpR (op_notInD (by omega)) h1 h2 (m _)).up fun σ H Q q => bin_up (fun _ _ _ _ w => pv_notin w) q
    · cases h
  · cases h
theorem ok_is (h : prIs p e = some es) (a : PP X W L es as) : Goal X W L p e as := by
  unfold prIs at h
  split at h
  · split at h <;> first | (cases h; obtain ⟨x, rfl, h1⟩ := a.one) | skip
    · exact (pe_cmpR op_isN1 h1 pe_non rfl).up fun σ H Q q => un_up (r := fun x H Q => rIsN x .non H Q) (fun _ _ _ w => ⟨rfl, pv_isN w⟩) q
    · exact (pe_cmpR op_notN1 h1 pe_non rfl).up fun σ H Q q => un_up (r := fun x H Q => rNotN x .non H Q) (fun _ _ _ w => ⟨rfl, pv_notN w⟩) q
    · rename_i t b
      by_cases c : (t == b) = true
      · rw [if_pos c] at h
        cases h
        obtain ⟨x, rfl, h1⟩ := a.one
        have e1 : t = b := by cases t <;> cases b <;> first | rfl | cases c
        subst e1
        exact (pe_cmpR op_isBl h1 pe_bl rfl).up fun σ H Q q => un_up (r := fun x H Q => rIsB x (.bl t) H Q) (fun _ _ _ w => pv_isB w) q
      · rw [if_neg c] at h
        cases h
    · cases h
  · cases h
theorem ok_rev (h : prRev p e = some es) (a : PP X W L es as) : Goal X W L p e as := by
  unfold prRev at h
  split at h
  · split at h
    · rename_i hi
      cases h
      obtain ⟨e1, e2⟩ := hi
      subst e1 e2
      obtain ⟨x, rfl, h1⟩ := a.one
      exact (pe_revE h1).up fun σ H Q q => un_up (fun _ _ _ w => pv_rev w) q
    · cases h
  · cases h
theorem ok_meth (h : prMeth p e = some es) (a : PP X W L es as) : Goal X W L p e as := by
  unfold prMeth at h
  split at h
  · split at h
    · rename_i mk
      rw [Bool.and_eq_true] at mk
      split at h
      · split at h
        · rename_i em
          rw [beq_iff_eq] at em
          cases h
          subst em
          obtain ⟨x, rfl, h1⟩ := a.one
          exact (pe_bits h1 (base_ok mk.1) mk.2).up fun σ H Q q => un_up (r := fun x H Q => ∃ i, x = .int i ∧ Q (.int (Builtin.Int.intBits i : Nat)) H) (fun _ _ _ w => pv_bitlen w) q
        · cases h
      · cases h
    · cases h
  · cases h
theorem ok_isi (g : Good X C L) (h : prIsi C p e = some es) (a : PP X W L es as) : Goal X W L p e as := by
  unfold prIsi at h
  split at h
  · rename_i x px a0 T pT pos
    split at h
    · rename_i t
      split at h
      · rename_i c
        simp only [Bool.and_eq_true] at c
        obtain ⟨⟨⟨⟨⟨c1, c2⟩, c3⟩, c4⟩, c5⟩, c6⟩ := c
        cases h
        rw [beq_iff_eq] at c1 c4
        subst c1 c4
        obtain ⟨y, rfl, h1⟩ := a.one
        obtain ⟨g1, m1⟩ := g.gl c2
        obtain ⟨g2, m2⟩ := g.gl c3
        have ty : ∃ u, bootBuiltins (Str.ofString t) = some u ∧ RelV (.ty t) u ∧ (Str.ofString t == ("__debug__" : Str)) = false ∧ (Str.ofString t) ≠ "__name__" := by
          unfold isiOk at c5
          simp only [List.contains_cons, List.contains_nil, Bool.or_false, Bool.or_eq_true, beq_iff_eq] at c5
          rcases c5 with c5 | c5 | c5 | c5 | c5 | c5 <;> subst c5 <;> exact ⟨.type _, by decide +kernel, rfl, by decide +kernel, by decide +kernel⟩
        obtain ⟨u, b1, b2, b3, b4⟩ := ty
        have pt : PE X (.Name (Str.ofString t) pT) (tC (.ty t)) := pe_bltn g2 m2 b1 b2 b4 b3
        refine (pe_callB call_isi g1 m1 boot_isinstance (pa_consP c6 h1 (pa_consP rfl pt pa_nil)) (by decide) (by decide) (star_plain c6) rfl).up fun σ H Q q => ?_
        refine tG_mono (tV_cons (prim_pre q)) fun z H1 q => ?_
        exact pv_isinst c5 (tV_nil q)
      · cases h
    · cases h
  · cases h
theorem ok_rg (g : Good X C L) (h : prRg C p e = some es) (a : PP X W L es as) : Goal X W L p e as := by
  unfold prRg at h
  split at h
  · split at h
    · rename_i c
      simp only [Bool.and_eq_true] at c
      obtain ⟨⟨⟨⟨c1, c2⟩, c3⟩, c4⟩, c5⟩ := c
      rw [beq_iff_eq] at c1 c2
      subst c1 c2
      obtain ⟨g1, m1⟩ := g.gl c3
      obtain ⟨g2, m2⟩ := g.gl c4
      split at h
      · cases h
        obtain ⟨y, rfl, h1⟩ := a.one
        have pl := c5
        simp only [List.all_cons, List.all_nil, Bool.and_true] at pl
        refine (pe_listRg g.calm g1 m1 (prg_1 g2 m2 h1 (star_plain pl))).up fun σ H Q q => ?_
        refine tG_mono (tV_cons (prim_pre q)) fun z H1 q => ?_
        obtain ⟨n, e1, ok, w⟩ := pv_range1 (tV_nil q)
        exact ⟨n, e1, ok, w⟩
      · cases h
        obtain ⟨y, z, rfl, h1, h2⟩ := a.two
        have pl := c5
        simp only [List.all_cons, List.all_nil, Bool.and_true, Bool.and_eq_true] at pl
        refine (pe_listRg g.calm g1 m1 (prg_2 g2 m2 h1 h2 (star_plain pl.1) (star_plain pl.2) (plain_all (by simpa using pl.2)))).up fun σ H Q q => ?_
        refine tG_mono (tV_cons (prim_pre q)) fun z H1 q => tG_mono (tV_cons q) fun z2 H2 q => ?_
        obtain ⟨i, j, e1, e2, ok, w⟩ := pv_range2 (tV_nil q)
        exact ⟨i, j, e1, e2, ok, w⟩
      · cases h
    · cases h
  · cases h
theorem ok_fn (g : Good X C L) (h : prFn C p e = some es) (a : PP X W L es as) : Goal X W L p e as := by
  unfold prFn at h
  have hc := g.calm
  split at h
  · rename_i x px es0 pos
    split at h
    · rename_i c
      rw [Bool.and_eq_true] at c
      obtain ⟨c1, c2⟩ := c
      obtain ⟨g1, m1⟩ := g.gl c1
      have one : ∀ {a0 : Expr} {id : String} {r : List V → Hp → VK → Prop} {y : IP} (hx : CallR X (.builtin id) r) (hb : bootBuiltins x = some (.builtin id)) (hn : x ≠ "__name__") (hd : (x == ("__debug__" : Str)) = false) (pl : plainArg a0 = true) (h1 : PE X a0 (tP X W (denP L y))) (up : ∀ z H Q, PrimPre X.K p [z] H Q → r [z] H Q), Goal X W L p (.Call (.Name x px) [a0] [] pos) [y] := by
        intro a0 id r y hx hb hn hd pl h1 up
        exact (pe_callB hx g1 m1 hb (pa_consP pl h1 pa_nil) hn hd (star_plain pl) rfl).up fun σ H Q q => tG_mono (tV_cons (prim_pre q)) fun z H1 q => up z H1 Q (tV_nil q)
      have two : ∀ {a0 b0 : Expr} {id : String} {r : List V → Hp → VK → Prop} {y z : IP} (hx : CallR X (.builtin id) r) (hb : bootBuiltins x = some (.builtin id)) (hn : x ≠ "__name__") (hd : (x == ("__debug__" : Str)) = false) (pl : plainArg a0 = true) (pl2 : plainArg b0 = true) (h1 : PE X a0 (tP X W (denP L y))) (h2 : PE X b0 (tP X W (denP L z)))
          (up : ∀ u v H Q, PrimPre X.K p [u, v] H Q → r [u, v] H Q), Goal X W L p (.Call (.Name x px) [a0, b0] [] pos) [y, z] := by
        intro a0 b0 id r y z hx hb hn hd pl pl2 h1 h2 up
        exact (pe_callB hx g1 m1 hb (pa_consP pl h1 (pa_consP pl2 h2 pa_nil)) hn hd (star_plain pl) (plain_all (by simpa using pl2))).up fun σ H Q q => tG_mono (tV_cons (prim_pre q)) fun u H1 q => tG_mono (tV_cons q) fun v H2 q => up u v H2 Q (tV_nil q)
      have ty1 : ∀ {a0 : Expr} {id : String} {r : List V → Hp → VK → Prop} {y : IP} (hx : CallR X (.type id) r) (hb : bootBuiltins x = some (.type id)) (hn : x ≠ "__name__") (hd : (x == ("__debug__" : Str)) = false) (pl : plainArg a0 = true) (h1 : PE X a0 (tP X W (denP L y))) (up : ∀ z H Q, PrimPre X.K p [z] H Q → r [z] H Q), Goal X W L p (.Call (.Name x px) [a0] [] pos) [y] := by
        intro a0 id r y hx hb hn hd pl h1 up
        exact (pe_callTy hx g1 m1 hb (pa_consP pl h1 pa_nil) hn hd (star_plain pl) rfl).up fun σ H Q q => tG_mono (tV_cons (prim_pre q)) fun z H1 q => up z H1 Q (tV_nil q)
      split at h
      case h_11 => cases h
      all_goals
        split at h
        · rename_i em
          rw [beq_iff_eq] at em
          cases h
          subst em
          first
            | (obtain ⟨y, rfl, h1⟩ := a.one
               have pl := c2
               simp only [List.all_cons, List.all_nil, Bool.and_true] at pl
               first
                 | exact one call_len_seq boot_len (by decide) (by decide) pl h1 fun _ _ _ w => pv_len w
                 | exact one (cr_sum hc) boot_sum (by decide) (by decide) pl h1 fun _ _ _ w => pv_sum w
                 | exact one (call_reprE g.gd g.un) boot_repr (by decide) (by decide) pl h1 fun _ _ _ w => pv_repr w
                 | exact one (cr_sortedD g.un) boot_sorted (by decide) (by decide) pl h1 fun _ _ _ w => pv_sortedD w
                 | exact ty1 call_int1 boot_int (by decide) (by decide) pl h1 fun _ _ _ w => pv_int w
                 | exact ty1 call_list_of boot_list (by decide) (by decide) pl h1 fun _ _ _ w => pv_listOf w
                 | exact ty1 call_tuple_of boot_tuple (by decide) (by decide) pl h1 fun _ _ _ w => pv_tupleOf w)
            | (obtain ⟨y, z, rfl, h1, h2⟩ := a.two
               have pl := c2
               simp only [List.all_cons, List.all_nil, Bool.and_true, Bool.and_eq_true] at pl
               first
                 | exact two (call_min2 hc) boot_min (by decide) (by decide) pl.1 pl.2 h1 h2 fun _ _ _ _ w => pv_min2 w
                 | exact two (call_max2 hc) boot_max (by decide) (by decide) pl.1 pl.2 h1 h2 fun _ _ _ _ w => pv_max2 w
                 | exact two call_divmodW boot_divmod (by decide) (by decide) pl.1 pl.2 h1 h2 fun _ _ _ _ w => pv_divmod w)
        · cases h
    · cases h
  · cases h
theorem ok_prim (g : Good X C L) (h : prE C p e = some es) (a : PP X W L es as) : Goal X W L p e as := by
  have orr : ∀ {x y : Option (List Expr)}, x.or y = some es → x = some es ∨ y = some es := fun {x y} h => by
    cases x with
    | none => exact .inr h
    | some l => exact .inl h
  unfold prE at h
  rcases orr h with h | h
  · exact ok_bin h a
  rcases orr h with h | h
  · exact ok_un h a
  rcases orr h with h | h
  · exact ok_is h a
  rcases orr h with h | h
  · exact ok_cmp g h a
  rcases orr h with h | h
  · exact ok_rev h a
  rcases orr h with h | h
  · exact ok_meth h a
  rcases orr h with h | h
  · exact ok_isi g h a
  rcases orr h with h | h
  · exact ok_rg g h a
  · exact ok_fn g h a
end
end Ev
set_option Elab.async false
set_option linter.all false
set_option maxRecDepth 100000
/-! Ev22: expressions, checked. -/
namespace Ev
open PySem PySem.Spec PyProof.Rows L2

def EndN (K : Frag) (σ : Sg) (Z H : Hp) (F : List Addr) (e' : Ve) (x : Option Int) (a : Option Int) (H' : Hp) : Prop := x = a ∧ ∃ Z' F', Step K σ Z H F Z' H' e' F' []
def tQ (X : Cx) (W : WX) (m : Ve → Res (Option Int)) : TO := tG X W m EndN
section
variable {X : Cx} {W : WX} {L : List FnE} {σ : Sg} {H : Hp} {C : Cc}
theorem int_of {K : Frag} {Z H : Hp} {x : V} {o : O} {i : Int} {P : List Addr} (r : OR K Z H x o P) (e : intOf o = some i) : x = .int i := by
  cases r with
  | v d =>
    cases d with
    | int j => simp only [intOf] at e; cases e; rfl
    | _ => simp [intOf] at e
  | _ => simp [intOf] at e
theorem _root_.L2.PO.up {X : Cx} {e : Option Expr} {t t' : TO} (h : PO X e t) (k : ∀ σ H Q, t' σ H Q → t σ H Q) : PO X e t' := ⟨fun pins s σ H Q I q => h.run pins s σ H Q I (k σ H Q q)⟩
theorem so_none : PO X none (tQ X W (denO L none)) := po_none.up fun σ H Q ⟨Z, e, F, s, h⟩ => by
  simp only [denO] at h
  exact h none H ⟨rfl, Z, F, .refl s⟩
theorem so_some {e : Expr} {k : IE} (h : PE X e (tR X W (den L k))) : PO X (some e) (tQ X W (denO L (some k))) := (po_some h).up fun σ H Q ⟨Z, e, F, s, h⟩ => by
  refine ⟨Z, e, F, s, ?_⟩
  simp only [denO] at h
  cases q : den L k e with
  | err c d e1 => simp only [q, Res.bind, outG] at h; exact h
  | stuck => simp only [q, Res.bind, outG] at h
  | ok o e1 =>
    simp only [q, Res.bind] at h
    simp only [outG]
    intro x H1 ⟨Z1, F1, P, st, r⟩
    cases q2 : intOf o with
    | none => rw [q2] at h; exact h.elim
    | some i =>
      rw [q2] at h
      exact ⟨i, int_of r q2, h _ H1 ⟨rfl, Z1, F1, st.drop⟩⟩
theorem av_one {K : Frag} {Z H : Hp} {F P : List Addr} {e : Ve} {x : V} {v : AV} {s : Bool} {o : O} (rl : Rel K Z H σ e F) (r : AVs K Z H σ [x] [v] P) (h : res1 e v = some (s, o)) : ArgR K Z H x s o P := by
  cases r with
  | o r t =>
    cases t
    cases h
    rw [List.append_nil]
    exact .t r
  | s hx t =>
    rename_i i
    cases t
    simp only [res1] at h
    cases q : look e i with
    | none => rw [q] at h; cases h
    | some u =>
      rw [q] at h
      cases h
      obtain ⟨P, r, _⟩ := rel_at rl q hx
      exact .b r
theorem se_cut {a : Expr} {l h : Option Expr} {p : IP} {il ih : Option IE} {p2 pos : Pos} (ha : PE X a (tP X W (denP L p))) (hl : PO X l (tQ X W (denO L il))) (hh : PO X h (tQ X W (denO L ih))) : PE X (.Subscript a (.Slice l h none p2) pos) (tR X W (den L (.cut p il ih))) := by
  refine (pe_slice sl_any ha hl hh).up fun σ H Q q => ?_
  obtain ⟨Z, e, F, s, h⟩ := q
  refine ⟨Z, e, F, s, ?_⟩
  simp only [den] at h
  cases q : denP L p e with
  | err c d e1 => simp only [q, Res.bind, outG] at h; exact h
  | stuck => simp only [q, Res.bind, outG] at h
  | ok v e1 =>
    simp only [q, Res.bind] at h
    simp only [outG]
    intro x H1 ⟨Z1, F1, P1, st1, r1⟩
    refine ⟨Z1, e1, F1, st1.sts, ?_⟩
    cases q2 : denO L il e1 with
    | err c d e2 => simp only [q2, outG] at h; exact h.of st1
    | stuck => simp only [q2, outG] at h
    | ok lo e2 =>
      simp only [q2] at h
      simp only [outG]
      intro lo' H2 ⟨elo, Z2, F2, st2⟩
      subst elo
      have s12 := st1.seq st2 (st_of r1.mem)
      rw [List.append_nil] at s12
      have r12 := AVs.keep st2.ext r1 st1.apart
      refine ⟨Z2, e2, F2, st2.sts, ?_⟩
      cases q3 : denO L ih e2 with
      | err c d e3 => simp only [q3, outG] at h; exact h.of s12
      | stuck => simp only [q3, outG] at h
      | ok hi e3 =>
        simp only [q3] at h
        simp only [outG]
        intro hi' H3 ⟨ehi, Z3, F3, st3⟩
        subst ehi
        have s13 := s12.seq st3 (st_of r12.mem)
        rw [List.append_nil] at s13
        have r13 := AVs.keep st3.ext r12 s12.apart
        cases q4 : res1 e3 v with
        | none => rw [q4] at h; exact h.elim
        | some w =>
          obtain ⟨b, o⟩ := w
          rw [q4] at h
          simp only at h
          cases q5 : elems b o with
          | none => rw [q5] at h; exact h.elim
          | some w =>
            obtain ⟨k, xs⟩ := w
            rw [q5] at h
            have ar := av_one s13.rel r13 q4
            exact cut_lift s13.same ar (List.nodup_append.mp s13.nd).2.1 q5 fun z H' ⟨Z', P', x1, x2, x3, x4⟩ => h z H' ⟨Z', F3, P', s13.op x1 x2 x4, x3⟩
theorem list_ty {K : Frag} {Z H : Hp} {x : V} {s : Bool} {o : O} {P : List Addr} (hs : Same Z H) (h : ArgR K Z H x s o P) (e : isListD o.d = true) : tyV K "list" x H := by
  have d := h.dr hs
  revert d e
  generalize o.d = dd
  intro e d
  cases d with
  | lst r _ => exact .inl ⟨rfl, _, .inl r⟩
  | _ => cases e
theorem se_indx {a b : Expr} {p : IP} {k : IE} {apos cpos : Pos} (ha : PE X a (tP X W (denP L p))) (hb : PE X b (tR X W (den L k))) (hu : X.A.units + 66 < cLine) (hs : notSuper a = true) (hl : (apos.endLine == cpos.line) = true) (pk : plainArg b = true) :
    PE X (.Call (.Attribute a "index" apos) [b] [] cpos) (tR X W (den L (.indx p k))) := by
  refine (pe_bm PySem.F.plainAttrs_list PySem.F.slot_list_index PySem.F.type_list_index (mt_indexD (X := X) (by omega)) ha (pa_consP pk hb pa_nil) (base_ok hs) (by rw [star_plain pk]; rfl) hl (star_plain pk) rfl).up fun σ H Q q => ?_
  obtain ⟨Z, e, F, s, h⟩ := q
  refine ⟨Z, e, F, s, ?_⟩
  simp only [den] at h
  cases q : denP L p e with
  | err c d e1 => simp only [q, Res.bind, outG] at h; exact h
  | stuck => simp only [q, Res.bind, outG] at h
  | ok v e1 =>
    simp only [q, Res.bind] at h
    simp only [outG]
    intro x H1 ⟨Z1, F1, P1, st1, r1⟩
    by_cases c : isListA e1 v = true
    · rw [if_pos c] at h
      unfold isListA at c
      cases q4 : res1 e1 v with
      | none => rw [q4] at c; cases c
      | some w =>
        obtain ⟨b0, o0⟩ := w
        rw [q4] at c
        refine ⟨list_ty st1.same (av_one st1.rel r1 q4) c, Z1, e1, F1, st1.sts, ?_⟩
        cases q2 : den L k e1 with
        | err c d e2 => simp only [q2, outG] at h; exact h.of st1
        | stuck => simp only [q2, outG] at h
        | ok o e2 =>
          simp only [q2] at h
          simp only [outG]
          intro y H2 ⟨Z2, F2, P2, st2, r2⟩
          have s12 := st1.seq st2 (st_of r1.mem)
          have r12 := AVs.keep st2.ext r1 st1.apart
          cases q5 : res1 e2 v with
          | none => rw [q5] at h; exact h.elim
          | some w =>
            obtain ⟨b1, o1⟩ := w
            rw [q5] at h
            simp only at h
            have dx := (av_one s12.rel r12 q5).dr s12.same
            have dy := OR.dr s12.same r2
            cases qi : idxV o1.d o.d with
            | none => rw [qi] at h; exact h.elim
            | some z =>
              rw [qi] at h
              unfold idxV at qi
              split at qi
              · rename_i ds ed
                split at qi
                · rename_i cc
                  rw [Bool.and_eq_true] at cc
                  cases qf : findD o.d ds 0 with
                  | none => rw [qf] at qi; cases qi
                  | some m =>
                    rw [qf] at qi
                    cases qi
                    obtain ⟨j, w, ej, g1, g2, g3⟩ := find_at qf
                    rw [ed] at dx
                    obtain ⟨ad, vs, rfl, _, _⟩ := dr_list dx rfl
                    refine ⟨ad, y, o.d, ds, j, w, rfl, rfl, dx.dp, dy.dp, cc.2, cc.1, g1, g2, fun m z' => g3 m z', ?_⟩
                    refine h (.int j) H2 ⟨Z2, F2, [], s12.drop, ?_⟩
                    rw [ej, Nat.zero_add]
                    exact .v (.int _)
                · cases qi
              · cases qi
    · rw [if_neg c] at h
      exact h.elim

/-! ### tests -/
theorem tT_prim {p : Prim} {as : List IP} {Q : Bool → Hp → Prop} (h : tT X W (fun e => asBool (den L (.prim p as)  e)) σ H Q) : tR X W (den L (.prim p as)) σ H fun x H1 => ∃ c, x = .bl c ∧ Q c H1 := tT_R h
theorem ok_cmpT (g : Good X C L) {p : Prim} {e : Expr} {es : List Expr} {as : List IP} (h : prCmp p e = some es) (a : PP X W L es as) : PT X e (tT X W fun v => asBool (den L (.prim p as) v)) := by
  unfold prCmp at h
  have u := g.un
  split at h
  · split at h
    · rename_i mk
      have m := fun (op : CmpOp) => mark_ok (op := op) mk
      split at h <;> first | (cases h; obtain ⟨x, y, rfl, h1, h2⟩ := a.two) | cases h
      · exact (pt_cmpR (op_eqE (by omega)) h1 h2 (m _)).up fun σ H Q q => bin_up (fun _ _ _ _ w => pv_eq w) (tT_prim q)
      · exact (pt_cmpR (op_neE (by omega)) h1 h2 (m _)).up fun σ H Q q => bin_up (fun _ _ _ _ w => pv_ne w) (tT_prim q)
      · exact (pt_cmpR op_lt h1 h2 (m _)).up fun σ H Q q => bin_up (fun _ _ _ _ w => pv_lt w) (tT_prim q)
      · exact (pt_cmpR op_le h1 h2 (m _)).up fun σ H Q q => bin_up (fun _ _ _ _ w => pv_le w) (tT_prim q)
      · exact (pt_cmpR op_gt1 h1 h2 (m _)).up fun σ H Q q => bin_up (fun _ _ _ _ w => pv_gt w) (tT_prim q)
      · exact (pt_cmpR op_ge1 h1 h2 (m _)).up fun σ H Q q => bin_up (fun _ _ _ _ w => pv_ge w) (tT_prim q)
      · exact (pt_cmpR (op_inD (by omega)) h1 h2 (m _)).up fun σ H Q q => bin_up (fun _ _ _ _ w => pv_isin w) (tT_prim q)
      · exact (pt_cmpR (op_notInD (by omega)) h1 h2 (m _)).up fun σ H Q q => bin_up (fun _ _ _ _ w => pv_notin w) (tT_prim q)
    · cases h
  · cases h
theorem ok_isT {p : Prim} {e : Expr} {es : List Expr} {as : List IP} (h : prIs p e = some es) (a : PP X W L es as) : PT X e (tT X W fun v => asBool (den L (.prim p as) v)) := by
  unfold prIs at h
  split at h
  · split at h <;> first | (cases h; obtain ⟨x, rfl, h1⟩ := a.one) | skip
    · exact (pt_cmpR op_isN1 h1 pe_non rfl).up fun σ H Q q => un_up (r := fun x H Q => rIsN x .non H Q) (fun _ _ _ w => ⟨rfl, pv_isN w⟩) (tT_prim q)
    · exact (pt_cmpR op_notN1 h1 pe_non rfl).up fun σ H Q q => un_up (r := fun x H Q => rNotN x .non H Q) (fun _ _ _ w => ⟨rfl, pv_notN w⟩) (tT_prim q)
    · rename_i t b
      by_cases c : (t == b) = true
      · rw [if_pos c] at h
        cases h
        obtain ⟨x, rfl, h1⟩ := a.one
        have e1 : t = b := by cases t <;> cases b <;> first | rfl | cases c
        subst e1
        exact (pt_cmpR op_isBl h1 pe_bl rfl).up fun σ H Q q => un_up (r := fun x H Q => rIsB x (.bl t) H Q) (fun _ _ _ w => pv_isB w) (tT_prim q)
      · rw [if_neg c] at h
        cases h
    · cases h
  · cases h
/-- not: the operand in hand -/
theorem ok_notT {a : Expr} {i : IE} {pos : Pos} (h : PT X a (tT X W fun v => asBool (den L i v))) : PT X (.UnaryOp .Not a pos) (tT X W fun v => asBool (den L (.prim .not [.e i]) v)) := (pt_not h).up fun σ H Q ⟨Z, e, F, s, q⟩ => by
  refine ⟨Z, e, F, s, ?_⟩
  show outG _ _ _ _ _ _ _ _ (asBool (den L i e))
  have q : outG X W EndB σ Z H F Q (asBool (den L (.prim .not [.e i]) e)) := q
  simp only [den, denPs, denP] at q
  cases q1 : den L i e with
  | err c d e1 => simp only [q1, Res.bind, asBool, outG] at q ⊢; exact q
  | stuck => simp only [q1, Res.bind, asBool, outG] at q
  | ok o e1 =>
    simp only [q1, Res.bind, asBool, resAll, res1, pr, pr1] at q ⊢
    cases o with
    | own l => exact q.elim
    | tup l => exact q.elim
    | v d =>
      cases d with
      | bool b =>
        simp only [oB, lift, outG] at q ⊢
        intro x H1 ⟨ex, w⟩
        subst ex
        exact q _ H1 ⟨rfl, w⟩
      | _ => exact q.elim
/-- not: the operand a slot -/
theorem ok_notS {x : Str} {i : Nat} {p pos : Pos} (hN : X.N[i]? = some x) (hv : Vis X.env.scope x) (hd : (x == ("__debug__" : Str)) = false) (hcd : (x == ("__classdict__" : Str)) = false) : PT X (.UnaryOp .Not (.Name x p) pos) (tT X W fun v => asBool (den L (.prim .not [.s i]) v)) := (pt_not (pt_val (pe_var hN hv hd hcd))).up fun σ H Q q => by
  obtain ⟨Z, e, F, s, q⟩ := q
  have q : outG X W EndB σ Z H F Q (asBool (den L (.prim .not [.s i]) e)) := q
  simp only [den, denPs, denP] at q
  cases ql : look e i with
  | none => simp only [ql, Res.bind, asBool, outG] at q
  | some o =>
    simp only [ql, Res.bind, asBool, resAll, res1, pr, pr1, Option.map_some] at q
    obtain ⟨x, f, G, h1, h2, _⟩ := s.rel.get (look_some ql)
    cases o with
    | own l => exact q.elim
    | tup l => exact q.elim
    | v d =>
      cases d with
      | bool b =>
        cases h2 with
        | v dd =>
          cases dd
          simp only [oB, lift, outG] at q
          exact ⟨_, h1, b, rfl, q _ H ⟨rfl, Z, F, .refl s⟩⟩
      | _ => exact q.elim
end
end Ev
set_option Elab.async false
set_option linter.all false
set_option maxRecDepth 100000
/-! Ev23: zip of iterators that end together, checked to do so. -/
namespace Ev
open PySem PySem.Spec PyProof.Rows L2

abbrev IsZs (h : Heap) (z TI TO : Addr) (f0 : Value) : Prop :=
  h.get? z = some { cls := .type "zip", dict := none, data := .fields #[f0, .bool false, .bool true, .ref TI, .ref TO], slots := #[] }
section
variable {prog : Program} {w : World} {A : Around} {E : Value → Shared → Prop} {s : Shared} {z TI TO i1 i2 : Addr} {fp1 fp2 : List Addr} {n i : Nat} {P1 P2 : Nat → Value → Prop} {St1 St2 : Nat → Heap → Prop} {a1 a2 : Value}
theorem draw_item {it : Addr} {fp : List Addr} {P : Nat → Value → Prop} {St : Nat → Heap → Prop} {Q : Option Value → Shared → Prop} (D : Draws prog w A it fp n P St) (hi : i < n) (st : St i s.heap)
    (h : ∀ x h' tk, P i x → St (i + 1) h' → Heap.SameBut it s.heap h' → Q (some x) { s with heap := h', toks := tk }) : wpAny (model prog w) A (Builtin.SmallTypes.nextOrEnd (.ref it)) Q E s := by
  unfold Builtin.SmallTypes.nextOrEnd
  exact wpAny_bind (wpAny_attempt (D.item i s _ _ hi st fun x h' tk p q r => wpAny_pure (h x h' tk p q r)))
theorem draw_end {it : Addr} {fp : List Addr} {P : Nat → Value → Prop} {St : Nat → Heap → Prop} {Q : Option Value → Shared → Prop} (D : Draws prog w A it fp n P St) (st : St n s.heap)
    (h : ∀ h', Heap.ExtBut it s.heap h' → Q none { s with heap := h' }) : wpAny (model prog w) A (Builtin.SmallTypes.nextOrEnd (.ref it)) Q E s := by
  unfold Builtin.SmallTypes.nextOrEnd
  refine wpAny_bind (wpAny_attempt (D.done s _ _ st fun h' e x he => ?_))
  obtain ⟨o, ho, hc⟩ := he
  exact wpAny_bind (wpAny_isInstance (T := "StopIteration") (b := true) ⟨o, ho, hc⟩ isSubtype_stop (wpAny_pure (h h' x)))
theorem zs_item {Q : Value → Shared → Prop} (S : ZipSep2 z TI TO i1 i2 fp1 fp2) (D1 : Draws prog w A i1 fp1 n P1 St1) (D2 : Draws prog w A i2 fp2 n P2 St2)
    (hz : IsZs s.heap z TI TO .none) (hTI : IsTupOf2 s.heap TI (.ref i1) (.ref i2)) (hTO : IsTupOf2 s.heap TO a1 a2) (st1 : St1 i s.heap) (st2 : St2 i s.heap) (hlt : i < n)
    (hQ : ∀ x1 x2 h' tk, P1 i x1 → P2 i x2 → IsZs h' z TI TO (rawInt s.heap.objs.size) → IsTupOf2 h' TO x1 x2 → St1 (i + 1) h' → St2 (i + 1) h' → IsTupOf2 h' s.heap.objs.size x1 x2 → h'.objs.size = s.heap.objs.size + 1 →
      (∀ c o, c ≠ z → c ≠ TO → c ≠ i1 → c ≠ i2 → s.heap.get? c = some o → h'.get? c = some o) → Q (.ref s.heap.objs.size) { s with heap := h', toks := tk }) :
    wpAny (model prog w) A (Builtin.«zip.__next__» ⟨[.ref z], []⟩) (fun fin s' => ∃ v, fin = .done (.ret v) ∧ Q v s') E s := by
  obtain ⟨hp, g, d, tk0, os⟩ := s
  show wpAny _ _ (field (.ref z) 2 >>= _) _ _ _
  refine wpAny_bind (wpAny_field hz rfl (x := .bool true) rfl ?_)
  show wpAny _ _ (field (.ref z) 3 >>= _) _ _ _
  refine wpAny_bind (wpAny_field hz rfl (x := .ref TI) rfl (wpAny_bind (wpAny_seqItems hTI rfl ?_)))
  show wpAny _ _ (Builtin.SmallTypes.ownedTupleIsFree (.ref z) >>= _) _ _ _
  refine wpAny_bind ?_
  unfold Builtin.SmallTypes.ownedTupleIsFree
  refine wpAny_bind (wpAny_field hz rfl (x := .none) rfl (wpAny_pure ?_))
  simp only [if_true]
  refine wpAny_bind (wpAny_rule (wpAny_bind (wpAny_field hz rfl (x := .ref TO) rfl (wpAny_bind (wpAny_setField_rec hz (by simp) fun g0 hz0 hs0 => ?_)))))
  replace hz0 : IsZs g0 z TI TO .ellipsis := hz0
  replace hs0 : Heap.SameBut z hp g0 := hs0
  refine wpAny_bind ?_
  simp only [List.zipIdx_cons, List.zipIdx_nil, List.forIn_cons, List.forIn_nil]
  refine wpAny_bind (wpAny_bind (wpAny_onRaise ?_))
  show wpAny _ _ (Builtin.SmallTypes.nextOrEnd (.ref i1)) _ _ ⟨g0, g, d, tk0, os⟩
  refine draw_item D1 hlt (D1.over st1 hs0 S.zf1) fun x1 p1 tk1 hx1 sn1 hp1 => ?_
  replace hp1 : Heap.SameBut i1 g0 p1 := hp1
  have hU1 : IsTupOf2 p1 TO a1 a2 := hp1.extBut _ _ S.Ti1 (hs0.extBut _ _ S.TOz hTO)
  refine wpAny_bind (wpAny_seqItems (s := ⟨p1, g, d, tk1, os⟩) hU1 rfl (wpAny_bind (updateSeq_IsTupOf2 (s := ⟨p1, g, d, tk1, os⟩) hU1 fun g1 hT1 hs1 => ?_)))
  replace hT1 : IsTupOf2 g1 TO x1 a2 := hT1
  replace hs1 : Heap.SameBut TO p1 g1 := hs1
  refine wpAny_bind (wpAny_letGo (wpAny_pure ?_))
  refine wpAny_bind (wpAny_bind (wpAny_onRaise ?_))
  show wpAny _ _ (Builtin.SmallTypes.nextOrEnd (.ref i2)) _ _ ⟨g1, g, d, tk1, os⟩
  refine draw_item D2 hlt (D2.over (D2.over (D2.over st2 hs0 S.zf2) hp1 S.sep1_2) hs1 S.Tf2) fun x2 p2 tk2 hx2 sn2 hp2 => ?_
  replace hp2 : Heap.SameBut i2 g1 p2 := hp2
  have hU2 : IsTupOf2 p2 TO x1 a2 := hp2.extBut _ _ S.Ti2 hT1
  refine wpAny_bind (wpAny_seqItems (s := ⟨p2, g, d, tk2, os⟩) hU2 rfl (wpAny_bind (updateSeq_IsTupOf2 (s := ⟨p2, g, d, tk2, os⟩) hU2 fun g2 hT2 hs2 => ?_)))
  replace hT2 : IsTupOf2 g2 TO x1 x2 := hT2
  replace hs2 : Heap.SameBut TO p2 g2 := hs2
  refine wpAny_bind (wpAny_letGo (wpAny_pure (wpAny_pure ?_)))
  refine wpAny_bind (wpAny_seqItems (s := ⟨g2, g, d, tk2, os⟩) hT2 rfl (wpAny_bind (wpAny_newTuple ?_)))
  have hsz : g2.objs.size = hp.objs.size := by rw [hs2.1, hp2.1, hs1.1, hp1.1, hs0.1]
  have hzz : IsZs g2 z TI TO .ellipsis := hs2.extBut _ _ S.TOz.symm (hp2.extBut _ _ S.zi2 (hs1.extBut _ _ S.TOz.symm (hp1.extBut _ _ S.zi1 hz0)))
  have hkk : ∀ c o, c ≠ z → c ≠ TO → c ≠ i1 → c ≠ i2 → hp.get? c = some o → g2.get? c = some o := fun c o cz cT c1 c2 e =>
    hs2.extBut _ _ cT (hp2.extBut _ _ c2 (hs1.extBut _ _ cT (hp1.extBut _ _ c1 (hs0.extBut _ _ cz e))))
  have hj1 : St1 (i + 1) g2 := D1.over (D1.over (D1.over sn1 hs1 S.Tf1) hp2 S.sep2_1) hs2 S.Tf1
  have hj2 : St2 (i + 1) g2 := D2.over sn2 hs2 S.Tf2
  have hzlt : z < g2.objs.size := Heap.lt_size hzz
  show wpAny _ _ (Builtin.SmallTypes.ownedTupleHandOut (.ref z) (.ref g2.objs.size) >>= _) _ _ ⟨g2.push { cls := .type "tuple", data := .seq #[x1, x2] }, g, d, tk2, os⟩
  refine wpAny_bind ?_
  unfold Builtin.SmallTypes.ownedTupleHandOut
  have hz6 : IsZs (g2.push { cls := .type "tuple", data := .seq #[x1, x2] }) z TI TO .ellipsis := Heap.get?_push_of_some _ hzz
  refine wpAny_bind (wpAny_setField_rec hz6 (by simp) fun h7 hz7 hs7 => ?_)
  replace hz7 : IsZs h7 z TI TO (rawInt g2.objs.size) := hz7
  refine wpAny_setField_rec hz7 (by simp) fun h8 hz8 hs8 => ?_
  replace hz8 : IsZs h8 z TI TO (rawInt g2.objs.size) := hz8
  replace hs7 : Heap.SameBut z (g2.push { cls := .type "tuple", data := .seq #[x1, x2] }) h7 := hs7
  replace hs8 : Heap.SameBut z h7 h8 := hs8
  have up : ∀ c o, c ≠ z → g2.get? c = some o → h8.get? c = some o := fun c o c1 e => hs8.extBut _ _ c1 (hs7.extBut _ _ c1 (Heap.get?_push_of_some _ e))
  have hT8 : IsTupOf2 h8 g2.objs.size x1 x2 := hs8.extBut _ _ (Nat.ne_of_gt hzlt) (hs7.extBut _ _ (Nat.ne_of_gt hzlt) (Heap.get?_push_size _ rfl))
  have hz8s : h8.objs.size = g2.objs.size + 1 := by rw [hs8.1, hs7.1, Heap.size_push]
  rw [hsz] at hz8 hT8 hz8s
  refine wpAny_pure ⟨_, rfl, ?_⟩
  show Q (.ref g2.objs.size) ⟨h8, g, d, tk2, os⟩
  rw [hsz]
  exact hQ x1 x2 h8 tk2 hx1 hx2 hz8 (up _ _ S.TOz hT2) (D1.frame _ _ _ hj1 fun b hb o e => up b o (fun q => S.zf1 (q ▸ hb)) e) (D2.frame _ _ _ hj2 fun b hb o e => up b o (fun q => S.zf2 (q ▸ hb)) e) hT8 hz8s fun c o cz cT c1 c2 e => up c o cz (hkk c o cz cT c1 c2 e)
theorem zs_end {Q : Fin → Shared → Prop} (hh : A.handled = none) (S : ZipSep2 z TI TO i1 i2 fp1 fp2) (D1 : Draws prog w A i1 fp1 n P1 St1) (D2 : Draws prog w A i2 fp2 n P2 St2)
    (hz : IsZs s.heap z TI TO .none) (hTI : IsTupOf2 s.heap TI (.ref i1) (.ref i2)) (hTO : IsTupOf2 s.heap TO a1 a2) (st1 : St1 n s.heap) (st2 : St2 n s.heap)
    (hE : ∀ h' tk e, (∀ c o, c ≠ z → c ≠ TO → c ≠ i1 → c ≠ i2 → s.heap.get? c = some o → h'.get? c = some o) → (∃ o, h'.get? e = some o ∧ o.cls = .type "StopIteration") → E (.ref e) { s with heap := h', toks := tk }) :
    wpAny (model prog w) A (Builtin.«zip.__next__» ⟨[.ref z], []⟩) Q E s := by
  obtain ⟨hp, g, d, tk0, os⟩ := s
  show wpAny _ _ (field (.ref z) 2 >>= _) _ _ _
  refine wpAny_bind (wpAny_field hz rfl (x := .bool true) rfl ?_)
  show wpAny _ _ (field (.ref z) 3 >>= _) _ _ _
  refine wpAny_bind (wpAny_field hz rfl (x := .ref TI) rfl (wpAny_bind (wpAny_seqItems hTI rfl ?_)))
  show wpAny _ _ (Builtin.SmallTypes.ownedTupleIsFree (.ref z) >>= _) _ _ _
  refine wpAny_bind ?_
  unfold Builtin.SmallTypes.ownedTupleIsFree
  refine wpAny_bind (wpAny_field hz rfl (x := .none) rfl (wpAny_pure ?_))
  simp only [if_true]
  refine wpAny_bind (wpAny_rule (wpAny_bind (wpAny_field hz rfl (x := .ref TO) rfl (wpAny_bind (wpAny_setField_rec hz (by simp) fun g0 hz0 hs0 => ?_)))))
  replace hz0 : IsZs g0 z TI TO .ellipsis := hz0
  replace hs0 : Heap.SameBut z hp g0 := hs0
  refine wpAny_bind ?_
  simp only [List.zipIdx_cons, List.zipIdx_nil, List.forIn_cons, List.forIn_nil]
  refine wpAny_bind (wpAny_bind (wpAny_onRaise ?_))
  show wpAny _ _ (Builtin.SmallTypes.nextOrEnd (.ref i1)) _ _ ⟨g0, g, d, tk0, os⟩
  refine draw_end D1 (D1.over st1 hs0 S.zf1) fun p1 hp1 => ?_
  replace hp1 : Heap.ExtBut i1 g0 p1 := hp1
  have hz1 : IsZs p1 z TI TO .ellipsis := hp1 _ _ S.zi1 hz0
  refine wpAny_bind (wpAny_setField_rec hz1 (by simp) fun g1 hz1' hs1 => ?_)
  replace hs1 : Heap.SameBut z p1 g1 := hs1
  have s2 : St2 n g1 := D2.over (D2.frame _ _ _ (D2.over st2 hs0 S.zf2) fun b hb o e => hp1 b o (fun q => S.sep1_2 (q ▸ hb)) e) hs1 S.zf2
  k_delta "zipStrictEnd"
  simp only [List.drop_succ_cons, List.drop_zero, List.zipIdx_cons, List.zipIdx_nil, List.forIn_cons, List.forIn_nil]
  refine wpAny_bind ?_
  rw [if_neg (by decide)]
  refine wpAny_bind (wpAny_bind (wpAny_bind (draw_end (s := ⟨g1, g, d, tk0, os⟩) D2 s2 fun q2 hq2 => ?_)))
  replace hq2 : Heap.ExtBut i2 g1 q2 := hq2
  refine wpAny_pure (wpAny_pure (wpAny_bind (wpAny_rule ?_)))
  unfold Builtin.SmallTypes.stopIteration
  refine wpAny_bind ?_
  simp only [newExc, newTuple]
  refine wpAny_bind (wpAny_newObj_type ?_ (by size_fits))
  refine wpAny_bind (m := firstArgMember _ _) (wpAny_of_eq (a := Value.none) (by first | rfl | (simp only [firstArgMember]; rfl)) ?_)
  refine wpAny_newObj_type ?_ (by size_fits)
  simp only [raiseNew]
  refine wpAny_bind (wpAny_handled ?_)
  first | rw [show A.in1.handled = none from hh] | rw [hh]
  refine wpAny_bind (wpAny_pure (wpAny_throw ?_))
  exact hE _ _ _ (fun c o cz cT c1 c2 e => Heap.get?_push_of_some _ (Heap.get?_push_of_some _ (hq2 _ _ c2 (hs1.extBut _ _ cz (hp1 _ _ c1 (hs0.extBut _ _ cz e)))))) ⟨_, Heap.get?_push_size _ rfl, rfl⟩
theorem next_zs_item {Q : Option Value → Shared → Prop} (S : ZipSep2 z TI TO i1 i2 fp1 fp2) (D1 : Draws prog w A.in1 i1 fp1 n P1 St1) (D2 : Draws prog w A.in1 i2 fp2 n P2 St2)
    (hz : IsZs s.heap z TI TO .none) (hTI : IsTupOf2 s.heap TI (.ref i1) (.ref i2)) (hTO : IsTupOf2 s.heap TO a1 a2) (st1 : St1 i s.heap) (st2 : St2 i s.heap) (hlt : i < n)
    (hQ : ∀ x1 x2 h' tk, P1 i x1 → P2 i x2 → IsZs h' z TI TO (rawInt s.heap.objs.size) → IsTupOf2 h' TO x1 x2 → St1 (i + 1) h' → St2 (i + 1) h' → IsTupOf2 h' s.heap.objs.size x1 x2 → h'.objs.size = s.heap.objs.size + 1 →
      (∀ c o, c ≠ z → c ≠ TO → c ≠ i1 → c ≠ i2 → s.heap.get? c = some o → h'.get? c = some o) → Q (some (.ref s.heap.objs.size)) { s with heap := h', toks := tk }) : wpAny (model prog w) A (pyNext (.ref z)) Q E s := by
  have hT : s.TypeIs (.ref z) "zip" := ⟨_, hz, rfl⟩
  unfold pyNext
  exact wpAny_bind (wpAny_attempt (wpAny_callSpecial?_slot (name := Str.ofString "__next__") hT F.slot_zip_next (wpAny_call_entry F.slot_zip_next hT F.entry_zip_next
    (zs_item S D1 D2 hz hTI hTO st1 st2 hlt fun x1 x2 h' tk b0 b1 b2 b3 b4 b5 b6 b7 b8 => wpAny_pure (hQ x1 x2 h' tk b0 b1 b2 b3 b4 b5 b6 b7 b8)) (F.args_zip_next_1 _))))
theorem next_zs_end {Q : Option Value → Shared → Prop} (hh : A.handled = none) (S : ZipSep2 z TI TO i1 i2 fp1 fp2) (D1 : Draws prog w A.in1 i1 fp1 n P1 St1) (D2 : Draws prog w A.in1 i2 fp2 n P2 St2)
    (hz : IsZs s.heap z TI TO .none) (hTI : IsTupOf2 s.heap TI (.ref i1) (.ref i2)) (hTO : IsTupOf2 s.heap TO a1 a2) (st1 : St1 n s.heap) (st2 : St2 n s.heap)
    (hQ : ∀ h' tk, (∀ c o, c ≠ z → c ≠ TO → c ≠ i1 → c ≠ i2 → s.heap.get? c = some o → h'.get? c = some o) → Q none { s with heap := h', toks := tk }) : wpAny (model prog w) A (pyNext (.ref z)) Q E s := by
  have hT : s.TypeIs (.ref z) "zip" := ⟨_, hz, rfl⟩
  unfold pyNext
  refine wpAny_bind (wpAny_attempt (wpAny_callSpecial?_slot (name := Str.ofString "__next__") hT F.slot_zip_next (wpAny_call_entry F.slot_zip_next hT F.entry_zip_next
    (zs_end (A := A.in1) hh S D1 D2 hz hTI hTO st1 st2 fun h' tk e hk he => ?_) (F.args_zip_next_1 _))))
  obtain ⟨o, ho, hc⟩ := he
  exact wpAny_bind (wpAny_isInstance (T := "StopIteration") (b := true) ⟨o, ho, hc⟩ isSubtype_stop (wpAny_pure (hQ _ _ hk)))
theorem go_zs {elts : List Expr} {k : Nat} {pos : Pos} {T : Addr} {Q : Unit → Shared → Prop} (hz : IsZs s.heap z TI TO (rawInt T)) (hQ : ∀ h', IsZs h' z TI TO .none → Heap.SameBut z s.heap h' → Q () { s with heap := h' }) :
    wpAny (model prog w) A (letOwnedTupleGo (.Tuple elts k pos) (.ref z) (.ref T)) Q E s := by
  unfold letOwnedTupleGo
  refine wpAny_bind (wpAny_load hz ?_)
  show wpAny _ _ (if (["enumerate", "zip", "dict_itemiterator", "dict_reverseitemiterator", "odict_iterator", "itertools.zip_longest", "itertools.pairwise"].contains "zip" &&
      (#[rawInt T, .bool false, .bool true, .ref TI, .ref TO] : Array Value)[0]? == some (rawInt T)) = true then _ else _) Q E s
  rw [if_pos (by simp)]
  refine wpAny_bind (wpAny_rule ?_)
  show wpAny _ _ (setField (.ref z) 0 .none) Q E s
  exact wpAny_setField_rec hz (by simp) fun h' a b => hQ h' a b
theorem iter_zs {f0 : Value} {Q : Value → Shared → Prop} (hz : IsZs s.heap z TI TO f0) (h : Q (.ref z) s) : wpAny (model prog w) A (pyIter (.ref z)) Q E s := by
  have hT : s.TypeIs (.ref z) "zip" := ⟨_, hz, rfl⟩
  refine wpAny_pyIter_slot hT F.slot_zip_iter (wpAny_call_entry F.slot_zip_iter hT F.entry_zip_iter ?_ (F.args_zip_iter_1 _))
  show wpAny _ _ (ret (.ref z)) _ _ s
  exact wpAny_pure ⟨_, rfl, "zip", _, hT, F.slot_zip_next.lookup, h⟩
end
/-! ### zip(a, b, strict=True), enumerate(a): made -/
abbrev zsH (h : Heap) (o1 o2 : Obj) : Heap := (gzO2 h o1 o2).push { cls := .type "zip", data := .fields #[.none, .bool false, .bool true, .ref ((h.push o1).push o2).objs.size, .ref (gzT2 h o1 o2).objs.size] }
theorem zs_type (a b : Value) (t : Value) : checkTypeCall "zip" ⟨[a, b], [(Str.ofString "strict", t)]⟩ = pure () := by kernel_rfl
theorem zs_new (a b : Value) (t : Value) : checkBuiltinCall "zip.__new__" ⟨[.type "zip", a, b], [(Str.ofString "strict", t)]⟩ = pure () := by kernel_rfl
theorem zs_init (obj a b t : Value) : argsOk "object.__init__" ⟨[obj, a, b], [(Str.ofString "strict", t)]⟩ := by unfold argsOk; kernel_rfl
theorem meets_zs {v1 v2 : Value} {o1 o2 : Obj} {H1 H2 : Heap → Prop} (B1 : Begins v1 o1 H1) (B2 : Begins v2 o2 H2) :
    Meets (Builtin.«zip.__new__» ⟨[.type "zip", v1, v2], [(Str.ofString "strict", .bool true)]⟩) (fun _ R s => (H1 s.heap ∧ H2 s.heap) ∧ R (.ok (.ret (.ref (gzO2 s.heap o1 o2).objs.size))) { s with heap := zsH s.heap o1 o2 }) :=
  .of_wp fun prog w A R s h => by
    obtain ⟨hp, g, d, tk, os⟩ := s; obtain ⟨⟨h1, h2⟩, h⟩ := h
    have hsub := sub_zip
    have e1 : (Str.ofString "strict" != ("strict" : Str)) = false := by decide +kernel
    have q1 : ∀ {A' : Around} {E : Value → Shared → Prop} {Q : Value → Shared → Prop}, Q (.ref hp.objs.size) ⟨(hp.push o1), g, d, tk, os⟩ → wpAny (model prog w) A' (pyIter v1) Q E ⟨hp, g, d, tk, os⟩ :=
      fun q => B1.iter prog w _ _ ⟨hp, g, d, tk, os⟩ _ h1 q
    have q2 : ∀ {A' : Around} {E : Value → Shared → Prop} {Q : Value → Shared → Prop}, Q (.ref (hp.push o1).objs.size) ⟨((hp.push o1).push o2), g, d, tk, os⟩ → wpAny (model prog w) A' (pyIter v2) Q E ⟨(hp.push o1), g, d, tk, os⟩ :=
      fun q => B2.iter prog w _ _ ⟨(hp.push o1), g, d, tk, os⟩ _ (B2.keeps _ _ h2 fun b o' e => (Heap.get?_push_of_some _ e)) q
    wp_walk using q1, q2
    exact ⟨_, rfl, h⟩
theorem meets_enB {v : Value} {o : Obj} {H : Heap → Prop} (B : Begins v o H) :
    Meets (Builtin.«enumerate.__new__» ⟨[.type "enumerate", v], []⟩) (fun _ R s => H s.heap ∧
      R (.ok (.ret (.ref (s.heap.push o).objs.size))) { s with heap := (s.heap.push o).push { cls := .type "enumerate", data := .fields #[.none, .bool false, .ref s.heap.objs.size, rawInt 0, .none, .none] } }) :=
  .of_wp fun prog w A R s h => by
    obtain ⟨hp, g, d, tk, os⟩ := s; obtain ⟨h1, h⟩ := h
    have hsub := sub_enumerate
    have q1 : ∀ {A' : Around} {E : Value → Shared → Prop} {Q : Value → Shared → Prop}, Q (.ref hp.objs.size) ⟨hp.push o, g, d, tk, os⟩ → wpAny (model prog w) A' (pyIter v) Q E ⟨hp, g, d, tk, os⟩ :=
      fun q => B.iter prog w _ _ ⟨hp, g, d, tk, os⟩ _ h1 q
    wp_walk using q1
    refine wpAny_stack_any fun st => wpAny_pure ?_
    split
    · rename_i c _ _ _ _ _
      cases (c == Value.type "enumerate")
      · wp_walk using q1
        exact ⟨_, rfl, h⟩
      · wp_walk using q1
        exact ⟨_, rfl, h⟩
    · wp_walk using q1
      exact ⟨_, rfl, h⟩
section
variable {prog : Program} {w : World} {A : Around} {E : Value → Shared → Prop} {s : Shared}
theorem en_begins {v : Value} {o : Obj} {H : Heap → Prop} {Q : Value → Shared → Prop} (B : Begins v o H) (h1 : H s.heap)
    (h : ∀ h', IsEnum h' (s.heap.objs.size + 1) s.heap.objs.size 0 .none → h'.get? s.heap.objs.size = some o → h'.objs.size = s.heap.objs.size + 2 → (∀ b o, s.heap.get? b = some o → h'.get? b = some o) → Q (.ref (s.heap.objs.size + 1)) { s with heap := h' }) :
    wpAny (model prog w) A (call (.type "enumerate") [v]) Q E s := by
  refine callType_new F.called_enumerate (by decide) (F.typeCall_enumerate_1 _) (F.newCall_enumerate_1 _) (fun obj => F.args_object_init_2 obj _) F.entry_enumerate_new (meets_enB B) ⟨h1, ?_⟩
  have hz : (s.heap.push o).objs.size = s.heap.objs.size + 1 := Heap.size_push ..
  show _ ∧ _
  rw [hz]
  have he : IsEnum ((s.heap.push o).push { cls := .type "enumerate", data := .fields #[.none, .bool false, .ref s.heap.objs.size, rawInt 0, .none, .none] }) (s.heap.objs.size + 1) s.heap.objs.size 0 .none := by
    have := Heap.get?_push_size (s.heap.push o) (o := { cls := .type "enumerate", data := .fields #[.none, .bool false, .ref s.heap.objs.size, rawInt 0, .none, .none] }) rfl
    rw [hz] at this
    exact this
  exact ⟨⟨_, he, rfl⟩, h _ he (Heap.get?_push_of_some _ (Heap.get?_push_size _ B.free)) (by rw [Heap.size_push, hz]) fun b o x => Heap.get?_push_of_some _ (Heap.get?_push_of_some _ x)⟩
theorem zs_begins {v1 v2 : Value} {o1 o2 : Obj} {H1 H2 : Heap → Prop} {Q : Value → Shared → Prop} (B1 : Begins v1 o1 H1) (B2 : Begins v2 o2 H2) (h1 : H1 s.heap) (h2 : H2 s.heap)
    (h : ∀ h', IsZs h' (s.heap.objs.size + 4) (s.heap.objs.size + 2) (s.heap.objs.size + 3) .none → IsTupOf2 h' (s.heap.objs.size + 2) (.ref s.heap.objs.size) (.ref (s.heap.objs.size + 1)) →
      IsTupOf2 h' (s.heap.objs.size + 3) .none .none → h'.get? s.heap.objs.size = some o1 → h'.get? (s.heap.objs.size + 1) = some o2 → h'.objs.size = s.heap.objs.size + 5 →
      (∀ c o, s.heap.get? c = some o → h'.get? c = some o) → Q (.ref (s.heap.objs.size + 4)) { s with heap := h' }) :
    wpAny (model prog w) A (call (.type "zip") [v1, v2] [(Str.ofString "strict", .bool true)]) Q E s := by
  refine callType_newKw F.called_zip (by decide) (zs_type _ _ _) (zs_new _ _ _) (fun obj => zs_init obj _ _ _) F.entry_zip_new (meets_zs B1 B2) ⟨⟨h1, h2⟩, ?_⟩
  have z1 : (s.heap.push o1).objs.size = s.heap.objs.size + 1 := by rw [Heap.size_push]
  have z2 : ((s.heap.push o1).push o2).objs.size = s.heap.objs.size + 2 := by rw [Heap.size_push, z1]
  have zT : (gzT2 s.heap o1 o2).objs.size = s.heap.objs.size + 3 := by rw [Heap.size_push, z2]
  have zO : (gzO2 s.heap o1 o2).objs.size = s.heap.objs.size + 4 := by rw [Heap.size_push, zT]
  have zZ : (zsH s.heap o1 o2).objs.size = s.heap.objs.size + 5 := by rw [Heap.size_push, zO]
  have keep : ∀ {c : Addr} {o : Obj}, s.heap.get? c = some o → (zsH s.heap o1 o2).get? c = some o := fun e => Heap.get?_push_of_some _ (Heap.get?_push_of_some _ (Heap.get?_push_of_some _ (Heap.get?_push_of_some _ (Heap.get?_push_of_some _ e))))
  have gZ : (zsH s.heap o1 o2).get? (gzO2 s.heap o1 o2).objs.size = some { cls := .type "zip", data := .fields #[.none, .bool false, .bool true, .ref ((s.heap.push o1).push o2).objs.size, .ref (gzT2 s.heap o1 o2).objs.size] } := Heap.get?_push_size _ rfl
  have gO : (zsH s.heap o1 o2).get? (gzT2 s.heap o1 o2).objs.size = some { cls := .type "tuple", data := .seq #[.none, .none] } := Heap.get?_push_of_some _ (Heap.get?_push_size _ rfl)
  have gT : (zsH s.heap o1 o2).get? ((s.heap.push o1).push o2).objs.size = some { cls := .type "tuple", data := .seq #[.ref s.heap.objs.size, .ref (s.heap.push o1).objs.size] } := Heap.get?_push_of_some _ (Heap.get?_push_of_some _ (Heap.get?_push_size _ rfl))
  have g1 : (zsH s.heap o1 o2).get? s.heap.objs.size = some o1 := Heap.get?_push_of_some _ (Heap.get?_push_of_some _ (Heap.get?_push_of_some _ (Heap.get?_push_of_some _ (Heap.get?_push_size _ B1.free))))
  have g2 : (zsH s.heap o1 o2).get? (s.heap.push o1).objs.size = some o2 := Heap.get?_push_of_some _ (Heap.get?_push_of_some _ (Heap.get?_push_of_some _ (Heap.get?_push_size _ B2.free)))
  rw [zO, zT, z2] at gZ
  rw [zT] at gO
  rw [z2, z1] at gT
  rw [z1] at g2
  show _ ∧ _
  rw [zO]
  exact ⟨⟨_, gZ, rfl⟩, h _ gZ gT gO g1 g2 zZ fun c o e => keep e⟩
end
end Ev
set_option Elab.async false
set_option linter.all false
set_option maxRecDepth 100000
/-! Ev24: enumerate, zip over lists and tuples. -/
namespace Ev
open PySem PySem.Spec PyProof.Rows L2

def SqK (k : Bool) (K : Frag) (H : Hp) (a : Addr) (xs : List V) : Prop := if k = true then SqL K H a xs else SqT K H a xs
def ItOn (k : Bool) (h : Heap) (it a : Addr) (i : Nat) : Prop := if k = true then h.IsListIter it a i else h.IsTupleIter it a i
def OnK (k : Bool) (h : Heap) (a : Addr) (items : Array Value) : Prop := if k = true then h.IsList a items else h.IsTuple a items
def objK (k : Bool) (a : Addr) : Obj := if k = true then { cls := .type "list_iterator", data := .fields #[.ref a, .int 0 0] } else { cls := .type "tuple_iterator", data := .fields #[.ref a, .int 0 0] }
section
variable {X : Cx} {k k1 k2 : Bool} {pins : List (Addr × Obj)} {σ : Sg} {H : Hp} {s : Shared} {a b it : Addr} {xs ys : List V}
theorem sqk_at (J : Inv X pins σ H s) (h : SqK k X.K H a xs) : ∃ its : List Value, Vals xs its ∧ OnK k s.heap a its.toArray ∧ a < s.heap.objs.size := by
  cases k with
  | true =>
    obtain ⟨its, r, p, _⟩ := J.list (by simpa [SqK] using h)
    exact ⟨its, r, by simpa [OnK] using p.isList, p.lt⟩
  | false =>
    obtain ⟨its, r, p, _⟩ := J.tuple (by simpa [SqK] using h)
    obtain ⟨o, ho, _⟩ := id p
    exact ⟨its, r, by simpa [OnK] using (show s.heap.IsTuple a its.toArray from p), Heap.lt_size ho⟩
theorem sqk_inj (J : Inv X pins σ H s) (h : SqK k X.K H a xs) (h' : SqK k X.K H a ys) : xs = ys := by
  cases k with
  | true => exact J.list_inj (by simpa [SqK] using h) (by simpa [SqK] using h')
  | false => exact J.tuple_inj (by simpa [SqK] using h) (by simpa [SqK] using h')
theorem drawsK {prog : Program} {w : World} {A : Around} (hh : A.handled = none) (ne : a ≠ it) (items : Array Value) : Draws prog w A it [it, a] items.size (fun i v => items[i]? = some v) (fun i h => ItOn k h it a i ∧ OnK k h a items) := by
  cases k with
  | true => simpa [ItOn, OnK] using Draws.list hh it a ne items
  | false => simpa [ItOn, OnK] using Draws.tuple hh it a ne items
theorem beginsK (k : Bool) (a : Addr) (items : Array Value) : Begins (.ref a) (objK k a) fun h => OnK k h a items := by
  cases k with
  | true => simpa [objK, OnK] using begins_list a items
  | false => simpa [objK, OnK] using begins_tuple a items
theorem itOn0 {h : Heap} (e : h.get? it = some (objK k a)) : ItOn k h it a 0 := by
  cases k with
  | true => simpa [ItOn] using (show h.IsListIter it a 0 from ⟨_, e, rfl, rfl⟩)
  | false => simpa [ItOn] using (show h.IsTupleIter it a 0 from ⟨_, e, rfl, rfl⟩)
theorem itOn_at {h h' : Heap} {i : Nat} (x : ItOn k h it a i) (e : ∀ o, h.get? it = some o → h'.get? it = some o) : ItOn k h' it a i := by
  cases k with
  | true => simpa [ItOn] using (show h.IsListIter it a i by simpa [ItOn] using x).at e
  | false => simpa [ItOn] using (show h.IsTupleIter it a i by simpa [ItOn] using x).at e
theorem itOn_obj {h : Heap} {i : Nat} (x : ItOn k h it a i) : ∃ o, h.get? it = some o ∧ ∀ v, o.data ≠ .cell v := by
  cases k with
  | true =>
    obtain ⟨o, e, _, d⟩ := (show h.IsListIter it a i by simpa [ItOn] using x)
    exact ⟨o, e, fun v q => by rw [d] at q; cases q⟩
  | false =>
    obtain ⟨o, e, _, d⟩ := (show h.IsTupleIter it a i by simpa [ItOn] using x)
    exact ⟨o, e, fun v q => by rw [d] at q; cases q⟩

/-! ### enumerate -/
def JEn (k : Bool) (K : Frag) (a : Addr) : It :=
  ⟨fun i H => ∃ (xs : List V) (x : V), SqK k K H a xs ∧ xs[i]? = some x, fun i H v H' => ∃ T x, v = .ref T ∧ H T = none ∧ H' = upd H T (.tup [.int (i : Nat), x]) ∧ ∀ xs, SqK k K H a xs → xs[i]? = some x, fun i H => ∃ xs : List V, SqK k K H a xs ∧ xs.length = i⟩
theorem turn_en {P : Program} {w : World} {K : Frag} {elts : List Expr} {kk : Nat} {tpos : Pos} (a e it : Addr) (hai : a ≠ it) (hae : a ≠ e) :
    Turn P w K (.Tuple elts kk tpos) (JEn k K a) [e, it] e (fun i h => (∃ old, IsEnum h e it ((i : Nat) : Int) old) ∧ ItOn k h it a i ∧ e ≠ it) where
  mem := by simp
  obj := fun i h st b hb => by
    obtain ⟨⟨old, he⟩, hi, _⟩ := st
    rcases (show b = e ∨ b = it by simpa using hb) with q | q
    · exact q ▸ ⟨_, he, fun v z => nomatch z⟩
    · exact q ▸ itOn_obj hi
  keep := fun i h h' st kp => let ⟨⟨old, he⟩, hi, hne⟩ := st; ⟨⟨old, kp e (by simp) _ he⟩, itOn_at hi fun o q => kp it (by simp) o q, hne⟩
  item := by
    intro X hP hw hK hc i pins s σ H E J hf st hg
    subst hP hw hK
    obtain ⟨⟨old, he⟩, hit, hne⟩ := st
    obtain ⟨xs, x, hq, hx⟩ := hg
    obtain ⟨its, rv, on, hal⟩ := sqk_at J hq
    obtain ⟨u, hu, ru⟩ := rv.get hx
    have hlt : i < its.toArray.size := by
      rw [List.size_toArray]
      exact (List.getElem?_eq_some_iff.mp hu).1
    have hel : e < s.heap.objs.size := Heap.lt_size he
    have hil : it < s.heap.objs.size := by
      obtain ⟨o, q, _⟩ := itOn_obj hit
      exact Heap.lt_size q
    refine wpAny_pyNext_enum_itemD (drawsK (show X.A.in1.handled = none from J.ok.hd hc) hai its.toArray) he ⟨hit, on⟩ hlt hne (by simp only [List.mem_cons, List.not_mem_nil, or_false]; exact fun z => z.elim hne fun z => hae z.symm) ?_
    intro v h' tk hv ho hs' hT hsz hk
    have ev : v = u := by
      rw [List.getElem?_toArray, hu] at hv
      exact (Option.some.inj hv).symm
    subst ev
    refine ⟨_, rfl, wpAny_letOwnedTupleGo_enum (s := { s with heap := h', toks := tk + 1 }) ho fun h'' he' sb => ?_⟩
    have hT2 : h''.get? s.heap.objs.size = some { cls := .type "tuple", data := .seq #[.int i tk, v] } := (sb.2 _ (Nat.ne_of_gt hel)).trans hT
    have new : ObjOk X.prog X.w (upd H s.heap.objs.size (.tup [.int (i : Nat), x])) h'' s.heap.objs.size (.tup [.int (i : Nat), x]) :=
      ⟨by show 2 ≤ sizeLine; decide, [.int i tk, v], .cons ⟨_, rfl⟩ (.cons ru .nil), ⟨_, hT2, rfl, _, rfl⟩⟩
    have J1 : Inv X pins σ (upd H s.heap.objs.size (.tup [.int (i : Nat), x])) { s with heap := h'', toks := tk + 1 } :=
      J.turnedNew (ch := [e, it]) (fun b ob hb q => (sb.2 b (fun z => hb (by simp [z]))).trans (hk b ob (fun z => hb (by simp [z])) (fun z => hb (by simp [z])) q)) hf (Nat.le_refl _) new
    refine ⟨.ref s.heap.objs.size, _, J1, rfl, ⟨_, x, rfl, J.hok.fresh (Nat.le_refl _), rfl, fun ys hy => by rw [sqk_inj J hy hq]; exact hx⟩, ⟨⟨v, ?_⟩, itOn_at hs'.1 fun o q => (sb.2 it (Ne.symm hne)).trans q, hne⟩, fun b hb => ?_⟩
    · rw [show ((i + 1 : Nat) : Int) = (i : Int) + 1 by omega]
      exact he'
    · have hb' : b < s.heap.objs.size := by
        rcases (show b = e ∨ b = it by simpa using hb) with z | z
        · rw [z]; exact hel
        · rw [z]; exact hil
      rw [upd_ne (Nat.ne_of_lt hb')]
      exact (hf b hb).1
  done := by
    intro X hP hw hK hc i pins s σ H E J hf st hg
    subst hP hw hK
    obtain ⟨⟨old, he⟩, hit, hne⟩ := st
    obtain ⟨xs, hq, hx⟩ := hg
    obtain ⟨its, rv, on, hal⟩ := sqk_at J hq
    obtain ⟨f0, f1, f2, f3, f4, f5⟩ := hf it (by simp)
    have hl : its.toArray.size = i := by rw [List.size_toArray, ← rv.length, hx]
    refine wpAny_pyNext_enum_endD (drawsK (show X.A.in1.handled = none from J.ok.hd hc) hai its.toArray) he (by rw [hl]; exact ⟨hit, on⟩) fun h' eb => ⟨rfl, J.turned (t' := s.toks) (fun b o hb q => eb b o hb q) f0 f1 f3 f4 f5⟩
  self := fun A i s Q E st h => let ⟨⟨_, he⟩, _⟩ := st; wpAny_pyIter_enum he h
def iEn (K : Frag) (ta : TA) : TI := fun σ H R => ta σ H fun vs H1 => ∃ k a xs, vs = [.ref a] ∧ SqK k K H1 a xs ∧ R (JEn k K a) H1
theorem pi_en {e : Expr} {ta : TA} {p pos tpos : Pos} {elts : List Expr} {kk : Nat} (hg : Gl X "enumerate") (hm : X.mg "enumerate" = none) (ha : PA X [e] ta) (pl : plainArg e = true) : PI X (.Tuple elts kk tpos) (.Call (.Name "enumerate" p) [e] [] pos) (iEn X.K ta) := by
  refine ⟨fun pins s σ H R J h => Call_ (ld_blt J hg hm boot_enumerate (PyProof.Rows.callWith_type1 (thn (ha.run pos pins s σ H _ J h) ?_) (star_plain pl) rfl))⟩
  intro us s1 ⟨vs, H1, J1, r1, k, a, xs, ex, hq, q⟩
  subst ex
  cases r1 with
  | cons r rr =>
    cases rr
    cases r
    obtain ⟨its, rv, on, hal⟩ := sqk_at J1 hq
    refine en_begins (beginsK k a its.toArray) on fun h' he hit hsz hk => wpAny_pyIter_enum he ?_
    refine ⟨s1.heap.objs.size + 1, [s1.heap.objs.size + 1, s1.heap.objs.size], _, _, H1, rfl, J1.kept (t' := s1.toks) hk, turn_en a (s1.heap.objs.size + 1) s1.heap.objs.size (Nat.ne_of_lt hal) (Nat.ne_of_lt (Nat.lt_succ_of_lt hal)), ⟨⟨.none, he⟩, itOn0 hit, Nat.succ_ne_self _⟩, fun b hb => ?_, q⟩
    have hle : s1.heap.objs.size ≤ b := by
      rcases (show b = s1.heap.objs.size + 1 ∨ b = s1.heap.objs.size by simpa using hb) with z | z
      · rw [z]; exact Nat.le_succ _
      · rw [z]; exact Nat.le_refl _
    exact J1.fpOk hle (J1.hok.fresh hle)

/-! ### zip -/
def JZ (st k1 k2 : Bool) (K : Frag) (a b : Addr) : It :=
  ⟨fun i H => ∃ (xs ys : List V) (x y : V), SqK k1 K H a xs ∧ SqK k2 K H b ys ∧ xs[i]? = some x ∧ ys[i]? = some y ∧ (st = true → xs.length = ys.length),
    fun i H v H' => ∃ T x y, v = .ref T ∧ H T = none ∧ H' = upd H T (.tup [x, y]) ∧ (∀ xs, SqK k1 K H a xs → xs[i]? = some x) ∧ ∀ ys, SqK k2 K H b ys → ys[i]? = some y,
    fun i H => ∃ xs ys : List V, SqK k1 K H a xs ∧ SqK k2 K H b ys ∧ i ≤ xs.length ∧ i ≤ ys.length ∧ (i = xs.length ∨ i = ys.length) ∧ (st = true → xs.length = ys.length)⟩
def IsZz (st : Bool) (h : Heap) (z TI TO : Addr) (f0 : Value) : Prop := if st = true then IsZs h z TI TO f0 else IsZip h z TI TO f0
theorem zz_obj {st : Bool} {h : Heap} {z TI TO : Addr} {f0 : Value} (x : IsZz st h z TI TO f0) : ∃ o, h.get? z = some o ∧ ∀ v, o.data ≠ .cell v := by
  cases st with
  | true => exact ⟨_, (show IsZs h z TI TO f0 by simpa [IsZz] using x), fun v q => nomatch q⟩
  | false => exact ⟨_, (show IsZip h z TI TO f0 by simpa [IsZz] using x), fun v q => nomatch q⟩
theorem zz_at {st : Bool} {h h' : Heap} {z TI TO : Addr} {f0 : Value} (x : IsZz st h z TI TO f0) (e : ∀ o, h.get? z = some o → h'.get? z = some o) : IsZz st h' z TI TO f0 := by
  cases st with
  | true => simpa [IsZz] using e _ (show IsZs h z TI TO f0 by simpa [IsZz] using x)
  | false => simpa [IsZz] using e _ (show IsZip h z TI TO f0 by simpa [IsZz] using x)
theorem zz_item {prog : Program} {w : World} {A : Around} {E : Value → Shared → Prop} {st : Bool} {z TI TO i1 i2 : Addr} {fp1 fp2 : List Addr} {n1 n2 i : Nat} {P1 P2 : Nat → Value → Prop} {St1 St2 : Nat → Heap → Prop} {a1 a2 : Value} {Q : Option Value → Shared → Prop} (S : ZipSep2 z TI TO i1 i2 fp1 fp2) (D1 : Draws prog w A.in1 i1 fp1 n1 P1 St1) (D2 : Draws prog w A.in1 i2 fp2 n2 P2 St2)
    (hn : st = true → n1 = n2) (hz : IsZz st s.heap z TI TO .none) (hTI : IsTupOf2 s.heap TI (.ref i1) (.ref i2)) (hTO : IsTupOf2 s.heap TO a1 a2) (st1 : St1 i s.heap) (st2 : St2 i s.heap) (hlt1 : i < n1) (hlt2 : i < n2)
    (hQ : ∀ x1 x2 h' tk, P1 i x1 → P2 i x2 → IsZz st h' z TI TO (rawInt s.heap.objs.size) → IsTupOf2 h' TO x1 x2 → St1 (i + 1) h' → St2 (i + 1) h' → IsTupOf2 h' s.heap.objs.size x1 x2 → h'.objs.size = s.heap.objs.size + 1 →
      (∀ c o, c ≠ z → c ≠ TO → c ≠ i1 → c ≠ i2 → s.heap.get? c = some o → h'.get? c = some o) → Q (some (.ref s.heap.objs.size)) { s with heap := h', toks := tk }) : wpAny (model prog w) A (pyNext (.ref z)) Q E s := by
  cases st with
  | true =>
    have e := hn rfl
    subst e
    exact next_zs_item S D1 D2 (by simpa [IsZz] using hz) hTI hTO st1 st2 hlt1 fun x1 x2 h' tk p1 p2 q => hQ x1 x2 h' tk p1 p2 (by simpa [IsZz] using q)
  | false => exact wpAny_pyNext_zipD2_item S D1 D2 (by simpa [IsZz] using hz) hTI hTO st1 st2 hlt1 hlt2 fun x1 x2 h' tk p1 p2 q => hQ x1 x2 h' tk p1 p2 (by simpa [IsZz] using q)
theorem zz_end {prog : Program} {w : World} {A : Around} {E : Value → Shared → Prop} {st : Bool} {z TI TO i1 i2 : Addr} {fp1 fp2 : List Addr} {n1 n2 i : Nat} {P1 P2 : Nat → Value → Prop} {St1 St2 : Nat → Heap → Prop} {a1 a2 : Value} {Q : Option Value → Shared → Prop} (hh : A.handled = none) (S : ZipSep2 z TI TO i1 i2 fp1 fp2) (D1 : Draws prog w A.in1 i1 fp1 n1 P1 St1) (D2 : Draws prog w A.in1 i2 fp2 n2 P2 St2)
    (hn : st = true → n1 = n2) (hz : IsZz st s.heap z TI TO .none) (hTI : IsTupOf2 s.heap TI (.ref i1) (.ref i2)) (hTO : IsTupOf2 s.heap TO a1 a2) (st1 : St1 i s.heap) (st2 : St2 i s.heap) (hle1 : i ≤ n1) (hle2 : i ≤ n2) (hend : i = n1 ∨ i = n2)
    (hQ : ∀ h' tk, (∀ c o, c ≠ z → c ≠ TO → c ≠ i1 → c ≠ i2 → s.heap.get? c = some o → h'.get? c = some o) → Q none { s with heap := h', toks := tk }) : wpAny (model prog w) A (pyNext (.ref z)) Q E s := by
  cases st with
  | true =>
    have e := hn rfl
    subst e
    have ei : i = n1 := by omega
    subst ei
    exact next_zs_end hh S D1 D2 (by simpa [IsZz] using hz) hTI hTO st1 st2 hQ
  | false => exact wpAny_pyNext_zipD2_end S D1 D2 (by simpa [IsZz] using hz) hTI hTO st1 st2 hle1 hle2 hend hQ
theorem turn_zz {st : Bool} {P : Program} {w : World} {K : Frag} {elts : List Expr} {kk : Nat} {tpos : Pos} {a b z TI TO i1 i2 : Addr} (S : ZipSep2 z TI TO i1 i2 [i1, a] [i2, b]) (n1 : a ≠ i1) (n2 : b ≠ i2) :
    Turn P w K (.Tuple elts kk tpos) (JZ st k1 k2 K a b) [z, TI, TO, i1, i2] z (fun i h => IsZz st h z TI TO .none ∧ IsTupOf2 h TI (.ref i1) (.ref i2) ∧ (∃ x y, IsTupOf2 h TO x y) ∧ ItOn k1 h i1 a i ∧ ItOn k2 h i2 b i) where
  mem := by simp
  obj := fun i h st c hc => by
    obtain ⟨hz, hTI, ⟨x, y, hTO⟩, h1, h2⟩ := st
    rcases (show c = z ∨ c = TI ∨ c = TO ∨ c = i1 ∨ c = i2 by simpa using hc) with q | q | q | q | q
    · exact q ▸ zz_obj hz
    · exact q ▸ ⟨_, hTI, fun v z => nomatch z⟩
    · exact q ▸ ⟨_, hTO, fun v z => nomatch z⟩
    · exact q ▸ itOn_obj h1
    · exact q ▸ itOn_obj h2
  keep := fun i h h' st kp => by
    obtain ⟨hz, hTI, ⟨x, y, hTO⟩, h1, h2⟩ := st
    exact ⟨zz_at hz fun o q => kp z (by simp) o q, kp TI (by simp) _ hTI, ⟨x, y, kp TO (by simp) _ hTO⟩, itOn_at h1 fun o q => kp i1 (by simp) o q, itOn_at h2 fun o q => kp i2 (by simp) o q⟩
  item := by
    intro X hP hw hK hc i pins s σ H E J hf st' hg
    subst hP hw hK
    obtain ⟨hz, hTI, ⟨x0, y0, hTO⟩, h1, h2⟩ := st'
    obtain ⟨xs, ys, x, y, hqx, hqy, hx, hy, hst⟩ := hg
    obtain ⟨its, rv, on1, _⟩ := sqk_at J hqx
    obtain ⟨its2, rv2, on2, _⟩ := sqk_at J hqy
    obtain ⟨u, hu, ru⟩ := rv.get hx
    obtain ⟨u2, hu2, ru2⟩ := rv2.get hy
    have l1 := (List.getElem?_eq_some_iff.mp hu).1
    have l2 := (List.getElem?_eq_some_iff.mp hu2).1
    have hzl : z < s.heap.objs.size := by
      obtain ⟨o, q, _⟩ := zz_obj hz
      exact Heap.lt_size q
    have hh : X.A.in1.handled = none := J.ok.hd hc
    have ln : st = true → its.toArray.size = its2.toArray.size := fun e => by
      rw [List.size_toArray, List.size_toArray, ← rv.length, ← rv2.length, hst e]
    refine zz_item S (drawsK hh n1 its.toArray) (drawsK hh n2 its2.toArray) ln hz hTI hTO ⟨h1, on1⟩ ⟨h2, on2⟩ (by rw [List.size_toArray]; exact l1) (by rw [List.size_toArray]; exact l2) ?_
    intro v1 v2 h' tk e1 e2 z' TO' s1' s2' hT hsz hk
    have ev1 : v1 = u := by
      rw [List.getElem?_toArray, hu] at e1
      exact (Option.some.inj e1).symm
    have ev2 : v2 = u2 := by
      rw [List.getElem?_toArray, hu2] at e2
      exact (Option.some.inj e2).symm
    subst ev1 ev2
    have go : ∀ {Q : Unit → Shared → Prop}, (∀ h'', IsZz st h'' z TI TO .none → Heap.SameBut z h' h'' → Q () { s with heap := h'', toks := tk }) → wpAny (model X.prog X.w) X.A (letOwnedTupleGo (.Tuple elts kk tpos) (.ref z) (.ref s.heap.objs.size)) Q E { s with heap := h', toks := tk } := fun {Q} f => by
      cases st with
      | true => exact go_zs (s := { s with heap := h', toks := tk }) (by simpa [IsZz] using z') fun h'' p q => f h'' (by simpa [IsZz] using p) q
      | false => exact wpAny_letOwnedTupleGo_zip (s := { s with heap := h', toks := tk }) (by simpa [IsZz] using z') fun h'' p q => f h'' (by simpa [IsZz] using p) q
    refine ⟨_, rfl, go fun h'' z'' sb => ?_⟩
    have hT2 : h''.get? s.heap.objs.size = some { cls := .type "tuple", data := .seq #[v1, v2] } := (sb.2 _ (Nat.ne_of_gt hzl)).trans hT
    have new : ObjOk X.prog X.w (upd H s.heap.objs.size (.tup [x, y])) h'' s.heap.objs.size (.tup [x, y]) :=
      ⟨by show 2 ≤ sizeLine; decide, [v1, v2], .cons ru (.cons ru2 .nil), ⟨_, hT2, rfl, _, rfl⟩⟩
    have J1 : Inv X pins σ (upd H s.heap.objs.size (.tup [x, y])) { s with heap := h'', toks := tk } :=
      J.turnedNew (t' := tk) (ch := [z, TI, TO, i1, i2]) (fun c o hb q => (sb.2 c (fun q' => hb (by simp [q']))).trans (hk c o (fun q' => hb (by simp [q'])) (fun q' => hb (by simp [q'])) (fun q' => hb (by simp [q'])) (fun q' => hb (by simp [q'])) q)) hf (Nat.le_refl _) new
    refine ⟨.ref s.heap.objs.size, _, J1, rfl, ⟨_, x, y, rfl, J.hok.fresh (Nat.le_refl _), rfl, fun l hl => by rw [sqk_inj J hl hqx]; exact hx, fun l hl => by rw [sqk_inj J hl hqy]; exact hy⟩, ⟨z'', ?_, ⟨v1, v2, ?_⟩, ?_, ?_⟩, fun c hcm => ?_⟩
    · exact (sb.2 _ S.TIz).trans (hk _ _ S.TIz S.TITO S.TIi1 S.TIi2 hTI)
    · exact (sb.2 _ S.TOz).trans TO'
    · exact itOn_at s1'.1 fun o q => (sb.2 _ S.zi1.symm).trans q
    · exact itOn_at s2'.1 fun o q => (sb.2 _ S.zi2.symm).trans q
    · have hlt : c < s.heap.objs.size := by
        rcases (show c = z ∨ c = TI ∨ c = TO ∨ c = i1 ∨ c = i2 by simpa using hcm) with q | q | q | q | q
        · rw [q]; exact hzl
        · rw [q]; exact Heap.lt_size hTI
        · rw [q]; exact Heap.lt_size hTO
        · rw [q]; obtain ⟨_, e1, _⟩ := itOn_obj h1; exact Heap.lt_size e1
        · rw [q]; obtain ⟨_, e2, _⟩ := itOn_obj h2; exact Heap.lt_size e2
      rw [upd_ne (Nat.ne_of_lt hlt)]
      exact (hf c hcm).1
  done := by
    intro X hP hw hK hc i pins s σ H E J hf st' hg
    subst hP hw hK
    obtain ⟨hz, hTI, ⟨x0, y0, hTO⟩, h1, h2⟩ := st'
    obtain ⟨xs, ys, hqx, hqy, le1, le2, hend, hst⟩ := hg
    obtain ⟨its, rv, on1, _⟩ := sqk_at J hqx
    obtain ⟨its2, rv2, on2, _⟩ := sqk_at J hqy
    have l1 : its.toArray.size = xs.length := by rw [List.size_toArray, rv.length]
    have l2 : its2.toArray.size = ys.length := by rw [List.size_toArray, rv2.length]
    have hh : X.A.handled = none := J.ok.hd hc
    have hh1 : X.A.in1.handled = none := hh
    refine zz_end hh S (drawsK hh1 n1 its.toArray) (drawsK hh1 n2 its2.toArray) (fun e => by rw [l1, l2, hst e]) hz hTI hTO ⟨h1, on1⟩ ⟨h2, on2⟩ (by omega) (by omega) (by omega) fun h' tk hk => ⟨rfl, J.turnedL (t' := tk) (ch := [z, TI, TO, i1, i2]) (fun c o hb q =>
      hk c o (fun q' => hb (by simp [q'])) (fun q' => hb (by simp [q'])) (fun q' => hb (by simp [q'])) (fun q' => hb (by simp [q'])) q) hf⟩
  self := fun A i s Q E st' h => by
    obtain ⟨hz, _⟩ := st'
    cases st with
    | true => exact iter_zs (by simpa [IsZz] using hz) h
    | false => exact wpAny_pyIter_zip (by simpa [IsZz] using hz) h
def iZz (st : Bool) (K : Frag) (ta : TA) : TI := fun σ H R => ta σ H fun vs H1 => ∃ k1 k2 a b xs ys, vs = [.ref a, .ref b] ∧ SqK k1 K H1 a xs ∧ SqK k2 K H1 b ys ∧ R (JZ st k1 k2 K a b) H1
theorem zz_made {tg : Expr} {st k1 k2 : Bool} {pins : List (Addr × Obj)} {σ : Sg} {H : Hp} {s : Shared} {R : It → Hp → Prop} {a b : Addr} {elts : List Expr} {kk : Nat} {tpos : Pos} {h' : Heap} (J : Inv X pins σ H s) (ha : a < s.heap.objs.size) (hb : b < s.heap.objs.size)
    (hz : IsZz st h' (s.heap.objs.size + 4) (s.heap.objs.size + 2) (s.heap.objs.size + 3) .none) (hTI : IsTupOf2 h' (s.heap.objs.size + 2) (.ref s.heap.objs.size) (.ref (s.heap.objs.size + 1))) (hTO : IsTupOf2 h' (s.heap.objs.size + 3) .none .none)
    (h1 : h'.get? s.heap.objs.size = some (objK k1 a)) (h2 : h'.get? (s.heap.objs.size + 1) = some (objK k2 b)) (hk : ∀ c o, s.heap.get? c = some o → h'.get? c = some o) (q : R (JZ st k1 k2 X.K a b) H) :
    PIE X pins σ (.Tuple elts kk tpos) R (.ref (s.heap.objs.size + 4)) { s with heap := h' } := by
  have S := zip_sep2 (N := s.heap.objs.size) (fp1 := [a]) (fp2 := [b]) (by simpa using ha) (by simpa using hb)
  refine ⟨s.heap.objs.size + 4, [s.heap.objs.size + 4, s.heap.objs.size + 2, s.heap.objs.size + 3, s.heap.objs.size, s.heap.objs.size + 1], _, _, H, rfl, J.kept (t' := s.toks) hk, turn_zz S (Nat.ne_of_lt ha) (Nat.ne_of_lt (Nat.lt_succ_of_lt hb)), ⟨hz, hTI, ⟨_, _, hTO⟩, itOn0 h1, itOn0 h2⟩, fun c hcm => ?_, q⟩
  have hle : s.heap.objs.size ≤ c := by
    rcases (show c = s.heap.objs.size + 4 ∨ c = s.heap.objs.size + 2 ∨ c = s.heap.objs.size + 3 ∨ c = s.heap.objs.size ∨ c = s.heap.objs.size + 1 by simpa using hcm) with z | z | z | z | z
    · rw [z]; exact Nat.le_add_right _ _
    · rw [z]; exact Nat.le_add_right _ _
    · rw [z]; exact Nat.le_add_right _ _
    · rw [z]; exact Nat.le_refl _
    · rw [z]; exact Nat.le_add_right _ _
  exact J.fpOk hle (J.hok.fresh hle)
theorem pi_zz0 {e e2 : Expr} {ta : TA} {p pos tpos : Pos} {elts : List Expr} {kk : Nat} (hg : Gl X "zip") (hm : X.mg "zip" = none) (ha : PA X [e, e2] ta) (p1 : plainArg e = true) (p2 : plainArg e2 = true) : PI X (.Tuple elts kk tpos) (.Call (.Name "zip" p) [e, e2] [] pos) (iZz false X.K ta) := by
  refine ⟨fun pins s σ H R J h => Call_ (ld_blt J hg hm boot_zip (PyProof.Rows.callWith_type1 (thn (ha.run pos pins s σ H _ J h) ?_) (star_plain p1) (plain_all (by simpa using p2))))⟩
  intro us s1 ⟨vs, H1, J1, r1, k1, k2, a, b, xs, ys, ex, hq, hq2, q⟩
  subst ex
  cases r1 with
  | cons r rr =>
    cases rr with
    | cons r2 rr =>
      cases rr
      cases r
      cases r2
      obtain ⟨its, rv, on, hal⟩ := sqk_at J1 hq
      obtain ⟨its2, rv2, on2, hbl⟩ := sqk_at J1 hq2
      exact zip_begins2 (beginsK k1 a its.toArray) (beginsK k2 b its2.toArray) on on2 fun h' hz hTI hTO h1 h2 hsz hk => wpAny_pyIter_zip hz (zz_made (tg := e) (st := false) J1 hal hbl (by simpa [IsZz] using hz) hTI hTO h1 h2 hk q)
end
end Ev
set_option Elab.async false
set_option linter.all false
set_option maxRecDepth 100000
/-! Ev25: what is gone through, checked. -/
namespace Ev
open PySem PySem.Spec PyProof.Rows L2

section
variable {X : Cx} {W : WX} {L : List FnE} {σ : Sg} {H : Hp} {C : Cc}
theorem pi_zz1 {e e2 : Expr} {ta : TA} {p p3 p4 pos tpos : Pos} {elts : List Expr} {kk k3 : Nat} (hg : Gl X "zip") (hm : X.mg "zip" = none) (ha : PA X [e, e2] ta) (p1 : plainArg e = true) (p2 : plainArg e2 = true) :
    PI X (.Tuple elts kk tpos) (.Call (.Name "zip" p) [e, e2] [⟨some (Str.ofString "strict"), .Constant (.bool true) k3 p3, p4⟩] pos) (iZz true X.K ta) := by
  refine ⟨fun pins s σ H R J h => wpAny_Call_Name_kw (ld_blt J hg hm boot_zip ?_)⟩
  have pk := pk_cons (X := X) (nm := some (Str.ofString "strict")) (kpos := p4) (pe_bl (b := true) (pos := p3) (j := k3)) (pk_nil (X := X))
  obtain ⟨k1, k2, k3'⟩ := kw_some (pos := pos) (env := X.env) (kws := [⟨some (Str.ofString "strict"), .Constant (.bool true) k3 p3, p4⟩]) (l := [Str.ofString "strict"]) rfl
  refine PySem.W.callWith_of (P := fun _ => True) (by rw [star_plain p1]; show ((false || (backTo pos (starEach [e2] X.env)).any (·.1)) || _) = false; rw [plain_all (by simpa using p2), k3']; rfl) (fun h _ => ⟨_, .inr (.inl rfl), PySem.W.Looks.of_pure rfl⟩)
    (evalArgs_kw2 k1 (thn (ha.run pos pins s σ H _ J h) ?_) (star_plain p1))
  intro us s1 ⟨vs, H1, J1, r1, k1', k2', a, b, xs, ys, ex, hq, hq2, q⟩
  refine thn (pk.run pos pins s1 σ H1 (fun zs H2 => zs = [V.bl true] ∧ H2 = H1) J1 ⟨rfl, rfl⟩) fun ws s2 ⟨zs, H2, J2, rz, ez, eh⟩ => ⟨trivial, ?_⟩
  subst ex ez eh
  rw [k2]
  cases rz with
  | cons rb rr =>
    cases rr
    cases (show _ = Value.bool true from rb)
    cases r1 with
    | cons r rr =>
      cases rr with
      | cons r2 rr =>
        cases rr
        cases r
        cases r2
        obtain ⟨its, rv, on, hal⟩ := sqk_at J2 hq
        obtain ⟨its2, rv2, on2, hbl⟩ := sqk_at J2 hq2
        exact zs_begins (beginsK k1' a its.toArray) (beginsK k2' b its2.toArray) on on2 fun h' hz hTI hTO h1 h2 hsz hk => iter_zs hz (zz_made (tg := e) (st := true) J2 hal hbl (by simpa [IsZz] using hz) hTI hTO h1 h2 hk q)
def RdK (k : Bool) (Z : Hp) (a : Addr) (xs : List V) : Prop := if k = true then Rd Z a (.lst xs) else Z a = some (.tup xs)
theorem sqk_of {k : Bool} {K : Frag} {Z H : Hp} {a : Addr} {xs : List V} (s : Same Z H) (h : RdK k Z a xs) : SqK k K H a xs := by
  cases k with
  | true => simpa [SqK] using (show SqL K H a xs from .inl (rd_same s (by simpa [RdK] using h)))
  | false => simpa [SqK] using (show SqT K H a xs from .inl (.inl (s _ _ (by simpa [RdK] using h))))
theorem new_tup {K : Frag} {Z H : Hp} {T : Addr} {vs : List V} {ds : List D} (hs : Same Z H) (n : H T = none) (h : DrAll Z vs ds) : ∃ Z2, Ext Z H [] Z2 (upd H T (.tup vs)) [] ∧ Same Z2 (upd H T (.tup vs)) ∧ Dr Z2 (.ref T) (.tuple ds) := by
  obtain ⟨Z2, P, e, s, r, _⟩ := pend_tup (K := K) (P := []) (P' := []) hs (ors_v h) (fun _ m => m) List.nodup_nil n
  have em : mkTup (ds.map O.v) = .v (.tuple ds) := by
    unfold mkTup
    rw [if_pos (by rw [List.all_eq_true]; intro o m; obtain ⟨d, _, e⟩ := List.mem_map.mp m; rw [← e]; rfl), O.ds_v]
  rw [em] at r
  cases r with
  | v d => exact ⟨Z2, e, s, d⟩
theorem enum_at : ∀ {ds : List D} {n i : Nat} {d : D}, (enumD n ds)[i]? = some d → ∃ x, ds[i]? = some x ∧ d = .tuple [.int (n + i : Nat), x]
  | [], _, _, _, h => by simp [enumD] at h
  | x :: r, n, 0, d, h => by
    simp [enumD] at h
    exact ⟨x, rfl, by rw [← h]; simp⟩
  | x :: r, n, i + 1, d, h => by
    obtain ⟨y, h1, h2⟩ := enum_at (ds := r) (n := n + 1) (i := i) (by simpa [enumD] using h)
    exact ⟨y, by simpa using h1, by rw [h2]; congr 3; omega⟩
theorem enum_len : ∀ (ds : List D) (n : Nat), (enumD n ds).length = ds.length
  | [], _ => rfl
  | x :: r, n => congrArg Nat.succ (enum_len r (n + 1))
theorem itd_en {k : Bool} {K : Frag} {Z : Hp} {a : Addr} {xs : List V} {ds : List D} (h : RdK k Z a xs) (d : DrAll Z xs ds) : ItD Z (JEn k K a) (enumD 0 ds) := by
  have hl := DrAll.length d
  refine ⟨fun i H d' s e => ?_, fun i H d' x H2 s e y Z1 s1 s2 => ?_, fun i H s e => ⟨xs, sqk_of s h, by rw [enum_len] at e; omega⟩⟩
  · obtain ⟨x, h1, _⟩ := enum_at e
    obtain ⟨v, hv, _⟩ := dr_at d h1
    exact ⟨xs, v, sqk_of s h, hv⟩
  · obtain ⟨x', h1, e1⟩ := enum_at e
    obtain ⟨v, hv, dv⟩ := dr_at d h1
    obtain ⟨T, u, ex, hT, eH, hu⟩ := y
    have := hu xs (sqk_of s h)
    rw [hv] at this
    cases this
    subst ex eH e1
    rw [Nat.zero_add]
    exact new_tup (K := K) s2 hT (.cons (.int _) (.cons (Dr.sub s1 dv) .nil))
theorem zip_at : ∀ {as bs : List D} {i : Nat} {d : D}, (zipD as bs)[i]? = some d → ∃ x y, as[i]? = some x ∧ bs[i]? = some y ∧ d = .tuple [x, y]
  | [], _, _, _, h => by simp [zipD] at h
  | _ :: _, [], _, _, h => by simp [zipD] at h
  | x :: as, y :: bs, 0, d, h => by
    simp [zipD] at h
    exact ⟨x, y, rfl, rfl, h.symm⟩
  | x :: as, y :: bs, i + 1, d, h => by
    obtain ⟨u, v, h1, h2, h3⟩ := zip_at (as := as) (bs := bs) (i := i) (by simpa [zipD] using h)
    exact ⟨u, v, by simpa using h1, by simpa using h2, h3⟩
theorem zip_len : ∀ (as bs : List D), (zipD as bs).length = min as.length bs.length
  | [], _ => by simp [zipD]
  | _ :: _, [] => by simp [zipD]
  | x :: as, y :: bs => by simp only [zipD, List.length_cons, zip_len as bs]; omega
theorem itd_zz {st k1 k2 : Bool} {K : Frag} {Z : Hp} {a b : Addr} {xs ys : List V} {ds es : List D} (h : RdK k1 Z a xs) (h' : RdK k2 Z b ys) (d : DrAll Z xs ds) (d' : DrAll Z ys es) (hst : st = true → ds.length = es.length) : ItD Z (JZ st k1 k2 K a b) (zipD ds es) := by
  have hl := DrAll.length d
  have hl' := DrAll.length d'
  refine ⟨fun i H dd s e => ?_, fun i H dd x H2 s e y Z1 s1 s2 => ?_, fun i H s e => ⟨xs, ys, sqk_of s h, sqk_of s h', ?_⟩⟩
  · obtain ⟨x, y, h1, h2, _⟩ := zip_at e
    obtain ⟨v, hv, _⟩ := dr_at d h1
    obtain ⟨u, hu, _⟩ := dr_at d' h2
    exact ⟨xs, ys, v, u, sqk_of s h, sqk_of s h', hv, hu, fun z => by rw [hl, hl', hst z]⟩
  · obtain ⟨x1, y1, h1, h2, e1⟩ := zip_at e
    obtain ⟨v, hv, dv⟩ := dr_at d h1
    obtain ⟨u, hu, du⟩ := dr_at d' h2
    obtain ⟨T, x', y', ex, hT, eH, q1, q2⟩ := y
    have k1' := q1 xs (sqk_of s h)
    rw [hv] at k1'
    cases k1'
    have k2' := q2 ys (sqk_of s h')
    rw [hu] at k2'
    cases k2'
    subst ex eH e1
    exact new_tup (K := K) s2 hT (.cons (Dr.sub s1 dv) (.cons (Dr.sub s1 du) .nil))
  · rw [zip_len] at e
    exact ⟨by omega, by omega, by omega, fun z => by rw [hl, hl', hst z]⟩
theorem seq_rd {K : Frag} {Z : Hp} {x : V} {o : O} {ds : List D} (d : Dr Z x o.d) (h : seqD o = some ds) : ∃ k a xs, x = .ref a ∧ RdK k Z a xs ∧ DrAll Z xs ds := by
  rcases seqD_some h with e | e
  · rw [e] at d
    cases d with
    | lst r al => exact ⟨true, _, _, rfl, by simpa [RdK] using r, al⟩
  · rw [e] at d
    cases d with
    | tup r al => exact ⟨false, _, _, rfl, by simpa [RdK] using r, al⟩
theorem rdk_same {k : Bool} {Z Z' : Hp} {a : Addr} {xs : List V} (s : Same Z Z') (h : RdK k Z a xs) : RdK k Z' a xs := by
  cases k with
  | true => simpa [RdK] using rd_same s (by simpa [RdK] using h)
  | false => simpa [RdK] using s _ _ (by simpa [RdK] using h)
theorem si_enum {e : Expr} {a : IE} {p pos tpos : Pos} {elts : List Expr} {kk : Nat} (hg : Gl X "enumerate") (hm : X.mg "enumerate" = none) (h : PE X e (tR X W (den L a))) (pl : plainArg e = true) : PI X (.Tuple elts kk tpos) (.Call (.Name "enumerate" p) [e] [] pos) (tI X W (denI L (.enum a))) := by
  refine (pi_en hg hm (pa_consP pl h pa_nil) pl).up fun σ H R q => ?_
  obtain ⟨Z, e, F, s, h⟩ := q
  refine ⟨Z, e, F, s, ?_⟩
  simp only [denI] at h
  cases q : den L a e with
  | err c d e1 => simp only [q, Res.bind, outG] at h; exact h
  | stuck => simp only [q, Res.bind, outG] at h
  | ok o e1 =>
    simp only [q, Res.bind] at h
    simp only [outG]
    intro x H1 ⟨Z1, F1, P1, st, r⟩
    cases q2 : seqD o with
    | none => simp only [q2, Option.map_none, lift, outG] at h
    | some ds =>
      simp only [q2, Option.map_some, lift, outG] at h
      obtain ⟨Z2, st2, dr⟩ := hand_frz st r
      obtain ⟨k, ad, xs, ex, rd, al⟩ := seq_rd (K := X.K) dr q2
      subst ex
      exact ⟨k, ad, xs, rfl, sqk_of st2.same rd, h _ _ ⟨Z2, F1, st2, itd_en rd al⟩⟩
theorem zip_go {st : Bool} {a b : IE} {R : It → Hp → Prop} (h : tI X W (denI L (.zip st a b)) σ H R) : iZz st X.K (tCons (tR X W (den L a)) (tCons (tR X W (den L b)) tNil)) σ H R := by
  obtain ⟨Z, e, F, s, h⟩ := h
  refine ⟨Z, e, F, s, ?_⟩
  simp only [denI] at h
  cases q : den L a e with
  | err c d e1 => simp only [q, Res.bind, outG] at h; exact h
  | stuck => simp only [q, Res.bind, outG] at h
  | ok o e1 =>
    simp only [q, Res.bind] at h
    simp only [outG]
    intro x H1 ⟨Z1, F1, P1, s1, r1⟩
    refine ⟨Z1, e1, F1, s1.sts, ?_⟩
    cases q2 : den L b e1 with
    | err c d e2 => simp only [q2, outG] at h; exact h.of s1
    | stuck => simp only [q2, outG] at h
    | ok o2 e2 =>
      simp only [q2] at h
      simp only [outG]
      intro y H2 ⟨Z2, F2, P2, s2, r2⟩
      have s12 := s1.seq s2 (st_of (OR.mem r1))
      have r12 := s2.ext.or r1 s1.apart
      have nd := List.nodup_append.mp s12.nd
      obtain ⟨Z3, hZ3⟩ : ∃ Z3, Z3 = frz Z2 H2 (P1 ++ P2) := ⟨_, rfl⟩
      have s3 : Step X.K σ Z H F Z3 H2 e2 F2 [] := hZ3 ▸ s12.op (ext_frz s12.same) (frz_sub s12.same) List.nodup_nil
      have d1 : Dr Z3 x o.d := hZ3 ▸ OR.freeze s12.same r12 fun a m => List.mem_append_left _ m
      have d2 : Dr Z3 y o2.d := hZ3 ▸ OR.freeze s12.same r2 fun a m => List.mem_append_right _ m
      cases q3 : seqD o with
      | none => simp only [q3, outG] at h
      | some ds =>
        cases q4 : seqD o2 with
        | none => simp only [q3, q4, outG] at h
        | some es =>
          simp only [q3, q4] at h
          by_cases c : (st && ds.length != es.length) = true
          · rw [if_pos c] at h; exact h.elim
          · rw [if_neg c] at h
            have hst : st = true → ds.length = es.length := fun z => by
              rw [z, Bool.true_and] at c
              simpa using c
            obtain ⟨k1, a1, xs, ex, rd, al⟩ := seq_rd (K := X.K) d1 q3
            obtain ⟨k2, a2, ys, ey, rd2, al2⟩ := seq_rd (K := X.K) d2 q4
            subst ex ey
            exact ⟨k1, k2, a1, a2, xs, ys, rfl, sqk_of s3.same rd, sqk_of s3.same rd2, h _ _ ⟨Z3, F2, s3, itd_zz rd rd2 al al2 hst⟩⟩
theorem si_zip0 {e e2 : Expr} {a b : IE} {p pos tpos : Pos} {elts : List Expr} {kk : Nat} (hg : Gl X "zip") (hm : X.mg "zip" = none) (h : PE X e (tR X W (den L a))) (h2 : PE X e2 (tR X W (den L b))) (pl : plainArg e = true) (pl2 : plainArg e2 = true) : PI X (.Tuple elts kk tpos) (.Call (.Name "zip" p) [e, e2] [] pos) (tI X W (denI L (.zip false a b))) :=
  (pi_zz0 hg hm (pa_consP pl h (pa_consP pl2 h2 pa_nil)) pl pl2).up fun σ H R q => zip_go q
theorem si_zip1 {e e2 : Expr} {a b : IE} {p p3 p4 pos tpos : Pos} {elts : List Expr} {kk k3 : Nat} (hg : Gl X "zip") (hm : X.mg "zip" = none) (h : PE X e (tR X W (den L a))) (h2 : PE X e2 (tR X W (den L b))) (pl : plainArg e = true) (pl2 : plainArg e2 = true) :
    PI X (.Tuple elts kk tpos) (.Call (.Name "zip" p) [e, e2] [⟨some (Str.ofString "strict"), .Constant (.bool true) k3 p3, p4⟩] pos) (tI X W (denI L (.zip true a b))) :=
  (pi_zz1 hg hm (pa_consP pl h (pa_consP pl2 h2 pa_nil)) pl pl2).up fun σ H R q => zip_go q
theorem denEs_len : ∀ {es : List IE} {e e' : Ve} {os : List O}, denEs L es e = .ok os e' → os.length = es.length
  | [], e, e', os, h => by
    simp only [denEs] at h
    cases h
    rfl
  | a :: r, e, e', os, h => by
    simp only [denEs] at h
    cases q : den L a e with
    | err c d e1 => simp only [q, Res.bind] at h; cases h
    | stuck => simp only [q, Res.bind] at h; cases h
    | ok v e1 =>
      simp only [q, Res.bind] at h
      cases q2 : denEs L r e1 with
      | err c d e2 => simp only [q2] at h; cases h
      | stuck => simp only [q2] at h; cases h
      | ok vs e2 =>
        simp only [q2] at h
        cases h
        exact congrArg Nat.succ (denEs_len q2)
theorem tO_len {es : List IE} {R : List V → Hp → Prop} (h : tO X W (denEs L es) σ H R) : tO X W (denEs L es) σ H fun vs H1 => vs.length = es.length ∧ R vs H1 := by
  obtain ⟨Z, e, F, s, h⟩ := h
  refine ⟨Z, e, F, s, ?_⟩
  cases q : denEs L es e with
  | err c d e1 => simp only [q, outG] at h ⊢; exact h
  | stuck => simp only [q, outG] at h
  | ok os e1 =>
    simp only [q, outG] at h ⊢
    intro vs H1 ⟨Z1, F1, P, st, r⟩
    exact ⟨by rw [r.length, denEs_len q], h vs H1 ⟨Z1, F1, P, st, r⟩⟩
inductive EE (X : Cx) (W : WX) (L : List FnE) : List Expr → List IE → Prop
  | nil : EE X W L [] []
  | cons {e : Expr} {a : IE} {es : List Expr} {as : List IE} : PE X e (tR X W (den L a)) ∧ plainArg e = true → EE X W L es as → EE X W L (e :: es) (a :: as)
theorem pa_O {es : List Expr} {ies : List IE} (h : EE X W L es ies) : PA X es (tO X W (denEs L ies)) := by
  induction h with
  | nil => exact pa_nil.up fun σ H Q q => tO_nil q
  | cons a _ ih => exact (pa_consP a.2 a.1 ih).up fun σ H Q q => tO_cons q
theorem si_range1 {tg e : Expr} {a : IE} {p pos : Pos} (hg : Gl X "range") (hm : X.mg "range" = none) (h : PE X e (tR X W (den L a))) (pl : plainArg e = true) : PI X tg (.Call (.Name "range" p) [e] [] pos) (tI X W (denI L (.range [a]))) :=
  (pi_range1 hg hm (pa_O (.cons ⟨h, pl⟩ .nil)) (star_plain pl)).up fun σ H R q => tG_mono (tO_len (tO_range q)) fun vs H1 w => rangeR1 (as := [a]) rfl w.1 w.2
theorem si_range2 {tg e e2 : Expr} {a b : IE} {p pos : Pos} (hg : Gl X "range") (hm : X.mg "range" = none) (h : PE X e (tR X W (den L a))) (h2 : PE X e2 (tR X W (den L b))) (pl : plainArg e = true) (pl2 : plainArg e2 = true) : PI X tg (.Call (.Name "range" p) [e, e2] [] pos) (tI X W (denI L (.range [a, b]))) :=
  (pi_range2 hg hm (pa_O (.cons ⟨h, pl⟩ (.cons ⟨h2, pl2⟩ .nil))) (by rw [star_plain pl, star_plain pl2]; rfl) (star_plain pl2)).up fun σ H R q => tG_mono (tO_len (tO_range q)) fun vs H1 w => rangeR2 w.1 w.2
theorem si_range3 {tg e e2 e3 : Expr} {a b c : IE} {p pos : Pos} (hg : Gl X "range") (hm : X.mg "range" = none) (h : PE X e (tR X W (den L a))) (h2 : PE X e2 (tR X W (den L b))) (h3 : PE X e3 (tR X W (den L c))) (pl : plainArg e = true) (pl2 : plainArg e2 = true) (pl3 : plainArg e3 = true) :
    PI X tg (.Call (.Name "range" p) [e, e2, e3] [] pos) (tI X W (denI L (.range [a, b, c]))) :=
  (pi_range3 hg hm (pa_O (.cons ⟨h, pl⟩ (.cons ⟨h2, pl2⟩ (.cons ⟨h3, pl3⟩ .nil)))) (star_plain pl) (plain_all (by simp [pl2, pl3]))).up fun σ H R q => tG_mono (tO_len (tO_range q)) fun vs H1 w => rangeR3 w.1 w.2
end
end Ev
set_option Elab.async false
set_option linter.all false
set_option maxRecDepth 100000
/-! Ev26: a text's expressions are those of the small language: the check. -/
namespace Ev
open PySem PySem.Spec PyProof.Rows L2

def visC (C : Cc) (x : Str) : Bool := match C.sc.names.lookup x with
  | some .local => true
  | some .cell => true
  | some .free => true
  | _ => false
def atB (C : Cc) (i : Nat) (x : Str) : Bool := match C.N[i]? with
  | some y => y == x
  | none => false
def nmB (C : Cc) (i : Nat) (x : Str) : Bool := atB C i x && (visC C x && (!(x == ("__debug__" : Str)) && !(x == ("__classdict__" : Str))))
def stB (C : Cc) (i : Nat) (x : Str) : Bool := atB C i x && (match C.sc.names.lookup x with
  | some .local => true
  | some .cell => C.fp x
  | _ => false)
def litB : Const → D → Bool
  | .none, .none => true
  | .bool a, .bool b => a == b
  | .int a, .int b => decide (a = b)
  | .str a, .str b => a == b
  | _, _ => false
def stsB (C : Cc) : List Nat → List Expr → Bool
  | [], [] => true
  | i :: is, .Name x _ :: es => stB C i x && stsB C is es
  | _, _ => false
def tgB (C : Cc) : Tgt → Expr → Bool
  | .one i, .Name x _ => stB C i x
  | .many is, .Tuple es _ _ => stsB C is es
  | _, _ => false
def isTupE : Expr → Bool
  | .Tuple .. => true
  | _ => false
def fnB (C : Cc) (f : Nat) (x : Str) (n : Nat) : Bool := (match C.sg[f]? with
  | some (y, ps, _) => y == x && decide (ps.length = n)
  | none => false) && ((match C.sc.names.lookup x with
  | some .globalImplicit => true
  | _ => false) && !(x == ("__debug__" : Str)))
def fnK (C : Cc) (f : Nat) (x : Str) (ks : List Nat) (ns : List (Option Str)) : Bool := match C.sg[f]? with
  | some (_, ps, kws) => kws.contains ks && (ns == (ks.map fun i => ps.getD i ⟨#[]⟩).map some)
  | none => false
def kwVals : List Keyword → List Expr
  | [] => []
  | ⟨_, v, _⟩ :: r => v :: kwVals r
def blk (C : Cc) (scope : Scope) : Cc := { C with sc := relS scope C.sc, fp := fun x => scope.names.lookup x == some .cell }
def ownOf (C : Cc) (t : Tgt) : List (Str × Nat) := t.slots.map fun i => (C.N.getD i ⟨#[]⟩, i)

mutual
def chE (C : Cc) : IE → Expr → Bool
  | .lit d, .Constant c _ _ => litB c d
  | .var i, .Name x _ => nmB C i x
  | .mv i, .Name x _ => nmB C i x
  | .prim p as, e => (match prE C p e with
    | some es => chPs C as es
    | none => false)
  | .lst is, .List es _ => chEs C is es
  | .tup is, .Tuple es _ _ => chEs C is es
  | .idx a k, .Subscript x b _ => plainIx b && (chP C a x && chE C k b)
  | .and a b, .BoolOp .And (x :: y :: r) p => chE C a x && (match r with
    | [] => chE C b y
    | _ :: _ => chE C b (.BoolOp .And (y :: r) p))
  | .or a b, .BoolOp .Or (x :: y :: r) p => chE C a x && (match r with
    | [] => chE C b y
    | _ :: _ => chE C b (.BoolOp .Or (y :: r) p))
  | .ite c a b, .IfExp t x y _ => chT C c t && (chE C a x && chE C b y)
  | .call f as, .Call (.Name x _) es [] _ => fnB C f x es.length && (es.all plainArg && chPs C as es)
  | .callK f ks as, .Call (.Name x _) [] kws _ => fnB C f x kws.length && (fnK C f x ks (kwNames kws) && chPs C as (kwVals kws))
  | .comp elt tg it cond, .ListComp e [⟨t, iter, ifs, 0⟩] scope _ => (chI C it t iter && (blkC C.N C.sc scope (ownOf C tg) && tgB (blk C scope) tg t)) && (chE (blk C scope) elt e && chC (blk C scope) cond ifs)
  | .pop i k, .Call (.Attribute (.Name x _) m apos) [b] [] cpos => (m == ("pop" : Str) && (nmB C i x && (apos.endLine == cpos.line))) && (plainArg b && chE C k b)
  | .cut a l h, .Subscript x (.Slice l' h' none _) _ => chP C a x && (chO C l l' && chO C h h')
  | .indx a k, .Call (.Attribute o m apos) [b] [] cpos => (m == ("index" : Str) && (notSuper o && (apos.endLine == cpos.line))) && (plainArg b && (chP C a o && chE C k b))
  | _, _ => false
termination_by structural x => x
def chT (C : Cc) : IE → Expr → Bool
  | .and a b, .BoolOp .And (x :: y :: r) p => chT C a x && (match r with
    | [] => chT C b y
    | _ :: _ => chT C b (.BoolOp .And (y :: r) p))
  | .or a b, .BoolOp .Or (x :: y :: r) p => chT C a x && (match r with
    | [] => chT C b y
    | _ :: _ => chT C b (.BoolOp .Or (y :: r) p))
  | .prim p as, .Compare a [o] [b] q => (match prIs p (.Compare a [o] [b] q) with
    | some es => chPs C as es
    | none => (match prCmp p (.Compare a [o] [b] q) with
      | some es => chPs C as es
      | none => false))
  | .prim p as, .UnaryOp .Not a _ => decide (p = .not) && chN C as a
  | .prim p as, e => plainTest e && (match prE C p e with
    | some es => chPs C as es
    | none => false)
  | .var i, .Name x _ => nmB C i x
  | .lit d, .Constant c _ _ => litB c d
  | .idx a k, .Subscript x b _ => plainIx b && (chP C a x && chE C k b)
  | .call f as, .Call (.Name x _) es [] _ => fnB C f x es.length && (es.all plainArg && chPs C as es)
  | .callK f ks as, .Call (.Name x _) [] kws _ => fnB C f x kws.length && (fnK C f x ks (kwNames kws) && chPs C as (kwVals kws))
  | _, _ => false
termination_by structural x => x
def chN (C : Cc) : List IP → Expr → Bool
  | [a], e => chNP C a e
  | _, _ => false
termination_by structural x => x
def chNP (C : Cc) : IP → Expr → Bool
  | .e i, a => chT C i a
  | .s i, .Name x _ => nmB C i x
  | _, _ => false
termination_by structural x => x
def chP (C : Cc) : IP → Expr → Bool
  | .e a, e => chE C a e
  | .s i, .Name x _ => nmB C i x
  | _, _ => false
termination_by structural x => x
def chPs (C : Cc) : List IP → List Expr → Bool
  | [], [] => true
  | a :: as, e :: es => chP C a e && chPs C as es
  | _, _ => false
termination_by structural x => x
def chEs (C : Cc) : List IE → List Expr → Bool
  | [], [] => true
  | a :: as, e :: es => (chE C a e && plainArg e) && chEs C as es
  | _, _ => false
termination_by structural x => x
def chO (C : Cc) : Option IE → Option Expr → Bool
  | none, none => true
  | some a, some e => chE C a e
  | _, _ => false
termination_by structural x => x
def chC (C : Cc) : Option IE → List Expr → Bool
  | none, [] => true
  | some a, [e] => chT C a e
  | _, _ => false
termination_by structural x => x
def chI (C : Cc) : Iter → Expr → Expr → Bool
  | .seq a, _, e => marks e && chE C a e
  | .range as, _, .Call (.Name x _) es [] _ => (x == ("range" : Str) && (glb C x && (decide (es.length = 1) || (decide (es.length = 2) || decide (es.length = 3))))) && chEs C as es
  | .enum a, t, .Call (.Name x _) [e] [] _ => (x == ("enumerate" : Str) && (glb C x && (isTupE t && plainArg e))) && chE C a e
  | .zip false a b, t, .Call (.Name x _) [e, e2] [] _ => (x == ("zip" : Str) && (glb C x && (isTupE t && (plainArg e && plainArg e2)))) && (chE C a e && chE C b e2)
  | .zip true a b, t, .Call (.Name x _) [e, e2] [⟨some y, .Constant (.bool true) _ _, _⟩] _ => (x == ("zip" : Str) && ((y == Str.ofString "strict") && (glb C x && (isTupE t && (plainArg e && plainArg e2))))) && (chE C a e && chE C b e2)
  | _, _, _ => false
termination_by structural x => x
end
end Ev
set_option Elab.async false
set_option linter.all false
set_option maxRecDepth 100000
/-! Ev27: the check of expressions is sound. -/
namespace Ev
open PySem PySem.Spec PyProof.Rows L2

section
variable {X : Cx} {W : WX} {L : List FnE} {C : Cc}
theorem at_ok (g : Good X C L) {i : Nat} {x : Str} (h : atB C i x = true) : X.N[i]? = some x := by
  unfold atB at h
  rw [g.N]
  cases q : C.N[i]? with
  | none => rw [q] at h; cases h
  | some y =>
    rw [q] at h
    rw [beq_iff_eq.mp h]
theorem vis_ok (g : Good X C L) {x : Str} (h : visC C x = true) : Vis X.env.scope x := by
  unfold visC at h
  unfold Vis
  rw [g.sc]
  split at h
  · rename_i q; exact .inl q
  · rename_i q; exact .inr (.inl q)
  · rename_i q; exact .inr (.inr q)
  · cases h
theorem nm_ok (g : Good X C L) {i : Nat} {x : Str} (h : nmB C i x = true) : X.N[i]? = some x ∧ Vis X.env.scope x ∧ (x == ("__debug__" : Str)) = false ∧ (x == ("__classdict__" : Str)) = false := by
  unfold nmB at h
  simp only [Bool.and_eq_true, Bool.not_eq_true'] at h
  exact ⟨at_ok g h.1, vis_ok g h.2.1, h.2.2.1, h.2.2.2⟩
theorem st_ok (g : Good X C L) {i : Nat} {x : Str} (h : stB C i x = true) : X.N[i]? = some x ∧ L2.Loc X.env.scope x ∧ (X.fn x = true ∨ X.env.scope.names.lookup x = some .local) := by
  unfold stB at h
  rw [Bool.and_eq_true] at h
  refine ⟨at_ok g h.1, ?_⟩
  unfold L2.Loc
  rw [g.sc, g.fp]
  have h2 := h.2
  split at h2
  · rename_i q; exact ⟨.inl q, .inr q⟩
  · rename_i q; exact ⟨.inr q, .inl h2⟩
  · cases h2
theorem ae_cons {e : Expr} {es : List Expr} {env : Env} (h : plainArg e = true) : assignEach (e :: es) env = (false, assign e env) :: assignEach es env := by
  cases e <;> first | rfl | cases h
theorem ae_len {env : Env} : ∀ {es : List Expr}, es.all plainArg = true → (assignEach es env).length = es.length ∧ (assignEach es env).findIdx? (·.1) = none
  | [], _ => ⟨rfl, rfl⟩
  | e :: es, h => by
    rw [List.all_cons, Bool.and_eq_true] at h
    obtain ⟨a, b⟩ := ae_len (env := env) h.2
    rw [ae_cons h.1]
    exact ⟨congrArg Nat.succ a, by rw [List.findIdx?_cons, b]; rfl⟩
theorem sts_ok (g : Good X C L) : ∀ {is : List Nat} {es : List Expr}, stsB C is es = true → PGs X es (gTs is) ∧ es.all plainArg = true ∧ es.length = is.length
  | [], [], _ => ⟨pgs_nil, rfl, rfl⟩
  | i :: is, .Name x p :: es, h => by
    unfold stsB at h
    rw [Bool.and_eq_true] at h
    obtain ⟨a, b, c⟩ := st_ok g h.1
    obtain ⟨d, e, f⟩ := sts_ok g h.2
    exact ⟨pgs_cons (pg_name g.nd a b c) d, by rw [List.all_cons, e]; rfl, congrArg Nat.succ f⟩
  | [], _ :: _, h => by simp [stsB] at h
  | i :: is, [], h => by simp [stsB] at h
  | i :: is, .BoolOp .. :: _, h => by simp [stsB] at h
  | i :: is, .NamedExpr .. :: _, h => by simp [stsB] at h
  | i :: is, .BinOp .. :: _, h => by simp [stsB] at h
  | i :: is, .UnaryOp .. :: _, h => by simp [stsB] at h
  | i :: is, .Lambda .. :: _, h => by simp [stsB] at h
  | i :: is, .IfExp .. :: _, h => by simp [stsB] at h
  | i :: is, .Dict .. :: _, h => by simp [stsB] at h
  | i :: is, .Set .. :: _, h => by simp [stsB] at h
  | i :: is, .ListComp .. :: _, h => by simp [stsB] at h
  | i :: is, .SetComp .. :: _, h => by simp [stsB] at h
  | i :: is, .DictComp .. :: _, h => by simp [stsB] at h
  | i :: is, .GeneratorExp .. :: _, h => by simp [stsB] at h
  | i :: is, .Await .. :: _, h => by simp [stsB] at h
  | i :: is, .Yield .. :: _, h => by simp [stsB] at h
  | i :: is, .YieldFrom .. :: _, h => by simp [stsB] at h
  | i :: is, .Compare .. :: _, h => by simp [stsB] at h
  | i :: is, .Call .. :: _, h => by simp [stsB] at h
  | i :: is, .FormattedValue .. :: _, h => by simp [stsB] at h
  | i :: is, .JoinedStr .. :: _, h => by simp [stsB] at h
  | i :: is, .Constant .. :: _, h => by simp [stsB] at h
  | i :: is, .Attribute .. :: _, h => by simp [stsB] at h
  | i :: is, .Subscript .. :: _, h => by simp [stsB] at h
  | i :: is, .Starred .. :: _, h => by simp [stsB] at h
  | i :: is, .List .. :: _, h => by simp [stsB] at h
  | i :: is, .Tuple .. :: _, h => by simp [stsB] at h
  | i :: is, .Slice .. :: _, h => by simp [stsB] at h
theorem tg_ok (g : Good X C L) {t : Tgt} {e : Expr} (h : tgB C t e = true) : PG X e (gT X.K t) := by
  unfold tgB at h
  split at h
  · obtain ⟨a, b, c⟩ := st_ok g h
    exact pg_name g.nd a b c
  · obtain ⟨a, b, c⟩ := sts_ok g h
    obtain ⟨d, e⟩ := ae_len (env := X.env) b
    exact pg_tup g.calm a (by rw [d, c]) e
  · cases h
theorem lit_ok {c : Const} {d : D} (h : litB c d = true) : constD c = some d := by
  unfold litB at h
  split at h
  · rfl
  · rw [beq_iff_eq] at h; subst h; rfl
  · have := of_decide_eq_true h; subst this; rfl
  · rw [beq_iff_eq] at h; subst h; rfl
  · cases h
theorem fn_at (g : Good X C L) {f n : Nat} {x : Str} {fe : FnE} (h : fnB C f x n = true) (q : L[f]? = some fe) : ∃ (k : Nat) (fa : Addr) (fd : FuncData) (kws : List (List Nat)), C.sg[f]? = some (fe.name, fe.ps, kws) ∧ fe.ps.length = n ∧ Gl X x ∧ (x == ("__debug__" : Str)) = false ∧ X.mg x = some (.ref fa) ∧ PySem.W.keepIn X.K (.ref fa) = true ∧ Room k X.A ∧ FnG X.prog X.w X.K X.mg X.base k fa fd fe.ps (spOf X.K fe) ∧ Binds X.K fd fe.ps [] ∧ ∀ ks ∈ kws, KwB fd fe.ps ks := by
  unfold fnB at h
  rw [Bool.and_eq_true, Bool.and_eq_true] at h
  obtain ⟨h1, h2, h3⟩ := h
  have hg : Gl X x := by
    unfold Gl Env.kindOf
    rw [g.sc]
    split at h2
    · assumption
    · cases h2
  obtain ⟨k, fa, fd, kws, a1, a2, a3, a4, a5, a6, a7⟩ := g.fns f fe q
  rw [a1] at h1
  simp only [Bool.and_eq_true, decide_eq_true_eq, beq_iff_eq] at h1
  exact ⟨k, fa, fd, kws, a1, h1.2, hg, by simpa using h3, by rw [← h1.1]; exact a2, a3, a4, a5, a6, a7⟩
theorem pe_none {e : Expr} {t : TE} (h : ∀ σ H Q, ¬ t σ H Q) : PE X e t := ⟨fun _ _ σ H Q _ q => absurd q (h σ H Q)⟩
theorem call_none {f : Nat} {as : List IP} (q : L[f]? = none) (σ : Sg) (H : Hp) (Q : VK) : ¬ tR X W (den L (.call f as)) σ H Q := fun ⟨Z, e, F, s, h⟩ => by
  simp only [den, q] at h
  exact h
theorem callK_none {f : Nat} {ks : List Nat} {as : List IP} (q : L[f]? = none) (σ : Sg) (H : Hp) (Q : VK) : ¬ tR X W (den L (.callK f ks as)) σ H Q := fun ⟨Z, e, F, s, h⟩ => by
  simp only [den, q] at h
  exact h
theorem se_call (g : Good X C L) {f : Nat} {x : Str} {es : List Expr} {as : List IP} {p pos : Pos} (h : fnB C f x es.length = true) (pl : es.all plainArg = true) (a : PP X W L es as) : PE X (.Call (.Name x p) es [] pos) (tR X W (den L (.call f as))) := by
  cases q : L[f]? with
  | none => exact pe_none (call_none q)
  | some fe =>
    obtain ⟨k, fa, fd, kws, _, hl, hg, hd, hm, hk, hr, F, hb, _⟩ := fn_at g h q
    cases a with
    | nil => exact (pe_callG0 F hr g.gd hg hm hk hb hd).up fun σ H Q w => tV_nil (call_sp q w)
    | cons a r => exact (pe_callG F hr g.gd hg hm hk hb hd pl (PP.pa (.cons a r) pl)).up fun σ H Q w => call_sp q w
theorem pk_of : ∀ {kws : List Keyword} {as : List IP}, PP X W L (kwVals kws) as → PK X kws (tV X W (denPs L as))
  | [], _, .nil => ⟨fun pos pins s σ H Q J h => (pk_nil (X := X)).run pos pins s σ H Q J (tV_nil h)⟩
  | ⟨_, _, _⟩ :: _, _, .cons a r => ⟨fun pos pins s σ H Q J h => (pk_cons a (pk_of r)).run pos pins s σ H Q J (tV_cons h)⟩
theorem se_callK (g : Good X C L) {f : Nat} {ks : List Nat} {x : Str} {kws : List Keyword} {as : List IP} {p pos : Pos} (h : fnB C f x kws.length = true) (hk2 : fnK C f x ks (kwNames kws) = true) (a : PP X W L (kwVals kws) as) : PE X (.Call (.Name x p) [] kws pos) (tR X W (den L (.callK f ks as))) := by
  cases q : L[f]? with
  | none => exact pe_none (callK_none q)
  | some fe =>
    obtain ⟨k, fa, fd, kw, e1, hl, hg, hd, hm, hk, hr, F, hb, hkw⟩ := fn_at g h q
    unfold fnK at hk2
    rw [e1] at hk2
    simp only [Bool.and_eq_true, beq_iff_eq] at hk2
    exact (pe_callKG F hr g.gd hg hm hk (hkw ks (List.contains_iff_mem.mp hk2.1)) hd hk2.2 (pk_of a)).up fun σ H Q w => callK_sp q w
/-- in a block of its own -/
theorem Good.blk' (g : Good X C L) {scope : Scope} {s : Shared} {H : Hp} {Cl : Addr} {cl : List (Str × Addr)} {fp : List Addr} : Good (X.blk s H scope (compEnvC scope cl Cl X.env) fp) (blk C scope) L where
  N := g.N
  sc := by
    show relabel scope X.env = relS scope C.sc
    rw [← g.sc]
    rfl
  fp := rfl
  nd := g.nd
  calm := g.calm
  gd := g.gd
  un := g.un
  free := g.free
  fns := g.fns
theorem own_eq {t : Tgt} : (ownOf C t).map (·.2) = t.slots := by
  unfold ownOf
  rw [List.map_map]
  show t.slots.map (fun i => i) = _
  simp
theorem mark_fold {iter : Expr} (h : marks iter = true) (x : Value) : foldedSetIterable iter X.env x = pure x := by
  cases iter <;> first | rfl | cases h

theorem and_tt {a b : Bool} (h : (a && b) = true) : a = true ∧ b = true := by
  rw [Bool.and_eq_true] at h
  exact h
abbrev nope {p : Prop} {b : Bool} (h : b = true) (e : b = false := by rfl) : p := absurd h (by rw [e]; decide)
theorem blk_ok {C : Cc} (g : Good X C L) {scope : Scope} {t : Tgt} (h : blkC C.N C.sc scope (ownOf C t) = true) : BlkOk X.N X.env.scope scope (ownOf C t) := by
  rw [g.N, g.sc]
  exact blkOk_by h

theorem _root_.L2.PW.up {X : Cx} {e : Expr} {t t' : TT} (h : PW X e t) (k : ∀ σ H Q, t' σ H Q → t σ H Q) : PW X e t' := ⟨fun w pins s σ H Q I q => h.run w pins s σ H Q I (k σ H Q q)⟩

mutual
theorem chE_ok : ∀ (i : IE) (e : Expr) {X : Cx} {C : Cc}, Good X C L → chE C i e = true → PE X e (tR X W (den L i))
  | .lit d, e, X, C, g, h => by
    cases e with
    | Constant c j p => exact se_lit (lit_ok h)
    | _ => exact nope h
  | .var i, e, X, C, g, h => by
    cases e with
    | Name x p =>
      obtain ⟨a, b, c, d⟩ := nm_ok g h
      exact se_var a b c d
    | _ => exact nope h
  | .mv i, e, X, C, g, h => by
    cases e with
    | Name x p =>
      obtain ⟨a, b, c, d⟩ := nm_ok g h
      exact se_mv a b c d
    | _ => exact nope h
  | .prim p as, e, X, C, g, h => by
    have h : (match prE C p e with
      | some es => chPs C as es
      | none => false) = true := h
    cases q : prE C p e with
    | none => rw [q] at h; cases h
    | some es =>
      rw [q] at h
      exact ok_prim g q (chPs_ok as es g h)
  | .lst is, e, X, C, g, h => by
    cases e with
    | List es p => exact se_lst (pa_O (chEs_ok is es g h))
    | _ => exact nope h
  | .tup is, e, X, C, g, h => by
    cases e with
    | Tuple es k p => exact se_tup (pa_O (chEs_ok is es g h))
    | _ => exact nope h
  | .idx a k, e, X, C, g, h => by
    cases e with
    | Subscript x b p =>
      obtain ⟨h1, h2⟩ := and_tt (show (plainIx b && (chP C a x && chE C k b)) = true from h)
      obtain ⟨h2, h3⟩ := and_tt h2
      exact se_idx (chP_ok a x g h2) (chE_ok k b g h3) (ix_ok h1)
    | _ => exact nope h
  | .and a b, e, X, C, g, h => by
    cases e with
    | BoolOp op l p =>
      cases op with
      | Or => exact nope h
      | And =>
        match l, h with
        | [], h => exact nope h
        | [x], h => exact nope h
        | [x, y], h =>
          obtain ⟨h1, h2⟩ := and_tt (show (chE C a x && chE C b y) = true from h)
          exact (pe_and (chE_ok a x g h1) (pe_one (chE_ok b y g h2))).up fun σ H Q q => tR_and q
        | x :: y :: z :: r, h =>
          obtain ⟨h1, h2⟩ := and_tt (show (chE C a x && chE C b (.BoolOp .And (y :: z :: r) p)) = true from h)
          exact (pe_and (chE_ok a x g h1) (chE_ok b _ g h2)).up fun σ H Q q => tR_and q
    | _ => exact nope h
  | .or a b, e, X, C, g, h => by
    cases e with
    | BoolOp op l p =>
      cases op with
      | And => exact nope h
      | Or =>
        match l, h with
        | [], h => exact nope h
        | [x], h => exact nope h
        | [x, y], h =>
          obtain ⟨h1, h2⟩ := and_tt (show (chE C a x && chE C b y) = true from h)
          exact (pe_or (chE_ok a x g h1) (pe_one (chE_ok b y g h2))).up fun σ H Q q => tR_or q
        | x :: y :: z :: r, h =>
          obtain ⟨h1, h2⟩ := and_tt (show (chE C a x && chE C b (.BoolOp .Or (y :: z :: r) p)) = true from h)
          exact (pe_or (chE_ok a x g h1) (chE_ok b _ g h2)).up fun σ H Q q => tR_or q
    | _ => exact nope h
  | .ite c a b, e, X, C, g, h => by
    cases e with
    | IfExp t x y p =>
      obtain ⟨h1, h2⟩ := and_tt (show (chT C c t && (chE C a x && chE C b y)) = true from h)
      obtain ⟨h2, h3⟩ := and_tt h2
      exact (pe_ifExp (chT_ok c t g h1).1 (chE_ok a x g h2) (chE_ok b y g h3)).up fun σ H Q q => tR_ite q
    | _ => exact nope h
  | .call f as, e, X, C, g, h => by
    cases e with
    | Call fe es kws p =>
      cases fe with
      | Name x px =>
        cases kws with
        | nil =>
          obtain ⟨h1, h2⟩ := and_tt (show (fnB C f x es.length && (es.all plainArg && chPs C as es)) = true from h)
          obtain ⟨h2, h3⟩ := and_tt h2
          exact se_call g h1 h2 (chPs_ok as es g h3)
        | cons => exact nope h
      | _ => exact nope h
    | _ => exact nope h
  | .callK f ks as, e, X, C, g, h => by
    cases e with
    | Call fe es kws p =>
      cases fe with
      | Name x px =>
        cases es with
        | nil =>
          obtain ⟨h1, h2⟩ := and_tt (show (fnB C f x kws.length && (fnK C f x ks (kwNames kws) && chPs C as (kwVals kws))) = true from h)
          obtain ⟨h2, h3⟩ := and_tt h2
          exact se_callK g h1 h2 (chPs_ok as _ g h3)
        | cons => exact nope h
      | _ => exact nope h
    | _ => exact nope h
  | .comp elt tg it cond, e, X, C, g, h => by
    cases e with
    | ListComp e gs scope p =>
      match gs, h with
      | [], h => exact nope h
      | ⟨t, iter, ifs, 0⟩ :: [], h =>
        obtain ⟨h1, h2⟩ := and_tt (show ((chI C it t iter && (blkC C.N C.sc scope (ownOf C tg) && tgB (blk C scope) tg t)) && (chE (blk C scope) elt e && chC (blk C scope) cond ifs)) = true from h)
        obtain ⟨h1, h3⟩ := and_tt h1
        obtain ⟨h3, h4⟩ := and_tt h3
        obtain ⟨h2, h5⟩ := and_tt h2
        obtain ⟨mk, pi⟩ := chI_ok it t iter g h1
        exact se_comp g.calm g.nd pi (blk_ok g h3) own_eq (fun s H Cl cl fp => tg_ok (g.blk' (s := s) (H := H) (Cl := Cl) (cl := cl) (fp := fp)) h4) (fun s H Cl cl fp => chC_ok cond ifs (g.blk' (s := s) (H := H) (Cl := Cl) (cl := cl) (fp := fp)) h5)
          (fun s H Cl cl fp => chE_ok elt e (g.blk' (s := s) (H := H) (Cl := Cl) (cl := cl) (fp := fp)) h2) (mark_fold mk)
      | ⟨t, iter, ifs, .ofNat (n + 1)⟩ :: [], h => exact nope h
      | ⟨t, iter, ifs, .negSucc n⟩ :: [], h => exact nope h
      | ⟨t, iter, ifs, .ofNat 0⟩ :: _ :: _, h => exact nope h
      | ⟨t, iter, ifs, .ofNat (n + 1)⟩ :: _ :: _, h => exact nope h
      | ⟨t, iter, ifs, .negSucc n⟩ :: _ :: _, h => exact nope h
    | _ => exact nope h
  | .pop i k, e, X, C, g, h => by
    cases e with
    | Call fe es kws p =>
      cases fe with
      | Attribute o m apos =>
        cases o with
        | Name x px =>
          match es, kws, h with
          | [b], [], h =>
            obtain ⟨h1, h2⟩ := and_tt (show ((m == ("pop" : Str) && (nmB C i x && (apos.endLine == p.line))) && (plainArg b && chE C k b)) = true from h)
            obtain ⟨h1, h3⟩ := and_tt h1
            obtain ⟨h3, h4⟩ := and_tt h3
            obtain ⟨h2, h5⟩ := and_tt h2
            rw [beq_iff_eq] at h1
            subst h1
            obtain ⟨a, b', c, d⟩ := nm_ok g h3
            exact se_pop a b' c d (chE_ok k b g h5) h4 h2
          | [], _, h => exact nope h
          | [b], _ :: _, h => exact nope h
          | _ :: _ :: _, _, h => exact nope h
        | _ => exact nope h
      | _ => exact nope h
    | _ => exact nope h
  | .cut a l h0, e, X, C, g, h => by
    cases e with
    | Subscript x b p =>
      cases b with
      | Slice l' h' st p2 =>
        cases st with
        | none =>
          obtain ⟨h1, h2⟩ := and_tt (show (chP C a x && (chO C l l' && chO C h0 h')) = true from h)
          obtain ⟨h2, h3⟩ := and_tt h2
          exact se_cut (chP_ok a x g h1) (chO_ok l l' g h2) (chO_ok h0 h' g h3)
        | some _ => exact nope h
      | _ => exact nope h
    | _ => exact nope h
  | .indx a k, e, X, C, g, h => by
    cases e with
    | Call fe es kws p =>
      cases fe with
      | Attribute o m apos =>
        match es, kws, h with
        | [b], [], h =>
          obtain ⟨h1, h2⟩ := and_tt (show ((m == ("index" : Str) && (notSuper o && (apos.endLine == p.line))) && (plainArg b && (chP C a o && chE C k b))) = true from h)
          obtain ⟨h1, h3⟩ := and_tt h1
          obtain ⟨h3, h4⟩ := and_tt h3
          obtain ⟨h2, h5⟩ := and_tt h2
          obtain ⟨h5, h6⟩ := and_tt h5
          rw [beq_iff_eq] at h1
          subst h1
          exact se_indx (chP_ok a o g h5) (chE_ok k b g h6) g.un h3 h4 h2
        | [], _, h => exact nope h
        | [b], _ :: _, h => exact nope h
        | _ :: _ :: _, _, h => exact nope h
      | _ => exact nope h
    | _ => exact nope h
theorem chT_ok : ∀ (i : IE) (e : Expr) {X : Cx} {C : Cc}, Good X C L → chT C i e = true → PT X e (tT X W fun v => asBool (den L i v)) ∧ ((∃ op l p, e = .BoolOp op l p) → PW X e (tT X W fun v => asBool (den L i v)))
  | .and a b, e, X, C, g, h => by
    cases e with
    | BoolOp op l p =>
      cases op with
      | Or => exact nope h
      | And =>
        match l, h with
        | [], h => exact nope h
        | [x], h => exact nope h
        | [x, y], h =>
          obtain ⟨h1, h2⟩ := and_tt (show (chT C a x && chT C b y) = true from h)
          have w : PW X (.BoolOp .And [x, y] p) (tT X W fun v => asBool (den L (.and a b) v)) := (pw_and (chT_ok a x g h1).1 (pw_and1 (chT_ok b y g h2).1)).up fun σ H Q q => tT_and q
          exact ⟨w.pt, fun _ => w⟩
        | x :: y :: z :: r, h =>
          obtain ⟨h1, h2⟩ := and_tt (show (chT C a x && chT C b (.BoolOp .And (y :: z :: r) p)) = true from h)
          have w : PW X (.BoolOp .And (x :: y :: z :: r) p) (tT X W fun v => asBool (den L (.and a b) v)) := (pw_and (chT_ok a x g h1).1 ((chT_ok b _ g h2).2 ⟨_, _, _, rfl⟩)).up fun σ H Q q => tT_and q
          exact ⟨w.pt, fun _ => w⟩
    | _ => exact nope h
  | .or a b, e, X, C, g, h => by
    cases e with
    | BoolOp op l p =>
      cases op with
      | And => exact nope h
      | Or =>
        match l, h with
        | [], h => exact nope h
        | [x], h => exact nope h
        | [x, y], h =>
          obtain ⟨h1, h2⟩ := and_tt (show (chT C a x && chT C b y) = true from h)
          have w : PW X (.BoolOp .Or [x, y] p) (tT X W fun v => asBool (den L (.or a b) v)) := (pw_or (chT_ok a x g h1).1 (pw_or1 (chT_ok b y g h2).1)).up fun σ H Q q => tT_or q
          exact ⟨w.pt, fun _ => w⟩
        | x :: y :: z :: r, h =>
          obtain ⟨h1, h2⟩ := and_tt (show (chT C a x && chT C b (.BoolOp .Or (y :: z :: r) p)) = true from h)
          have w : PW X (.BoolOp .Or (x :: y :: z :: r) p) (tT X W fun v => asBool (den L (.or a b) v)) := (pw_or (chT_ok a x g h1).1 ((chT_ok b _ g h2).2 ⟨_, _, _, rfl⟩)).up fun σ H Q q => tT_or q
          exact ⟨w.pt, fun _ => w⟩
    | _ => exact nope h
  | .prim p as, e, X, C, g, h => by
    have cmp : ∀ (a0 : Expr) (o : CmpOp) (b0 : Expr) (q : Pos), chT C (.prim p as) (.Compare a0 [o] [b0] q) = true → PT X (.Compare a0 [o] [b0] q) (tT X W fun v => asBool (den L (.prim p as) v)) := fun a0 o b0 q h => by
      have h : (match prIs p (.Compare a0 [o] [b0] q) with
        | some es => chPs C as es
        | none => (match prCmp p (.Compare a0 [o] [b0] q) with
          | some es => chPs C as es
          | none => false)) = true := h
      cases q1 : prIs p (.Compare a0 [o] [b0] q) with
      | some es =>
        rw [q1] at h
        exact ok_isT q1 (chPs_ok as es g h)
      | none =>
        rw [q1] at h
        simp only at h
        cases q2 : prCmp p (.Compare a0 [o] [b0] q) with
        | none => rw [q2] at h; cases h
        | some es =>
          rw [q2] at h
          exact ok_cmpT g q2 (chPs_ok as es g h)
    have pln : ∀ e : Expr, plainTest e = true → (plainTest e && (match prE C p e with
      | some es => chPs C as es
      | none => false)) = true → PT X e (tT X W fun v => asBool (den L (.prim p as) v)) := fun e pt h => by
      have h := (and_tt h).2
      cases q : prE C p e with
      | none => rw [q] at h; cases h
      | some es =>
        rw [q] at h
        exact st_plain (ok_prim g q (chPs_ok as es g h)) pt
    refine ⟨?_, fun ⟨op, l, q, ee⟩ => by subst ee; exact nope h⟩
    cases e with
    | Compare a0 os bs q =>
      match os, bs, h with
      | [o], [b0], h => exact cmp a0 o b0 q h
      | [], _, h => exact nope h
      | [o], [], h => exact nope h
      | [o], _ :: _ :: _, h => exact nope h
      | _ :: _ :: _, _, h => exact nope h
    | UnaryOp o a0 q =>
      cases o with
      | Not =>
        obtain ⟨h1, h2⟩ := and_tt (show (decide (p = .not) && chN C as a0) = true from h)
        have := of_decide_eq_true h1
        subst this
        exact chN_ok as a0 g h2
      | _ => exact nope h
    | Name _ _ => exact pln _ rfl h
    | Call _ _ _ _ => exact pln _ rfl h
    | Subscript _ _ _ => exact pln _ rfl h
    | Constant _ _ _ => exact pln _ rfl h
    | _ => exact nope h
  | .var i, e, X, C, g, h => by
    cases e with
    | Name x p =>
      obtain ⟨a, b, c, d⟩ := nm_ok g h
      exact ⟨st_plain (se_var a b c d) rfl, fun ⟨_, _, _, q⟩ => by cases q⟩
    | _ => exact nope h
  | .lit d, e, X, C, g, h => by
    cases e with
    | Constant c j p => exact ⟨st_plain (se_lit (lit_ok h)) rfl, fun ⟨_, _, _, q⟩ => by cases q⟩
    | _ => exact nope h
  | .idx a k, e, X, C, g, h => by
    cases e with
    | Subscript x b p =>
      obtain ⟨h1, h2⟩ := and_tt (show (plainIx b && (chP C a x && chE C k b)) = true from h)
      obtain ⟨h2, h3⟩ := and_tt h2
      exact ⟨st_plain (se_idx (chP_ok a x g h2) (chE_ok k b g h3) (ix_ok h1)) rfl, fun ⟨_, _, _, q⟩ => by cases q⟩
    | _ => exact nope h
  | .call f as, e, X, C, g, h => by
    cases e with
    | Call fe es kws p =>
      cases fe with
      | Name x px =>
        cases kws with
        | nil =>
          obtain ⟨h1, h2⟩ := and_tt (show (fnB C f x es.length && (es.all plainArg && chPs C as es)) = true from h)
          obtain ⟨h2, h3⟩ := and_tt h2
          exact ⟨st_plain (se_call g h1 h2 (chPs_ok as es g h3)) rfl, fun ⟨_, _, _, q⟩ => by cases q⟩
        | cons => exact nope h
      | _ => exact nope h
    | _ => exact nope h
  | .callK f ks as, e, X, C, g, h => by
    cases e with
    | Call fe es kws p =>
      cases fe with
      | Name x px =>
        cases es with
        | nil =>
          obtain ⟨h1, h2⟩ := and_tt (show (fnB C f x kws.length && (fnK C f x ks (kwNames kws) && chPs C as (kwVals kws))) = true from h)
          obtain ⟨h2, h3⟩ := and_tt h2
          exact ⟨st_plain (se_callK g h1 h2 (chPs_ok as _ g h3)) rfl, fun ⟨_, _, _, q⟩ => by cases q⟩
        | cons => exact nope h
      | _ => exact nope h
    | _ => exact nope h
  | .mv _, _, _, _, _, h => nope h
  | .lst _, _, _, _, _, h => nope h
  | .tup _, _, _, _, _, h => nope h
  | .ite _ _ _, _, _, _, _, h => nope h
  | .comp _ _ _ _, _, _, _, _, h => nope h
  | .pop _ _, _, _, _, _, h => nope h
  | .cut _ _ _, _, _, _, _, h => nope h
  | .indx _ _, _, _, _, _, h => nope h
theorem chN_ok : ∀ (as : List IP) (e : Expr) {X : Cx} {C : Cc} {pos : Pos}, Good X C L → chN C as e = true → PT X (.UnaryOp .Not e pos) (tT X W fun v => asBool (den L (.prim .not as) v))
  | [.e i], e, X, C, pos, g, h => ok_notT (chT_ok i e g h).1
  | [.s i], e, X, C, pos, g, h => by
    cases e with
    | Name x p =>
      obtain ⟨a, b, c, d⟩ := nm_ok g h
      exact ok_notS a b c d
    | _ => exact nope h
  | [], _, _, _, _, _, h => nope h
  | _ :: _ :: _, _, _, _, _, _, h => nope h
theorem chP_ok : ∀ (a : IP) (e : Expr) {X : Cx} {C : Cc}, Good X C L → chP C a e = true → PE X e (tP X W (denP L a))
  | .e a, e, X, C, g, h => (chE_ok a e g h).up fun σ H Q q => tP_e q
  | .s i, e, X, C, g, h => by
    cases e with
    | Name x p =>
      obtain ⟨a, b, c, d⟩ := nm_ok g h
      exact (pe_var a b c d).up fun σ H Q q => tP_s q
    | _ => exact nope h
theorem chPs_ok : ∀ (as : List IP) (es : List Expr) {X : Cx} {C : Cc}, Good X C L → chPs C as es = true → PP X W L es as
  | [], [], _, _, _, _ => .nil
  | a :: as, e :: es, X, C, g, h => .cons (chP_ok a e g (and_tt h).1) (chPs_ok as es g (and_tt h).2)
  | [], _ :: _, _, _, _, h => nope h
  | _ :: _, [], _, _, _, h => nope h
theorem chEs_ok : ∀ (as : List IE) (es : List Expr) {X : Cx} {C : Cc}, Good X C L → chEs C as es = true → EE X W L es as
  | [], [], _, _, _, _ => .nil
  | a :: as, e :: es, X, C, g, h => .cons ⟨chE_ok a e g (and_tt (and_tt h).1).1, (and_tt (and_tt h).1).2⟩ (chEs_ok as es g (and_tt h).2)
  | [], _ :: _, _, _, _, h => nope h
  | _ :: _, [], _, _, _, h => nope h
theorem chO_ok : ∀ (a : Option IE) (e : Option Expr) {X : Cx} {C : Cc}, Good X C L → chO C a e = true → PO X e (tQ X W (denO L a))
  | none, none, _, _, _, _ => so_none
  | some a, some e, X, C, g, h => so_some (chE_ok a e g h)
  | none, some _, _, _, _, h => nope h
  | some _, none, _, _, _, h => nope h
theorem chC_ok : ∀ (a : Option IE) (es : List Expr) {X : Cx} {C : Cc}, Good X C L → chC C a es = true → PTs X es (tYN X W L a)
  | none, [], _, _, _, _ => pts_nil
  | some a, [e], X, C, g, h => pts_one (chT_ok a e g h).1
  | none, _ :: _, _, _, _, h => nope h
  | some _, [], _, _, _, h => nope h
  | some _, _ :: _ :: _, _, _, _, h => nope h
theorem chI_ok : ∀ (it : Iter) (t e : Expr) {X : Cx} {C : Cc}, Good X C L → chI C it t e = true → marks e = true ∧ PI X t e (tI X W (denI L it))
  | .seq a, t, e, X, C, g, h => by
    obtain ⟨h1, h2⟩ := and_tt (show (marks e && chE C a e) = true from h)
    exact ⟨h1, si_seq (chE_ok a e g h2)⟩
  | .range as, t, e, X, C, g, h => by
    cases e with
    | Call fe es kws p =>
      cases fe with
      | Name x px =>
        cases kws with
        | nil =>
          obtain ⟨h1, h2⟩ := and_tt (show ((x == ("range" : Str) && (glb C x && (decide (es.length = 1) || (decide (es.length = 2) || decide (es.length = 3))))) && chEs C as es) = true from h)
          obtain ⟨h1, h3⟩ := and_tt h1
          obtain ⟨h3, h4⟩ := and_tt h3
          rw [beq_iff_eq] at h1
          subst h1
          obtain ⟨gl, mg⟩ := g.gl h3
          refine ⟨rfl, ?_⟩
          cases chEs_ok as es g h2 with
          | nil => simp at h4
          | cons a r =>
            cases r with
            | nil => exact si_range1 gl mg a.1 a.2
            | cons b r =>
              cases r with
              | nil => exact si_range2 gl mg a.1 b.1 a.2 b.2
              | cons c r =>
                cases r with
                | nil => exact si_range3 gl mg a.1 b.1 c.1 a.2 b.2 c.2
                | cons d r => simp at h4
        | cons => exact nope h
      | _ => exact nope h
    | _ => exact nope h
  | .enum a, t, e, X, C, g, h => by
    cases e with
    | Call fe es kws p =>
      cases fe with
      | Name x px =>
        match es, kws, h with
        | [b], [], h =>
          obtain ⟨h1, h2⟩ := and_tt (show ((x == ("enumerate" : Str) && (glb C x && (isTupE t && plainArg b))) && chE C a b) = true from h)
          obtain ⟨h1, h3⟩ := and_tt h1
          obtain ⟨h3, h4⟩ := and_tt h3
          obtain ⟨h4, h5⟩ := and_tt h4
          rw [beq_iff_eq] at h1
          subst h1
          obtain ⟨gl, mg⟩ := g.gl h3
          refine ⟨rfl, ?_⟩
          cases t with
          | Tuple el k q => exact si_enum gl mg (chE_ok a b g h2) h5
          | _ => cases h4
        | [], _, h => exact nope h
        | [b], _ :: _, h => exact nope h
        | _ :: _ :: _, _, h => exact nope h
      | _ => exact nope h
    | _ => exact nope h
  | .zip false a b, t, e, X, C, g, h => by
    cases e with
    | Call fe es kws p =>
      cases fe with
      | Name x px =>
        match es, kws, h with
        | [u, v], [], h =>
          obtain ⟨h1, h2⟩ := and_tt (show ((x == ("zip" : Str) && (glb C x && (isTupE t && (plainArg u && plainArg v)))) && (chE C a u && chE C b v)) = true from h)
          obtain ⟨h1, h3⟩ := and_tt h1
          obtain ⟨h3, h4⟩ := and_tt h3
          obtain ⟨h4, h5⟩ := and_tt h4
          obtain ⟨h5, h6⟩ := and_tt h5
          obtain ⟨h2, h7⟩ := and_tt h2
          rw [beq_iff_eq] at h1
          subst h1
          obtain ⟨gl, mg⟩ := g.gl h3
          refine ⟨rfl, ?_⟩
          cases t with
          | Tuple el k q => exact si_zip0 gl mg (chE_ok a u g h2) (chE_ok b v g h7) h5 h6
          | _ => cases h4
        | [], _, h => exact nope h
        | [u], _, h => exact nope h
        | [u, v], _ :: _, h => exact nope h
        | _ :: _ :: _ :: _, _, h => exact nope h
      | _ => exact nope h
    | _ => exact nope h
  | .zip true a b, t, e, X, C, g, h => by
    unfold chI at h
    split at h
    case h_5 =>
      rename_i t0 it0 e0 e1 a' b' x px u v y k3 p3 p4 p5 hq
      cases hq
      obtain ⟨h1, h2⟩ := and_tt h
      obtain ⟨h1, k1⟩ := and_tt h1
      obtain ⟨k0, k1⟩ := and_tt k1
      obtain ⟨k2, k1⟩ := and_tt k1
      obtain ⟨k4, k1⟩ := and_tt k1
      obtain ⟨k5, k6⟩ := and_tt k1
      obtain ⟨h2, k7⟩ := and_tt h2
      rw [beq_iff_eq] at h1 k0
      subst h1
      subst k0
      obtain ⟨gl, mg⟩ := g.gl k2
      refine ⟨rfl, ?_⟩
      cases t0 with
      | Tuple el k q => exact si_zip1 gl mg (chE_ok a u g h2) (chE_ok b v g k7) k5 k6
      | _ => cases k4
    all_goals first
      | exact nope h
      | (rename_i hq; cases hq)
end
end
end Ev
set_option Elab.async false
set_option linter.all false
set_option maxRecDepth 100000
/-! Ev28: statements, checked. -/
namespace Ev
open PySem PySem.Spec PyProof.Rows L2

def starE' : Expr → Bool
  | .Starred .. => true
  | _ => false
def bkOf (sc : Scope) : ScopeKind := if sc.kind.isAnnotationScope then .function else sc.kind
def swN (sc : Scope) (ts : List Expr) : List Str := ts.filterMap fun
  | .Name id pos => if sc.names.lookup id == some .local && pos.line == (ts.head?.map (·.pos.line)).getD 0 then some id else none
  | _ => none
def swM (env : Env) (ts : List Expr) : List Str := ts.filterMap fun
  | .Name id pos => if env.kindOf id == some .local && pos.line == (ts.head?.map (·.pos.line)).getD 0 then some id else none
  | _ => none
theorem swM_eq {env : Env} {sc : Scope} (h : env.scope = sc) (ts : List Expr) : swM env ts = swN sc ts := by
  unfold swM swN Env.kindOf
  rw [h]
/-- how a row of stores goes: none: not told; some none: as written; some (some names): the other way round -/
def swD (sc : Scope) (ts vs : List Expr) : Option (Option (List Str)) :=
  if !(ts.length == 2 || ts.length == 3) || vs.length != ts.length || bkOf sc != .function then some none
  else if vs.any starE' then some none
  else if (swN sc ts).length != ts.length || (swN sc ts).eraseDups.length != (swN sc ts).length then some none
  else if vs.all (foldedForSure 8) then some none
  else if vs.all (constantsAlone 8) then none
  else some (some (swN sc ts))
section
variable {X : Cx} {W : WX} {L : List FnE} {C : Cc} {io : Bool}
theorem sw_ok {sc : Scope} (h : X.env.scope = sc) {ts vs : List Expr} {k k2 : Nat} {p p2 : Pos} {r : Option (List Str)} (q : swD sc ts vs = some r) : swappedStores [.Tuple ts k p] (.Tuple vs k2 p2) X.env = pure r := by
  have e1 : X.env.blockKind = bkOf sc := by unfold Env.blockKind bkOf; rw [h]
  unfold swappedStores
  simp only [e1]
  show (if (!(ts.length == 2 || ts.length == 3) || vs.length != ts.length || bkOf sc != .function) = true then pure none else if vs.any starE' = true then pure none else if ((swM X.env ts).length != ts.length || (swM X.env ts).eraseDups.length != (swM X.env ts).length) = true then pure none
    else if vs.all (foldedForSure 8) = true then pure none else if vs.all (constantsAlone 8) = true then _ else pure (some (swM X.env ts))) = pure r
  rw [swM_eq h]
  unfold swD at q
  split at q
  · rename_i c
    cases q
    rw [if_pos c]
  · rename_i c
    rw [if_neg c]
    split at q
    · rename_i c
      cases q
      rw [if_pos c]
    · rename_i c
      rw [if_neg c]
      split at q
      · rename_i c
        cases q
        rw [if_pos c]
      · rename_i c
        rw [if_neg c]
        split at q
        · rename_i c
          cases q
          rw [if_pos c]
        · rename_i c
          rw [if_neg c]
          split at q
          · cases q
          · rename_i c
            cases q
            rw [if_neg c]
end

/-! ### the check -/
def noComp : Expr → Bool
  | .ListComp .. => false
  | .SetComp .. => false
  | .DictComp .. => false
  | _ => true
def isTup : Expr → Bool
  | .Tuple .. => true
  | _ => false
/-- name = [..] on one line, the name the def's own alone -/
def swB (C : Cc) (x : Str) (px : Pos) : Expr → Bool
  | .ListComp _ _ s p => (match C.sc.kind with
    | .function => true
    | _ => false) && ((match C.sc.names.lookup x with
    | some .local => true
    | _ => false) && ((px.line == p.line) && !(s.names.any fun (n, k) => n == x && (k == .local || k == .cell))))
  | _ => false
def swF (C : Cc) (x : Str) (px : Pos) : Expr → Bool
  | .ListComp _ _ s p => !((match C.sc.names.lookup x with
    | some .local => true
    | _ => false) && ((px.line == p.line) && !(s.names.any fun (n, k) => n == x && (k == .local || k == .cell))))
  | .SetComp .. => false
  | .DictComp .. => false
  | _ => true
def chTg (C : Cc) : Tg → Expr → Bool
  | .n i, .Name x _ => stB C i x
  | .sub i k, .Subscript (.Name x _) kx _ => nmB C i x && (plainIx kx && chE C k kx)
  | _, _ => false
def chTgs (C : Cc) : List Tg → List Expr → Bool
  | [], [] => true
  | t :: ts, e :: es => chTg C t e && chTgs C ts es
  | _, _ => false
def locB (C : Cc) (i : Nat) (x : Str) : Bool := atB C i x && (match C.sc.names.lookup x with
  | some .local => true
  | _ => false)
def chCmp (C : Cc) (elt : IE) (tg : Tgt) (it : Iter) (cond : Option IE) : Expr → Bool
  | .ListComp e [⟨t, iter, ifs, 0⟩] scope _ => (chI C it t iter && (blkC C.N C.sc scope (ownOf C tg) && tgB (blk C scope) tg t)) && (chE (blk C scope) elt e && chC (blk C scope) cond ifs)
  | _ => false
def chAsg (C : Cc) (t : Tg) (e : IE) (te ex : Expr) : Bool := match t, te with
  | .n i, .Name x px => if swB C x px ex then (match e with
    | .comp elt tg it cond => locB C i x && chCmp C elt tg it cond ex
    | _ => false) else swF C x px ex && (stB C i x && chE C e ex)
  | .sub i k, .Subscript (.Name x px) kx p => chTg C (.sub i k) (.Subscript (.Name x px) kx p) && chE C e ex
  | _, _ => false
def chMany (C : Cc) (ts : List Tg) (e : IE) (es : List Expr) (ex : Expr) : Bool := match ex with
  | .Tuple vs _ _ => (match swD C.sc es vs with
    | none => false
    | some none => chTgs C ts es && (es.all plainArg && chE C e ex)
    | some (some _) => (match ts, es, e, vs with
      | [.n i, .n j], [.Name x _, .Name y _], .tup [ia, ib], [a, b] => decide (i ≠ j) && ((locB C i x && locB C j y) && (swD C.sc es vs == some (some [x, y]) && chEs C [ia, ib] [a, b]))
      | [.n i, .n j, .n l], [.Name x _, .Name y _, .Name z _], .tup [ia, ib, ic], [a, b, c] => (decide (i ≠ j) && (decide (i ≠ l) && decide (j ≠ l))) && ((locB C i x && (locB C j y && locB C l z)) && (swD C.sc es vs == some (some [x, y, z]) && chEs C [ia, ib, ic] [a, b, c]))
      | _, _, _, _ => false))
  | ex => noComp ex && (chTgs C ts es && (es.all plainArg && chE C e ex))
mutual
def chS (C : Cc) (io : Bool) : IS → Stmt → Bool
  | .asg (.one t) e, .Assign [te] ex _ => chAsg C t e te ex
  | .asg (.many ts) e, .Assign [.Tuple es _ _] ex _ => chMany C ts e es ex
  | .app i e, .Expr (.Call (.Attribute (.Name x _) m apos) [ex] [] cpos) _ => (m == ("append" : Str) && (nmB C i x && (apos.endLine == cpos.line))) && (plainArg ex && chE C e ex)
  | .appE r a, .Expr (.Call (.Attribute rx m apos) [ex] [] cpos) _ => (m == ("append" : Str) && (notSuper rx && (apos.endLine == cpos.line))) && (plainArg ex && (chE C r rx && chE C a ex))
  | .ex e, .Expr ex _ => noComp ex && chE C e ex
  | .pass, .Pass _ => true
  | .pass, .Expr (.Constant (.str _) _ _) _ => true
  | .brk, .Break _ => true
  | .ite c a b, .If t sa sb _ => chT C c t && (chSs C io a sa && chSs C io b sb)
  | .for t it b, .For tg iter sb [] _ => (chI C it tg iter && tgB C t tg) && chSs C io b sb
  | .whl c b, .While t sb [] _ => chT C c t && chSs C io b sb
  | .ret e, .Return (some ex) _ => chE C e ex
  | .retN, .Return none _ => true
  | .raise _ _, .Raise _ _ _ => true
  | _, _ => false
termination_by structural x => x
def chSs (C : Cc) (io : Bool) : List IS → List Stmt → Bool
  | [], [] => true
  | i :: is, s :: ss => chS C io i s && chSs C io is ss
  | _, _ => false
termination_by structural x => x
end
section
variable {X : Cx} {W : WX} {L : List FnE} {C : Cc} {io : Bool}
theorem nocomp_none {ex : Expr} {l : Nat} (h : noComp ex = true) : swapsWith ex none l X.env = pure false := by
  cases ex <;> first | rfl | cases h
theorem nocomp_some {ex t : Expr} {l : Nat} (h : noComp ex = true) : swapsWith ex (some t) l X.env = pure false := by
  cases ex <;> first | rfl | cases h
theorem loc_ok (g : Good X C L) {i : Nat} {x : Str} (h : locB C i x = true) : X.N[i]? = some x ∧ X.env.scope.names.lookup x = some .local := by
  unfold locB at h
  obtain ⟨h1, h2⟩ := and_tt h
  refine ⟨at_ok g h1, ?_⟩
  rw [g.sc]
  split at h2
  · assumption
  · cases h2
theorem swB_ok (g : Good X C L) {x : Str} {px : Pos} {ex : Expr} {l : Nat} (h : swB C x px ex = true) : swapsWith ex (some (.Name x px)) l X.env = pure true := by
  unfold swB at h
  split at h
  · rename_i e gs s p
    obtain ⟨h1, h2⟩ := and_tt h
    obtain ⟨h2, h3⟩ := and_tt h2
    obtain ⟨h3, h4⟩ := and_tt h3
    refine sw_true ?_ ?_ h3 (by simpa using h4)
    · rw [g.sc]
      split at h1
      · assumption
      · cases h1
    · rw [g.sc]
      split at h2
      · assumption
      · cases h2
  · cases h
abbrev W0 : WX := fun _ _ _ _ => False
theorem swF_ok (g : Good X C L) {x : Str} {px : Pos} {ex : Expr} {l : Nat} (h : swF C x px ex = true) : swapsWith ex (some (.Name x px)) l X.env = pure false := by
  cases ex with
  | ListComp e gs s p =>
    have h : (!((match C.sc.names.lookup x with
      | some .local => true
      | _ => false) && ((px.line == p.line) && !(s.names.any fun (n, k) => n == x && (k == .local || k == .cell))))) = true := h
    show (pure (X.env.blockKind == .function && X.env.kindOf x == some .local && px.line == p.line && !(s.names.any fun (n, k) => n == x && (k == .local || k == .cell))) : Sem Bool) = pure false
    congr 1
    rw [Bool.not_eq_true'] at h
    have e1 : X.env.kindOf x = C.sc.names.lookup x := by unfold Env.kindOf; rw [g.sc]
    rw [e1]
    have e2 : ((C.sc.names.lookup x == some .local) : Bool) = (match C.sc.names.lookup x with
      | some .local => true
      | _ => false) := by
      cases C.sc.names.lookup x with
      | none => rfl
      | some k => cases k <;> rfl
    rw [e2]
    revert h
    cases (match C.sc.names.lookup x with
      | some .local => true
      | _ => false) <;> cases (px.line == p.line) <;> cases (s.names.any fun (n, k) => n == x && (k == .local || k == .cell)) <;> simp
  | SetComp => cases h
  | DictComp => cases h
  | _ => rfl
theorem tgs1_ok (g : Good X C L) {t : Tg} {e : Expr} (h : chTg C t e = true) : PG X e (gTg X W L t) := by
  unfold chTg at h
  split at h
  · obtain ⟨a, b, c⟩ := st_ok g h
    exact pg_name g.nd a b c
  · rename_i i k x px kx p
    obtain ⟨h1, h2⟩ := and_tt h
    obtain ⟨h2, h3⟩ := and_tt h2
    obtain ⟨a, b, c, d⟩ := nm_ok g h1
    refine pg_sub (pe_var a b c d) (chE_ok k kx g h3) set_list fun v => ?_
    cases kx <;> first | rfl | cases h2
  · cases h
theorem tgsl_ok (g : Good X C L) : ∀ {ts : List Tg} {es : List Expr}, chTgs C ts es = true → es.all plainArg = true → PGs X es (gTgl X W L ts) ∧ es.length = ts.length
  | [], [], _, _ => ⟨pgs_nil, rfl⟩
  | t :: ts, e :: es, h, pl => by
    obtain ⟨h1, h2⟩ := and_tt (show (chTg C t e && chTgs C ts es) = true from h)
    rw [List.all_cons, Bool.and_eq_true] at pl
    obtain ⟨a, b⟩ := tgsl_ok g h2 pl.2
    exact ⟨pgs_cons (tgs1_ok g h1) a (by rw [ae_cons pl.1]; rfl), congrArg Nat.succ b⟩
  | [], _ :: _, h, _ => nope h
  | _ :: _, [], h, _ => nope h
theorem asg_ok (g : Good X C L) {t : Tg} {e : IE} {te ex : Expr} {pos : Pos} (h : chAsg C t e te ex = true) : PS X (.Assign [te] ex pos) (tS X io (ex1 L io (.asg (.one t) e))) := by
  unfold chAsg at h
  split at h
  · rename_i i x px
    split at h
    · rename_i sw
      split at h
      · rename_i elt tg it cond
        obtain ⟨h1, h2⟩ := and_tt h
        unfold chCmp at h2
        split at h2
        · rename_i e t iter ifs scope p
          obtain ⟨h2, h3⟩ := and_tt h2
          obtain ⟨h2, h4⟩ := and_tt h2
          obtain ⟨h4, h5⟩ := and_tt h4
          obtain ⟨h3, h6⟩ := and_tt h3
          obtain ⟨mk, pi⟩ := chI_ok (W := W0) it t iter g h2
          obtain ⟨l1, l2⟩ := loc_ok g h1
          exact ss_asgLc g.calm g.nd l1 l2 (swB_ok g sw) pi (blk_ok g h4) own_eq (fun s H Cl cl fp => tg_ok (g.blk' (s := s) (H := H) (Cl := Cl) (cl := cl) (fp := fp)) h5) (fun s H Cl cl fp => chC_ok (W := W0) cond ifs (g.blk' (s := s) (H := H) (Cl := Cl) (cl := cl) (fp := fp)) h6)
            (fun s H Cl cl fp => chE_ok (W := W0) elt e (g.blk' (s := s) (H := H) (Cl := Cl) (cl := cl) (fp := fp)) h3) (mark_fold mk)
        · cases h2
      · cases h
    · obtain ⟨h1, h2⟩ := and_tt h
      obtain ⟨h2, h3⟩ := and_tt h2
      obtain ⟨a, b, c⟩ := st_ok g h2
      exact ss_asg (W := W0) (t := .n i) (chE_ok e ex g h3) (pg_name g.nd a b c) (swF_ok (l := pos.line) g h1) (by cases ex <;> rfl) rfl
  · rename_i i k x px kx p
    obtain ⟨h1, h2⟩ := and_tt h
    refine ss_asg (W := W0) (chE_ok e ex g h2) (tgs1_ok g h1) ?_ (by cases ex <;> rfl) rfl
    cases ex <;> rfl
  · cases h
theorem par2_ok (g : Good X C L) {i j : Nat} {x y : Str} {p1 p2 p pos p3 : Pos} {k k2 : Nat} {ia ib : IE} {a b : Expr} (h : (decide (i ≠ j) && ((locB C i x && locB C j y) && (swD C.sc [.Name x p1, .Name y p2] [a, b] == some (some [x, y]) && chEs C [ia, ib] [a, b]))) = true) :
    PS X (.Assign [.Tuple [.Name x p1, .Name y p2] k p] (.Tuple [a, b] k2 p3) pos) (tS X io (ex1 L io (.asg (.many [.n i, .n j]) (.tup [ia, ib])))) := by
  obtain ⟨h1, h2⟩ := and_tt h
  obtain ⟨h2, h3⟩ := and_tt h2
  obtain ⟨h3, h4⟩ := and_tt h3
  obtain ⟨h2, h5⟩ := and_tt h2
  obtain ⟨l1, l2⟩ := loc_ok g h2
  obtain ⟨l3, l4⟩ := loc_ok g h5
  exact ss_par2 (W := W0) g.calm g.nd l1 l3 (of_decide_eq_true h1) l2 l4 (pa_O (chEs_ok [ia, ib] [a, b] g h4)) (sw_ok g.sc (eq_of_beq h3))
theorem par3_ok (g : Good X C L) {i j l : Nat} {x y z : Str} {p1 p2 p4 p pos p3 : Pos} {k k2 : Nat} {ia ib ic : IE} {a b c : Expr}
    (h : ((decide (i ≠ j) && (decide (i ≠ l) && decide (j ≠ l))) && ((locB C i x && (locB C j y && locB C l z)) && (swD C.sc [.Name x p1, .Name y p2, .Name z p4] [a, b, c] == some (some [x, y, z]) && chEs C [ia, ib, ic] [a, b, c]))) = true) :
    PS X (.Assign [.Tuple [.Name x p1, .Name y p2, .Name z p4] k p] (.Tuple [a, b, c] k2 p3) pos) (tS X io (ex1 L io (.asg (.many [.n i, .n j, .n l]) (.tup [ia, ib, ic])))) := by
  obtain ⟨h1, h2⟩ := and_tt h
  obtain ⟨h1, h6⟩ := and_tt h1
  obtain ⟨h6, h7⟩ := and_tt h6
  obtain ⟨h2, h3⟩ := and_tt h2
  obtain ⟨h3, h4⟩ := and_tt h3
  obtain ⟨h2, h5⟩ := and_tt h2
  obtain ⟨h5, h8⟩ := and_tt h5
  obtain ⟨l1, l2⟩ := loc_ok g h2
  obtain ⟨l3, l4⟩ := loc_ok g h5
  obtain ⟨l5, l6⟩ := loc_ok g h8
  exact ss_par3 (W := W0) g.calm g.nd l1 l3 l5 (of_decide_eq_true h1) (of_decide_eq_true h6) (of_decide_eq_true h7) l2 l4 l6 (pa_O (chEs_ok [ia, ib, ic] [a, b, c] g h4)) (sw_ok g.sc (eq_of_beq h3))
theorem many_ok (g : Good X C L) {ts : List Tg} {e : IE} {es : List Expr} {ex : Expr} {k : Nat} {p pos : Pos} (h : chMany C ts e es ex = true) : PS X (.Assign [.Tuple es k p] ex pos) (tS X io (ex1 L io (.asg (.many ts) e))) := by
  have plain : chTgs C ts es = true → es.all plainArg = true → chE C e ex = true → swapsWith ex (some (.Tuple es k p)) pos.line X.env = pure false → swappedStores [.Tuple es k p] ex X.env = pure none → PS X (.Assign [.Tuple es k p] ex pos) (tS X io (ex1 L io (.asg (.many ts) e))) := fun h1 h2 h3 h4 h5 => by
    obtain ⟨a, b⟩ := tgsl_ok (W := W0) g h1 h2
    obtain ⟨c, d⟩ := ae_len (env := X.env) h2
    exact ss_asgT (chE_ok e ex g h3) (pg_tup g.calm a (by rw [c, b]) d) h4 h5 rfl
  unfold chMany at h
  split at h
  · rename_i vs k2 p2
    split at h
    · cases h
    · rename_i q
      obtain ⟨h1, h2⟩ := and_tt h
      obtain ⟨h2, h3⟩ := and_tt h2
      exact plain h1 h2 h3 rfl (sw_ok g.sc q)
    · split at h
      · exact par2_ok g h
      · exact par3_ok g h
      · cases h
  · rename_i nt
    obtain ⟨h1, h2⟩ := and_tt h
    obtain ⟨h2, h3⟩ := and_tt h2
    obtain ⟨h3, h4⟩ := and_tt h3
    refine plain h2 h3 h4 (nocomp_some h1) ?_
    cases ex <;> first | rfl | exact absurd rfl (nt _ _ _)
mutual
theorem chS_ok : ∀ (i : IS) (s : Stmt) {X : Cx} {C : Cc}, Good X C L → PassesOwn (model X.prog X.w) X.A X.env X.xe → chS C io i s = true → PS X s (tS X io (ex1 L io i))
  | .asg (.one t) e, s, X, C, g, hp, h => by
    unfold chS at h
    split at h
    case h_1 =>
      rename_i hq
      cases hq
      exact asg_ok g h
    all_goals first
      | exact nope h
      | (rename_i hq; cases hq)
  | .asg (.many ts) e, s, X, C, g, hp, h => by
    unfold chS at h
    split at h
    case h_2 =>
      rename_i hq
      cases hq
      exact many_ok g h
    all_goals first
      | exact nope h
      | (rename_i hq; cases hq)
  | .app i e, s, X, C, g, hp, h => by
    unfold chS at h
    split at h
    case h_3 =>
      rename_i hq
      cases hq
      obtain ⟨h1, h2⟩ := and_tt h
      obtain ⟨h1, h3⟩ := and_tt h1
      obtain ⟨h3, h4⟩ := and_tt h3
      obtain ⟨h2, h5⟩ := and_tt h2
      rw [beq_iff_eq] at h1
      subst h1
      obtain ⟨a, b, c, d⟩ := nm_ok g h3
      exact ss_app (W := W0) a b c d (chE_ok e _ g h5) h4 h2
    all_goals first
      | exact nope h
      | (rename_i hq; cases hq)
  | .appE r a, s, X, C, g, hp, h => by
    unfold chS at h
    split at h
    case h_4 =>
      rename_i hq
      cases hq
      obtain ⟨h1, h2⟩ := and_tt h
      obtain ⟨h1, h3⟩ := and_tt h1
      obtain ⟨h3, h4⟩ := and_tt h3
      obtain ⟨h2, h5⟩ := and_tt h2
      obtain ⟨h5, h6⟩ := and_tt h5
      rw [beq_iff_eq] at h1
      subst h1
      exact ss_appE (W := W0) (chE_ok r _ g h5) (chE_ok a _ g h6) (base_ok h3) h4 h2
    all_goals first
      | exact nope h
      | (rename_i hq; cases hq)
  | .ex e, s, X, C, g, hp, h => by
    unfold chS at h
    split at h
    case h_5 =>
      rename_i hq
      cases hq
      obtain ⟨h1, h2⟩ := and_tt h
      exact ss_ex (W := W0) (chE_ok e _ g h2) (nocomp_none h1)
    all_goals first
      | exact nope h
      | (rename_i hq; cases hq)
  | .pass, s, X, C, g, hp, h => by
    unfold chS at h
    split at h
    case h_6 => exact ss_pass
    case h_7 => exact ss_doc
    all_goals first
      | exact nope h
      | (rename_i hq; cases hq)
  | .brk, s, X, C, g, hp, h => by
    unfold chS at h
    split at h
    case h_8 => exact ss_brk
    all_goals first
      | exact nope h
      | (rename_i hq; cases hq)
  | .ite c a b, s, X, C, g, hp, h => by
    cases s with
    | If t sa sb p =>
      obtain ⟨h1, h2⟩ := and_tt (show (chT C c t && (chSs C io a sa && chSs C io b sb)) = true from h)
      obtain ⟨h2, h3⟩ := and_tt h2
      exact ss_if (W := W0) (chT_ok c t g h1).1 (chSs_ok a sa g hp h2) (chSs_ok b sb g hp h3)
    | _ => exact nope h
  | .for t it b, s, X, C, g, hp, h => by
    cases s with
    | For tg iter sb el p =>
      cases el with
      | nil =>
        obtain ⟨h1, h2⟩ := and_tt (show ((chI C it tg iter && tgB C t tg) && chSs C io b sb) = true from h)
        obtain ⟨h1, h3⟩ := and_tt h1
        obtain ⟨mk, pi⟩ := chI_ok (W := W0) it tg iter g h1
        exact ss_for hp g.calm pi (tg_ok g h3) (chSs_ok b sb g hp h2) (mark_fold mk)
      | cons => exact nope h
    | _ => exact nope h
  | .whl c b, s, X, C, g, hp, h => by
    cases s with
    | While t sb el p =>
      cases el with
      | nil =>
        obtain ⟨h1, h2⟩ := and_tt (show (chT C c t && chSs C io b sb) = true from h)
        exact ss_whl (W := W0) hp (chT_ok c t g h1).1 (chSs_ok b sb g hp h2)
      | cons => exact nope h
    | _ => exact nope h
  | .ret e, s, X, C, g, hp, h => by
    cases s with
    | Return v p =>
      cases v with
      | none => exact nope h
      | some ex => exact ss_ret (W := W0) (chE_ok e ex g h)
    | _ => exact nope h
  | .retN, s, X, C, g, hp, h => by
    cases s with
    | Return v p =>
      cases v with
      | none => exact ss_retN
      | some ex => exact nope h
    | _ => exact nope h
  | .raise c e, s, X, C, g, hp, h => ss_never
theorem chSs_ok : ∀ (is : List IS) (ss : List Stmt) {X : Cx} {C : Cc}, Good X C L → PassesOwn (model X.prog X.w) X.A X.env X.xe → chSs C io is ss = true → PSs X ss (tS X io (exs L io is))
  | [], [], _, _, _, _, _ => sss_nil
  | i :: is, s :: ss, X, C, g, hp, h => sss_cons (chS_ok i s g hp (and_tt h).1) (chSs_ok is ss g hp (and_tt h).2)
  | [], _ :: _, _, _, _, _, h => nope h
  | _ :: _, [], _, _, _, _, h => nope h
end
end
end Ev
set_option Elab.async false
set_option linter.all false
set_option maxRecDepth 100000
/-! Ev29: the defs of a text, one after another. -/
namespace Ev
open PySem PySem.Spec PyProof.Rows L2

abbrev Sig := Str × List Str × List (List Nat)
/-- a def that keeps its promise, found by its name -/
def OkD (P : Program) (w : World) (K : Frag) (mg : Str → Option Value) (base : Heap) (k : Nat) (g : FnE) (kws : List (List Nat)) : Prop :=
  ∃ fa fd, mg g.name = some (.ref fa) ∧ PySem.W.keepIn K (.ref fa) = true ∧ FnG P w K mg base k fa fd g.ps (spOf K g) ∧ Binds K fd g.ps [] ∧ ∀ ks ∈ kws, KwB fd g.ps ks
def FnsOk (P : Program) (w : World) (K : Frag) (mg : Str → Option Value) (base : Heap) (k : Nat) : List FnE → List Sig → Prop
  | [], [] => True
  | g :: gs, s :: ss => (s.1 = g.name ∧ s.2.1 = g.ps ∧ OkD P w K mg base k g s.2.2) ∧ FnsOk P w K mg base k gs ss
  | _, _ => False
section
variable {P : Program} {w : World} {K : Frag} {mg : Str → Option Value} {base : Heap} {k : Nat}
theorem OkD.up {i j : Nat} {g : FnE} {kws : List (List Nat)} (h : OkD P w K mg base i g kws) (l : i ≤ j) : OkD P w K mg base j g kws := by
  obtain ⟨fa, fd, a, b, c, d, e⟩ := h
  exact ⟨fa, fd, a, b, c.up l, d, e⟩
theorem fns_at : ∀ {L : List FnE} {S : List Sig} {f : Nat} {g : FnE}, FnsOk P w K mg base k L S → L[f]? = some g → ∃ kws, S[f]? = some (g.name, g.ps, kws) ∧ OkD P w K mg base k g kws
  | [], [], _, _, _, e => by simp at e
  | g :: gs, s :: ss, 0, g', h, e => by
    simp at e
    subst e
    obtain ⟨⟨a, b, c⟩, _⟩ := h
    obtain ⟨s1, s2, s3⟩ := s
    simp only at a b c
    subst a b
    exact ⟨s3, rfl, c⟩
  | g :: gs, s :: ss, f + 1, g', h, e => by
    obtain ⟨kws, a, b⟩ := fns_at h.2 (by simpa using e : gs[f]? = some g')
    exact ⟨kws, by simpa using a, b⟩
  | [], _ :: _, _, _, h, _ => h.elim
  | _ :: _, [], _, _, h, _ => h.elim
theorem fns_nil : FnsOk P w K mg base k [] [] := trivial
theorem fns_cons {g : FnE} {gs : List FnE} {n : Str} {ps : List Str} {kws : List (List Nat)} {ss : List Sig} (h1 : n = g.name) (h2 : ps = g.ps) (h : OkD P w K mg base k g kws) (r : FnsOk P w K mg base k gs ss) : FnsOk P w K mg base k (g :: gs) ((n, ps, kws) :: ss) := ⟨⟨h1, h2, h⟩, r⟩
theorem def_ok {x qual : Str} {params : Arguments} {body : List Stmt} {scope : Scope} {N : List Str} {ir : List IS} {L : List FnE} {f : Addr} {fd : FuncData} {g : FnE} {sg : List Sig} {G : List Str} (F : FunD K x qual params body scope [] [] f fd) (S : FnScope N g.ps scope) (hs : g.sem = runDef L g.io N.length ir)
    (chk : chSs ⟨N, scope, fun _ => true, sg, G⟩ g.io ir body = true) (free : ∀ y ∈ G, mg y = none) (fns : FnsOk P w K mg base k L sg) : FnG P w K mg base (k + 1) f fd g.ps (spOf K g) := by
  refine fnG_def F S hs fun cdv A l s H hr hg => ?_
  refine chSs_ok (C := ⟨N, scope, fun _ => true, sg, G⟩) ir body ?_ (passes_of (K := fun _ _ => False) rfl) chk
  exact {
    N := rfl
    sc := rfl
    fp := rfl
    nd := S.nd
    calm := rfl
    gd := hg
    un := by
      have := hr.un
      show (A.deeper _).units + 66 < cLine
      omega
    free := free
    fns := fun i ge e => by
      obtain ⟨kws, a, fa, fd', b, c, d, e2, e3⟩ := fns_at fns e
      exact ⟨k, fa, fd', kws, a, b, c, hr, d, e2, e3⟩ }
theorem kwb_of {x qual : Str} {params : Arguments} {body : List Stmt} {scope : Scope} {f : Addr} {fd : FuncData} {ps : List Str} {ks : List Nat} (F : FunD K x qual params body scope [] [] f fd)
    (h : ∀ (kV doc pm : Value) (an : Option Addr) (cdv ct : Value) (ws us : List Value), ws.length = ps.length → perm ps.length ks ws = some us → bindArgs (PySem.W.fnOf x qual params body scope .none kV doc pm an cdv ct) ⟨[], (ks.map fun i => ps.getD i ⟨#[]⟩).zip ws⟩ = pure (ps.zip us)) : KwB fd ps ks := by
  obtain ⟨oc, od, dV, kV, doc, pm, an, cdv, ct, osl, rfl, lk, hcd, hD, hK⟩ := F.ex
  rcases hD with ⟨_, rfl⟩ | ⟨e, _⟩
  · exact fun s ws us hl hp => .of_eq (h kV doc pm an cdv ct ws us hl hp)
  · exact absurd rfl e
/-- what the head tells -/
structure Facts (fa : List He.Fa) (fn : List He.DefD) (K : Frag) (mg : Str → Option Value) : Prop where
  ex : ∃ h : Heap, K.In h ∧ h.Ns mainGlobals mg
  says : He.SaysD fa fn K
theorem Facts.glo {fa : List He.Fa} {fn : List He.DefD} (h : Facts fa fn K mg) (i : Nat) {x : Str} (e : fa[i]? = some (.glo x) := by rfl) : mg x = some (.ref (He.ga K x)) := by
  obtain ⟨hp, a, b⟩ := h.ex
  exact He.glo_ok a b (h.says.fact i (f := .glo x) e)
theorem Facts.free {fa : List He.Fa} {fn : List He.DefD} (h : Facts fa fn K mg) {G : List Str} (hG : ∀ x ∈ G, He.Fa.free x ∈ fa) : ∀ x ∈ G, mg x = none := fun x m => by
  obtain ⟨hp, a, b⟩ := h.ex
  obtain ⟨i, hi⟩ := List.getElem?_of_mem (hG x m)
  exact He.free_ok a b (h.says.fact i (f := .free x) hi)
end
end Ev
set_option Elab.async false
set_option linter.all false
set_option maxRecDepth 100000
/-! Pv0: what a run comes to, said by what holds behind it: loops and comprehensions. -/
namespace Ev
open PySem PySem.Spec PyProof.Rows L2

def Res.sat {α : Type} (r : Res α) (P : α → Ve → Prop) : Prop := match r with
  | .ok a e => P a e
  | _ => False
def SRes.sat (r : SRes) (N : Ve → Prop) (R : O → Ve → Prop) : Prop := match r with
  | .next e => N e
  | .ret o e => R o e
  | _ => False
theorem rsat_ok {α : Type} (a : α) (e : Ve) (P : α → Ve → Prop) : (Res.ok a e).sat P = P a e := rfl
theorem ssat_next (e : Ve) (N : Ve → Prop) (R : O → Ve → Prop) : (SRes.next e).sat N R = N e := rfl
theorem ssat_ret (o : O) (e : Ve) (N : Ve → Prop) (R : O → Ve → Prop) : (SRes.ret o e).sat N R = R o e := rfl
theorem sat_bind {α β : Type} {r : Res α} {k : α → Ve → Res β} {P : β → Ve → Prop} (h : r.sat fun a e => (k a e).sat P) : (r.bind k).sat P := by
  cases r with
  | ok a e => exact h
  | err => exact h.elim
  | stuck => exact h.elim
theorem sat_asBool {r : Res O} {P : Bool → Ve → Prop} (h : r.sat fun o e => ∃ b, o = .v (.bool b) ∧ P b e) : (asBool r).sat P := by
  refine sat_bind ?_
  cases r with
  | ok a e => obtain ⟨b, rfl, h⟩ := h; exact h
  | err => exact h.elim
  | stuck => exact h.elim
theorem sat_st {α : Type} {r : Res α} {k : α → Ve → SRes} {N : Ve → Prop} {R : O → Ve → Prop} (h : r.sat fun a e => (k a e).sat N R) : (r.st k).sat N R := by
  cases r with
  | ok a e => exact h
  | err => exact h.elim
  | stuck => exact h.elim
theorem sat_seq {r : SRes} {k : Ve → SRes} {N : Ve → Prop} {R : O → Ve → Prop} (h : r.sat (fun e => (k e).sat N R) R) : (r.seq k).sat N R := by
  cases r <;> exact h
theorem rsat_mono {α : Type} {r : Res α} {P Q : α → Ve → Prop} (h : r.sat P) (hi : ∀ a e, P a e → Q a e) : r.sat Q := by
  cases r <;> first | exact hi _ _ h | exact h
theorem ssat_mono {r : SRes} {N N' : Ve → Prop} {R R' : O → Ve → Prop} (h : r.sat N R) (hn : ∀ e, N e → N' e) (hr : ∀ o e, R o e → R' o e) : r.sat N' R' := by
  cases r <;> first | exact hn _ h | exact hr _ _ h | exact h
/-- a def's end -/
theorem sat_fin {io : Bool} {r : SRes} {o : O} {out : Option O} (h : r.sat (fun e => o = .v .none ∧ outOf io e = out) (fun o' e => o' = o ∧ outOf io e = out)) : finish io r = .ok o out := by
  cases r with
  | next e => obtain ⟨rfl, rfl⟩ := h; rfl
  | ret o e => obtain ⟨rfl, rfl⟩ := h; rfl
  | brk => exact h.elim
  | err => exact h.elim
  | stuck => exact h.elim
/-- a def's end, by a promise -/
def FRes.sat (r : FRes) (P : O → Option O → Prop) : Prop := match r with
  | .ok o out => P o out
  | _ => False
theorem fsat_ex {r : FRes} {P : O → Option O → Prop} (h : r.sat P) : ∃ o out, r = .ok o out ∧ P o out := by
  cases r with
  | ok o out => exact ⟨o, out, rfl, h⟩
  | err => exact h.elim
  | stuck => exact h.elim
theorem fsat_fin {io : Bool} {r : SRes} {P : O → Option O → Prop} (h : r.sat (fun e => P (.v .none) (outOf io e)) (fun o e => P o (outOf io e))) : (finish io r).sat P := by
  cases r <;> exact h
/-- loops -/
theorem sat_for {io : Bool} {t : Tgt} {body : Ve → SRes} {ds : List D} {e : Ve} {N : Ve → Prop} {R : O → Ve → Prop} (P : Nat → Ve → Prop) (h0 : P 0 e)
    (h : ∀ k (hk : k < ds.length) e, P k e → ∃ e1, putT io t ds[k] e = some e1 ∧ (body e1).sat (P (k + 1)) R)
    (hn : ∀ e, P ds.length e → N e) : (forGo io t body ds e).sat N R := by
  induction ds generalizing P e with
  | nil => exact hn e h0
  | cons d ds ih =>
    obtain ⟨e1, h1, h2⟩ := h 0 (by simp) e h0
    have h1' : putT io t d e = some e1 := by simpa using h1
    rw [forGo]; simp only [h1']
    cases hb : body e1 with
    | next e2 =>
      rw [hb] at h2
      exact ih (fun k => P (k + 1)) h2 (fun k hk e hp => by
        have := h (k + 1) (by simpa using hk) e hp
        simpa using this) (fun e he => hn e (by simpa using he))
    | ret o e2 => rw [hb] at h2; exact h2
    | brk e2 => rw [hb] at h2; exact h2.elim
    | err => rw [hb] at h2; exact h2.elim
    | stuck => rw [hb] at h2; exact h2.elim
/-- a while loop: its rounds are counted down -/
theorem sat_whl {c : Ve → Res Bool} {body : Ve → SRes} {e : Ve} {N : Ve → Prop} {R : O → Ve → Prop} (P : Nat → Ve → Prop) (m : Nat) (n : Nat) (hmn : m < n) (h0 : P m e)
    (h : ∀ k e, P (k + 1) e → ∃ e1, c e = .ok true e1 ∧ (body e1).sat (P k) R)
    (hn : ∀ e, P 0 e → ∃ e1, c e = .ok false e1 ∧ N e1) : (whlGo c body n e).sat N R := by
  induction m generalizing n e with
  | zero =>
    obtain ⟨n, rfl⟩ : ∃ n', n = n' + 1 := ⟨n - 1, by omega⟩
    obtain ⟨e1, h1, h2⟩ := hn e h0
    rw [whlGo]; simp only [h1]; exact h2
  | succ m ih =>
    obtain ⟨n, rfl⟩ : ∃ n', n = n' + 1 := ⟨n - 1, by omega⟩
    obtain ⟨e1, h1, h2⟩ := h m e h0
    rw [whlGo]; simp only [h1]
    cases hb : body e1 with
    | next e2 => rw [hb] at h2; exact ih n (by omega) h2
    | ret o e2 => rw [hb] at h2; exact h2
    | brk e2 => rw [hb] at h2; exact h2.elim
    | err => rw [hb] at h2; exact h2.elim
    | stuck => rw [hb] at h2; exact h2.elim
/-- a comprehension: items by a function, filtered -/
theorem sat_comp {tg : Tgt} {cond : Ve → Res Bool} {elt : Ve → Res O} {ds : List D} {acc : List O} {e : Ve} {P : List O → Ve → Prop} (Q : Ve → Prop) (c : D → Bool) (f : D → O) (h0 : Q e)
    (hl : acc.length + ds.length ≤ sizeLine)
    (h : ∀ d, d ∈ ds → ∀ e, Q e → ∃ e1, tg.put d (wipeE e tg.slots) = some e1 ∧ (cond e1).sat fun b e2 => b = c d ∧ if c d then (elt e2).sat fun o e3 => o = f d ∧ Q e3 else Q e2)
    (hp : ∀ e, Q e → P (acc ++ (ds.filter c).map f) e) : (compGo tg cond elt ds acc e).sat P := by
  induction ds generalizing acc e with
  | nil => simpa [compGo, Res.sat] using hp e h0
  | cons d ds ih =>
    obtain ⟨e1, h1, h2⟩ := h d (by simp) e h0
    simp only [List.length_cons] at hl
    rw [compGo]; simp only [h1]
    cases hc1 : cond e1 with
    | err => rw [hc1] at h2; exact h2.elim
    | stuck => rw [hc1] at h2; exact h2.elim
    | ok b e2 =>
      rw [hc1] at h2
      obtain ⟨rfl, h2⟩ := h2
      cases hc : c d with
      | true =>
        simp only [hc, if_true] at h2 ⊢
        cases he : elt e2 with
        | err => rw [he] at h2; exact h2.elim
        | stuck => rw [he] at h2; exact h2.elim
        | ok o e3 =>
          rw [he] at h2
          obtain ⟨rfl, h2⟩ := h2
          simp only []
          rw [if_pos (by omega)]
          exact ih h2 (by simp; omega) (fun d hd => h d (by simp [hd])) (by simpa [hc] using hp)
      | false =>
        simp only [hc] at h2 ⊢
        exact ih (by simpa using h2) (by omega) (fun d hd => h d (by simp [hd])) (by simpa [hc] using hp)
/-- a comprehension: what an item is may rest on what has gone ahead -/
theorem sat_compI {tg : Tgt} {cond : Ve → Res Bool} {elt : Ve → Res O} {ds : List D} {e : Ve} {P : List O → Ve → Prop} (Q : Nat → List O → Ve → Prop) (h0 : Q 0 [] e)
    (hl : ds.length ≤ sizeLine)
    (h : ∀ k (hk : k < ds.length) os e, Q k os e → ∃ e1, tg.put ds[k] (wipeE e tg.slots) = some e1 ∧ (cond e1).sat fun b e2 => b = true ∧ (elt e2).sat fun o e3 => Q (k + 1) (os ++ [o]) e3)
    (hp : ∀ os e, Q ds.length os e → P os e) : (compGo tg cond elt ds [] e).sat P := by
  suffices hh : ∀ (ds : List D) (n : Nat) (acc : List O) (e : Ve), Q n acc e → acc.length + ds.length ≤ sizeLine →
      (∀ k (hk : k < ds.length) os e, Q (n + k) os e → ∃ e1, tg.put ds[k] (wipeE e tg.slots) = some e1 ∧ (cond e1).sat fun b e2 => b = true ∧ (elt e2).sat fun o e3 => Q (n + k + 1) (os ++ [o]) e3) →
      (compGo tg cond elt ds acc e).sat fun os e => Q (n + ds.length) os e by
    exact rsat_mono (hh ds 0 [] e h0 (by simpa using hl) (fun k hk os e hq => by simpa using h k hk os e (by simpa using hq))) (fun os e hq => hp os e (by simpa using hq))
  intro ds
  induction ds with
  | nil => intro n acc e hq _ _; simpa [compGo, Res.sat] using hq
  | cons d ds ih =>
    intro n acc e hq hl hs
    simp only [List.length_cons] at hl
    obtain ⟨e1, a1, a2⟩ := hs 0 (by simp) acc e (by simpa using hq)
    have a1' : tg.put d (wipeE e tg.slots) = some e1 := by simpa using a1
    rw [compGo]; simp only [a1']
    cases hc1 : cond e1 with
    | err => rw [hc1] at a2; exact a2.elim
    | stuck => rw [hc1] at a2; exact a2.elim
    | ok b e2 =>
      rw [hc1] at a2
      obtain ⟨rfl, a2⟩ := a2
      simp only []
      cases he : elt e2 with
      | err => rw [he] at a2; exact a2.elim
      | stuck => rw [he] at a2; exact a2.elim
      | ok o e3 =>
        rw [he] at a2
        simp only []
        rw [if_pos (by omega)]
        have := ih (n + 1) (acc ++ [o]) e3 (by simpa [Res.sat] using a2) (by simp; omega) (fun k hk os e hq => by
          have := hs (k + 1) (by simpa using hk) os e (by rw [show n + (k + 1) = n + 1 + k by omega]; exact hq)
          simpa [show n + (k + 1) = n + 1 + k by omega] using this)
        exact rsat_mono this (fun os e hq => by simpa [show n + (ds.length + 1) = n + 1 + ds.length by omega] using hq)
/-- a comprehension over data of one make -/
theorem sat_compM {α : Type} {tg : Tgt} {cond : Ve → Res Bool} {elt : Ve → Res O} {e : Ve} {P : List O → Ve → Prop} (enc : α → D) (xs : List α) (Q : Ve → Prop) (c : α → Bool) (f : α → O) (h0 : Q e)
    (hl : xs.length ≤ sizeLine)
    (h : ∀ x, x ∈ xs → ∀ e, Q e → ∃ e1, tg.put (enc x) (wipeE e tg.slots) = some e1 ∧ (cond e1).sat fun b e2 => b = c x ∧ if c x then (elt e2).sat fun o e3 => o = f x ∧ Q e3 else Q e2)
    (hp : ∀ e, Q e → P ((xs.filter c).map f) e) : (compGo tg cond elt (xs.map enc) [] e).sat P := by
  suffices hh : ∀ (xs : List α) (acc : List O) (e : Ve), Q e → acc.length + xs.length ≤ sizeLine → (∀ x, x ∈ xs → ∀ e, Q e → ∃ e1, tg.put (enc x) (wipeE e tg.slots) = some e1 ∧ (cond e1).sat fun b e2 => b = c x ∧ if c x then (elt e2).sat fun o e3 => o = f x ∧ Q e3 else Q e2) →
      (compGo tg cond elt (xs.map enc) acc e).sat fun os e => os = acc ++ (xs.filter c).map f ∧ Q e by
    refine rsat_mono (hh xs [] e h0 (by simpa using hl) h) fun os e hq => ?_
    obtain ⟨rfl, hq⟩ := hq
    simpa using hp e hq
  intro xs
  induction xs with
  | nil => intro acc e hq _ _; simpa [compGo, Res.sat] using hq
  | cons d ds ih =>
    intro acc e hq hl hs
    obtain ⟨e1, h1, h2⟩ := hs d (by simp) e hq
    simp only [List.length_cons] at hl
    rw [List.map_cons, compGo]; simp only [h1]
    cases hc1 : cond e1 with
    | err => rw [hc1] at h2; exact h2.elim
    | stuck => rw [hc1] at h2; exact h2.elim
    | ok b e2 =>
      rw [hc1] at h2
      obtain ⟨rfl, h2⟩ := h2
      cases hc : c d with
      | true =>
        simp only [hc, if_true] at h2 ⊢
        cases he : elt e2 with
        | err => rw [he] at h2; exact h2.elim
        | stuck => rw [he] at h2; exact h2.elim
        | ok o e3 =>
          rw [he] at h2
          obtain ⟨rfl, h2⟩ := h2
          simp only []
          rw [if_pos (by omega)]
          have := ih (acc ++ [f d]) e3 h2 (by simp; omega) (fun x hx => hs x (by simp [hx]))
          simpa [List.filter_cons, hc] using this
      | false =>
        simp only [hc] at h2 ⊢
        have := ih acc e2 (by simpa using h2) (by omega) (fun x hx => hs x (by simp [hx]))
        simpa [List.filter_cons, hc] using this
/-- a comprehension without a test -/
theorem sat_compA {α : Type} {tg : Tgt} {cond : Ve → Res Bool} {elt : Ve → Res O} {e : Ve} {P : List O → Ve → Prop} (enc : α → D) (xs : List α) (Q : Ve → Prop) (f : α → O) (h0 : Q e)
    (hl : xs.length ≤ sizeLine)
    (h : ∀ x, x ∈ xs → ∀ e, Q e → ∃ e1, tg.put (enc x) (wipeE e tg.slots) = some e1 ∧ (cond e1).sat fun b e2 => b = true ∧ (elt e2).sat fun o e3 => o = f x ∧ Q e3)
    (hp : ∀ e, Q e → P (xs.map f) e) : (compGo tg cond elt (xs.map enc) [] e).sat P :=
  sat_compM enc xs Q (fun _ => true) f h0 hl (fun x hx e hq => by simpa using h x hx e hq) (fun e hq => by rw [List.filter_eq_self.2 (fun _ _ => rfl)]; exact hp e hq)
/-- a for loop over data of one make: what is carried along is folded -/
theorem sat_forM {α β : Type} {io : Bool} {t : Tgt} {body : Ve → SRes} {e : Ve} {N : Ve → Prop} {R : O → Ve → Prop} (enc : α → D) (xs : List α) (step : β → α → β) (b : β) (Q : β → Ve → Prop) (h0 : Q b e)
    (h : ∀ x, x ∈ xs → ∀ b e, Q b e → ∃ e1, putT io t (enc x) e = some e1 ∧ (body e1).sat (Q (step b x)) R)
    (hn : ∀ e, Q (xs.foldl step b) e → N e) : (forGo io t body (xs.map enc) e).sat N R := by
  induction xs generalizing b e with
  | nil => exact hn e h0
  | cons d ds ih =>
    obtain ⟨e1, h1, h2⟩ := h d (by simp) b e h0
    rw [List.map_cons, forGo]; simp only [h1]
    cases hb : body e1 with
    | next e2 => rw [hb] at h2; exact ih (step b d) h2 (fun x hx => h x (by simp [hx])) hn
    | ret o e2 => rw [hb] at h2; exact h2
    | brk e2 => rw [hb] at h2; exact h2.elim
    | err => rw [hb] at h2; exact h2.elim
    | stuck => rw [hb] at h2; exact h2.elim
end Ev
set_option Elab.async false
set_option linter.all false
set_option maxRecDepth 100000
/-! Pd: data that can be compared and shown, by its make. -/
namespace Ev
open PySem PySem.Spec PyProof.Rows L2
structure Nice (dep blk : Nat) (d : D) : Prop where
  lay : d.canLay0 = true
  dep : d.depth ≤ dep
  sh : d.showable = true
  short : d.leavesShort 200 = true
  bulk : d.bulk ≤ blk
theorem Nice.mono {a b a' b' : Nat} {d : D} (h : Nice a b d) (ha : a ≤ a') (hb : b ≤ b') : Nice a' b' d := ⟨h.lay, Nat.le_trans h.dep ha, h.sh, h.short, Nat.le_trans h.bulk hb⟩
theorem nice_int {i : Int} (h : i.natAbs < 2 ^ 190) : Nice 0 0 (.int i) := by
  have hl : i.natAbs.log2 < 190 := by
    rcases Nat.eq_zero_or_pos i.natAbs with h0 | h0
    · rw [h0]; decide
    · exact (Nat.log2_lt (by omega)).2 h
  refine ⟨rfl, Nat.le_refl _, by simp only [PyData.showable, decide_eq_true_eq]; omega, ?_, Nat.le_refl _⟩
  simp only [PyData.leavesShort, PyData.shown]
  have := int_text_length_le (a := i) (k := 190) (by decide) hl
  refine decide_eq_true ?_
  show (Str.ofString (toString i)).cps.size ≤ 200
  rw [Str.ofString_eq_toList]
  have e : (toString i).toList.length = (toString i).length := String.length_toList
  simp only [List.size_toArray, List.length_map]
  omega
theorem nice_none : Nice 0 0 .none := ⟨rfl, Nat.le_refl _, rfl, rfl, Nat.le_refl _⟩
theorem nice_bool (b : Bool) : Nice 0 0 (.bool b) := ⟨rfl, Nat.le_refl _, rfl, rfl, Nat.le_refl _⟩
structure Nices (dep blk : Nat) (ds : List D) : Prop where
  lay : PyData.canLayAll0 ds = true
  dep : PyData.depthAll ds ≤ dep
  sh : PyData.showableAll ds = true
  short : PyData.leavesShortAll 200 ds = true
  bulk : PyData.bulkAll ds ≤ blk
theorem nices_nil (n : Nat) : Nices n 0 [] := ⟨rfl, by simp [PyData.depthAll], rfl, rfl, Nat.le_refl _⟩
theorem nices_cons {n b c : Nat} {d : D} {ds : List D} (h : Nice n b d) (hs : Nices n c ds) : Nices n (b + 1 + c) (d :: ds) :=
  ⟨by simp [PyData.canLayAll0, h.lay, hs.lay], by simp only [PyData.depthAll]; exact Nat.max_le.2 ⟨h.dep, hs.dep⟩, by simp [PyData.showableAll, h.sh, hs.sh],
   by simp [PyData.leavesShortAll, h.short, hs.short], by simp only [PyData.bulkAll]; have := h.bulk; have := hs.bulk; omega⟩
theorem nices_all {n b : Nat} : ∀ {ds : List D}, (∀ d ∈ ds, Nice n b d) → Nices n (ds.length * (b + 1)) ds
  | [], _ => by simpa using nices_nil n
  | d :: ds, h => by
    have := nices_cons (h d (by simp)) (nices_all (ds := ds) fun e he => h e (by simp [he]))
    simp only [List.length_cons]
    rwa [Nat.succ_mul, Nat.add_comm]
theorem Nices.list {n b : Nat} {ds : List D} (h : Nices n b ds) : Nice (n + 1) b (.list ds) :=
  ⟨by simpa [PyData.canLay0] using h.lay, by simp only [PyData.depth]; have := h.dep; omega, by simpa [PyData.showable] using h.sh,
   by simpa [PyData.leavesShort] using h.short, by simpa [PyData.bulk] using h.bulk⟩
theorem Nices.tuple {n b : Nat} {ds : List D} (h : Nices n b ds) : Nice (n + 1) b (.tuple ds) :=
  ⟨by simpa [PyData.canLay0] using h.lay, by simp only [PyData.depth]; have := h.dep; omega, by simpa [PyData.showable] using h.sh,
   by simpa [PyData.leavesShort] using h.short, by simpa [PyData.bulk] using h.bulk⟩
theorem Nice.shaped {n b : Nat} {d : D} (h : Nice n b d) (hn : n ≤ 64) : SeqAt.shaped d = true := by
  have := h.dep
  simp only [SeqAt.shaped, Bool.and_eq_true, decide_eq_true_eq]
  exact ⟨h.lay, by omega⟩
theorem Nice.len {n b : Nat} {d : D} (h : Nice n b d) (hb : b ≤ 80000) : d.shown.length ≤ sizeLine := by
  have h1 := PyData.shown_le_bulk 200 (by decide) d h.short
  have h2 := h.bulk
  have e : sizeLine = 16777216 := by decide
  rw [e]; omega
theorem Nice.repr {n b : Nat} {d : D} (h : Nice n b d) (hk : reprKind d = true) (hn : n ≤ 64) (hb : b ≤ 80000) : reprOk d = true := by
  simp only [reprOk, Bool.and_eq_true, decide_eq_true_eq]
  exact ⟨⟨⟨hk, h.shaped hn⟩, h.sh⟩, h.len hb⟩
-- shape alone, of ints of any size
theorem layAll_ints : ∀ l : List Int, PyData.canLayAll0 (l.map .int) = true
  | [] => rfl
  | i :: r => by simp [PyData.canLayAll0, PyData.canLay0, layAll_ints r]
theorem depAll_ints : ∀ l : List Int, PyData.depthAll (l.map .int) = 0
  | [] => rfl
  | i :: r => by simp [PyData.depthAll, PyData.depth, depAll_ints r]
theorem shaped_int (i : Int) : SeqAt.shaped (.int i) = true := rfl
theorem shaped_none : SeqAt.shaped .none = true := rfl
theorem shaped_bool (b : Bool) : SeqAt.shaped (.bool b) = true := rfl
theorem shaped_Li (l : List Int) : SeqAt.shaped (.list (l.map .int)) = true := by
  simp [SeqAt.shaped, PyData.canLay0, PyData.depth, layAll_ints, depAll_ints]
theorem shaped_Ti (l : List Int) : SeqAt.shaped (.tuple (l.map .int)) = true := by
  simp [SeqAt.shaped, PyData.canLay0, PyData.depth, layAll_ints, depAll_ints]
theorem layAll_lis : ∀ l : List (List Int), PyData.canLayAll0 (l.map fun r => .list (r.map .int)) = true
  | [] => rfl
  | i :: r => by simp [PyData.canLayAll0, PyData.canLay0, layAll_lis r, layAll_ints]
theorem depAll_lis : ∀ l : List (List Int), PyData.depthAll (l.map fun r => .list (r.map .int)) ≤ 1
  | [] => by simp [PyData.depthAll]
  | i :: r => by
    have := depAll_lis r
    simp only [List.map_cons, PyData.depthAll, PyData.depth, depAll_ints]; omega
theorem shaped_LLi (l : List (List Int)) : SeqAt.shaped (.list (l.map fun r => .list (r.map .int))) = true := by
  have := depAll_lis l
  simp only [SeqAt.shaped, PyData.canLay0, PyData.depth, layAll_lis, Bool.true_and]
  exact decide_eq_true (by omega)
theorem shaped_Lnil : SeqAt.shaped (.list []) = true := rfl
theorem shaped_Tnil : SeqAt.shaped (.tuple []) = true := rfl
theorem eqv_int (i j : Int) : PyData.eqv (.int i) (.int j) = decide (i = j) := by
  simp only [PyData.eqv]; exact Bool.beq_eq_decide_eq i j
theorem eqvAll_ints : ∀ a b : List Int, PyData.eqvAll (a.map .int) (b.map .int) = decide (a = b)
  | [], [] => rfl
  | [], _ :: _ => rfl
  | _ :: _, [] => rfl
  | x :: a, y :: b => by
    simp only [List.map_cons, PyData.eqvAll, eqv_int, eqvAll_ints a b]
    by_cases h : x = y <;> by_cases g : a = b <;> simp [h, g]
theorem eqv_Li (a b : List Int) : PyData.eqv (.list (a.map .int)) (.list (b.map .int)) = decide (a = b) := by simp only [PyData.eqv, eqvAll_ints]
theorem eqv_Ti (a b : List Int) : PyData.eqv (.tuple (a.map .int)) (.tuple (b.map .int)) = decide (a = b) := by simp only [PyData.eqv, eqvAll_ints]
theorem eqvAll_lis : ∀ a b : List (List Int), PyData.eqvAll (a.map fun r => .list (r.map .int)) (b.map fun r => .list (r.map .int)) = decide (a = b)
  | [], [] => rfl
  | [], _ :: _ => rfl
  | _ :: _, [] => rfl
  | x :: a, y :: b => by
    simp only [List.map_cons, PyData.eqvAll, eqv_Li, eqvAll_lis a b]
    by_cases h : x = y <;> by_cases g : a = b <;> simp [h, g]
theorem eqv_LLi (a b : List (List Int)) : PyData.eqv (.list (a.map fun r => .list (r.map .int))) (.list (b.map fun r => .list (r.map .int))) = decide (a = b) := by simp only [PyData.eqv, eqvAll_lis]
theorem eqvAll_nil : ∀ ds : List D, PyData.eqvAll ds [] = ds.isEmpty
  | [] => rfl
  | _ :: _ => rfl
theorem eqv_Lnil (ds : List D) : PyData.eqv (.list ds) (.list []) = ds.isEmpty := by simp only [PyData.eqv, eqvAll_nil]
theorem eqv_Tnil (ds : List D) : PyData.eqv (.tuple ds) (.tuple []) = ds.isEmpty := by simp only [PyData.eqv, eqvAll_nil]
end Ev
set_option linter.all false
namespace Lw
/-! finite abelian groups on 0 .. n-1, plainly -/
def InR (n x : Int) : Prop := 0 ≤ x ∧ x < n
structure Ab (n : Int) (add : Int → Int → Int) (ng : Int → Int) : Prop where
  pos : 0 < n
  cl : ∀ a b, InR n (add a b)
  ncl : ∀ a, InR n (ng a)
  comm : ∀ a b, add a b = add b a
  assoc : ∀ a b c, add (add a b) c = add a (add b c)
  zero : ∀ a, InR n a → add a 0 = a
  inv : ∀ a, add a (ng a) = 0
section
variable {n : Int} {add : Int → Int → Int} {ng : Int → Int} (A : Ab n add ng)
include A
theorem Ab.zero_add {a : Int} (h : InR n a) : add 0 a = a := by rw [A.comm, A.zero a h]
theorem Ab.add_sub {a : Int} (b : Int) (h : InR n a) : add (add a b) (ng b) = a := by rw [A.assoc, A.inv, A.zero a h]
theorem Ab.sub_add {a : Int} (b : Int) (h : InR n a) : add (add a (ng b)) b = a := by rw [A.assoc, A.comm (ng b), A.inv, A.zero a h]
theorem Ab.eq_sub {m a : Int} (b : Int) (hm : InR n m) (ha : InR n a) : add m b = a ↔ m = add a (ng b) := by
  constructor
  · rintro rfl; rw [A.add_sub b hm]
  · rintro rfl; rw [A.sub_add b ha]
theorem Ab.sub_zero {a b : Int} (ha : InR n a) (hb : InR n b) : add a (ng b) = 0 ↔ a = b := by
  have h0 : InR n 0 := ⟨Int.le_refl _, A.pos⟩
  constructor
  · intro h
    have := A.sub_add b ha
    rw [h, A.zero_add hb] at this
    exact this.symm
  · rintro rfl; exact A.inv _
theorem Ab.cancel {a b : Int} (c : Int) (ha : InR n a) (hb : InR n b) (h : add a c = add b c) : a = b := by
  rw [(A.eq_sub c ha (A.cl b c)).1 h, A.add_sub c hb]
theorem Ab.fold (xs : List Int) : ∀ {a : Int}, InR n a → xs.foldl add a = add a (xs.foldl add 0) := by
  have h0 : InR n 0 := ⟨Int.le_refl _, A.pos⟩
  induction xs with
  | nil => intro a h; exact (A.zero a h).symm
  | cons x xs ih =>
    intro a h
    simp only [List.foldl_cons]
    rw [ih (A.cl a x), ih (A.cl 0 x), A.comm 0 x, ← A.assoc, ← A.assoc, A.zero _ (A.cl a x)]
theorem Ab.fold_rng (xs : List Int) : InR n (xs.foldl add 0) := by
  have h0 : InR n 0 := ⟨Int.le_refl _, A.pos⟩
  cases xs with
  | nil => exact h0
  | cons x xs => rw [List.foldl_cons, A.fold xs (A.cl 0 x)]; exact A.cl _ _
theorem Ab.fold_cons {x : Int} (xs : List Int) (h : InR n x) : (x :: xs).foldl add 0 = add x (xs.foldl add 0) := by
  rw [List.foldl_cons, A.zero_add h, A.fold xs h]
theorem Ab.fold_set {y : Int} (hy : InR n y) : ∀ (xs : List Int) (k : Nat) (hk : k < xs.length), (∀ x ∈ xs, InR n x) → (xs.set k y).foldl add 0 = add (add (xs.foldl add 0) (ng xs[k])) y
  | [], _, h, _ => by simp at h
  | x :: xs, 0, _, h => by
    have hx := h x (by simp)
    rw [List.set_cons_zero, A.fold_cons xs hy, A.fold_cons xs hx]
    simp only [List.getElem_cons_zero]
    rw [A.comm x, A.add_sub x (A.fold_rng xs), A.comm]
  | x :: xs, k + 1, hk, h => by
    have hx := h x (by simp)
    have ih := Ab.fold_set hy xs k (by simpa using hk) fun z hz => h z (by simp [hz])
    rw [List.set_cons_succ, A.fold_cons _ hx, ih, A.fold_cons xs hx]
    simp only [List.getElem_cons_succ]
    rw [← A.assoc, ← A.assoc]
end
/-! sums of lists -/
def sumN (l : List Nat) : Nat := l.foldr (· + ·) 0
theorem sumN_cons (a : Nat) (l : List Nat) : sumN (a :: l) = a + sumN l := rfl
theorem sumN_nil : sumN [] = 0 := rfl
theorem sumN_append (l m : List Nat) : sumN (l ++ m) = sumN l + sumN m := by
  induction l with
  | nil => simp [sumN]
  | cons a l ih => simp only [List.cons_append, sumN_cons, ih]; omega
theorem sumN_add {α : Type} (l : List α) (f g : α → Nat) : sumN (l.map fun a => f a + g a) = sumN (l.map f) + sumN (l.map g) := by
  induction l with
  | nil => rfl
  | cons a l ih => simp only [List.map_cons, sumN_cons, ih]; omega
theorem sumN_zero {α : Type} (l : List α) : sumN (l.map fun _ => 0) = 0 := by
  induction l with
  | nil => rfl
  | cons a l ih => simp only [List.map_cons, sumN_cons, ih]
theorem sumN_const {α : Type} (l : List α) (c : Nat) : sumN (l.map fun _ => c) = l.length * c := by
  induction l with
  | nil => simp [sumN]
  | cons a l ih => simp only [List.map_cons, sumN_cons, ih, List.length_cons, Nat.succ_mul]; omega
theorem sumN_swap {α β : Type} (l : List α) (m : List β) (f : α → β → Nat) : sumN (l.map fun a => sumN (m.map (f a))) = sumN (m.map fun b => sumN (l.map fun a => f a b)) := by
  induction l with
  | nil => simp [sumN_nil, sumN_zero]
  | cons a l ih => simp only [List.map_cons, sumN_cons, ih, ← sumN_add]
theorem sumN_congr {α : Type} (l : List α) (f g : α → Nat) (h : ∀ a ∈ l, f a = g a) : sumN (l.map f) = sumN (l.map g) := by
  rw [List.map_congr_left h]
theorem sumN_perm {l m : List Nat} (h : l.Perm m) : sumN l = sumN m := by
  induction h with
  | nil => rfl
  | cons a _ ih => simp only [sumN_cons, ih]
  | swap a b l => simp only [sumN_cons]; omega
  | trans _ _ h1 h2 => exact h1.trans h2
theorem countP_flatMap {α β : Type} (p : β → Bool) (f : α → List β) (l : List α) : (l.flatMap f).countP p = sumN (l.map fun a => (f a).countP p) := by
  induction l with
  | nil => rfl
  | cons a l ih => simp only [List.flatMap_cons, List.countP_append, List.map_cons, sumN_cons, ih]
theorem countP_sum {α : Type} (p : α → Bool) (l : List α) : l.countP p = sumN (l.map fun a => if p a then 1 else 0) := by
  induction l with
  | nil => rfl
  | cons a l ih =>
    rw [List.countP_cons, ih]
    simp only [List.map_cons, sumN_cons]; omega
/-- where just one of the items is asked for -/
theorem sumN_one {α : Type} [DecidableEq α] (l : List α) (hn : l.Nodup) (a : α) (ha : a ∈ l) (x y : Nat) : sumN (l.map fun b => if b = a then x else y) = x + (l.length - 1) * y := by
  induction l with
  | nil => cases ha
  | cons b l ih =>
    rw [List.nodup_cons] at hn
    simp only [List.map_cons, sumN_cons, List.length_cons]
    by_cases h : b = a
    · subst h
      rw [if_pos rfl, sumN_congr l _ (fun _ => y) (fun c hc => by rw [if_neg (fun e : c = b => hn.1 (e ▸ hc))]), sumN_const]
      simp
    · rw [if_neg h, ih hn.2 (by rcases List.mem_cons.1 ha with e | e; exact absurd e.symm h; exact e)]
      have : 0 < l.length := by
        rcases List.mem_cons.1 ha with e | e
        · exact absurd e.symm h
        · exact List.length_pos_of_mem e
      rw [show l.length + 1 - 1 = (l.length - 1) + 1 by omega, Nat.succ_mul]; omega
/-! sets of a few things -/
def ch : Nat → Nat → Nat
  | _, 0 => 1
  | 0, _ + 1 => 0
  | n + 1, k + 1 => ch n k + ch n (k + 1)
theorem ch_z (n : Nat) : ch n 0 = 1 := by cases n <;> rfl
theorem ch_big : ∀ (n k : Nat), n < k → ch n k = 0
  | 0, 0, h => by omega
  | 0, _ + 1, _ => rfl
  | n + 1, 0, h => by omega
  | n + 1, k + 1, h => by rw [ch, ch_big n k (by omega), ch_big n (k + 1) (by omega)]
theorem ch_step : ∀ (n k : Nat), ch n (k + 1) * (k + 1) = ch n k * (n - k)
  | 0, k => by
    cases k <;> simp [ch]
  | n + 1, 0 => by
    have := ch_step n 0
    simp only [ch_z] at this ⊢
    rw [ch, ch_z]; omega
  | n + 1, k + 1 => by
    have h1 := ch_step n k
    have h2 := ch_step n (k + 1)
    rw [ch, ch]
    by_cases h : k < n
    · have e1 : n + 1 - (k + 1) = n - k := by omega
      have e2 : n - k = (n - (k + 1)) + 1 := by omega
      rw [e1]
      rw [Nat.add_mul, h2, Nat.mul_succ (ch n (k + 1)) (k + 1), h1, Nat.add_mul (ch n k) (ch n (k + 1)) (n - k)]
      rw [e2]
      simp only [Nat.mul_add, Nat.mul_one]
      omega
    · rw [ch_big n (k + 1) (by omega), ch_big n (k + 1 + 1) (by omega), show n + 1 - (k + 1) = 0 by omega]; simp
/-! in how many ways a few places come to nothing, or to a told thing -/
def wy (n : Nat) : Nat → Bool → Nat
  | 0, b => if b then 1 else 0
  | k + 1, true => (n - 1) * wy n k false
  | k + 1, false => wy n k true + (n - 2) * wy n k false
theorem wy_all (n : Nat) (h : 2 ≤ n) : ∀ k, wy n k true + (n - 1) * wy n k false = (n - 1) ^ k
  | 0 => by simp [wy]
  | k + 1 => by
    have ih := wy_all n h k
    obtain ⟨m, rfl⟩ : ∃ m, n = m + 2 := ⟨n - 2, by omega⟩
    simp only [wy, show m + 2 - 1 = m + 1 by omega, show m + 2 - 2 = m by omega] at ih ⊢
    rw [Nat.pow_succ, ← ih, Nat.mul_comm _ (m + 1), ← Nat.mul_add]
    congr 1
    have e : (m + 1) * wy (m + 2) k false = m * wy (m + 2) k false + wy (m + 2) k false := Nat.succ_mul _ _
    omega
theorem wy_step (n : Nat) (h : 2 ≤ n) (k : Nat) (b : Bool) : wy n (k + 1) b + wy n k b = (n - 1) ^ k := by
  have := wy_all n h k
  obtain ⟨m, rfl⟩ : ∃ m, n = m + 2 := ⟨n - 2, by omega⟩
  cases b
  · simp only [wy, show m + 2 - 1 = m + 1 by omega, show m + 2 - 2 = m by omega] at this ⊢
    have e : (m + 1) * wy (m + 2) k false = m * wy (m + 2) k false + wy (m + 2) k false := Nat.succ_mul _ _
    omega
  · simp only [wy]; omega
theorem wy_val (n : Nat) (h : 2 ≤ n) (b : Bool) : ∀ k, (n : Int) * wy n k b = ((n : Int) - 1) ^ k + (-1) ^ k * (if b then (n : Int) - 1 else -1)
  | 0 => by cases b <;> simp [wy]; omega
  | k + 1 => by
    have ih := wy_val n h b k
    have h1 := wy_step n h k b
    have h2 : ((wy n (k + 1) b : Nat) : Int) = ((n : Int) - 1) ^ k - wy n k b := by
      have e : (((n - 1) ^ k : Nat) : Int) = ((n : Int) - 1) ^ k := by
        rw [Int.natCast_pow]; congr 1; omega
      omega
    rw [h2, Int.mul_sub, ih, Int.pow_succ, Int.pow_succ, Int.mul_neg, Int.mul_one, Int.neg_mul, Int.mul_sub, Int.mul_one, Int.mul_comm]
    omega
end Lw
set_option linter.all false
namespace Lw
def rng (n : Nat) : List Int := (List.range n).map Int.ofNat
theorem rng_mem {n : Nat} {x : Int} : x ∈ rng n ↔ InR n x := by
  simp only [rng, List.mem_map, List.mem_range, InR]
  constructor
  · rintro ⟨k, hk, rfl⟩; simp only [Int.ofNat_eq_natCast]; omega
  · rintro ⟨h0, h1⟩; exact ⟨x.toNat, by omega, by simp only [Int.ofNat_eq_natCast]; omega⟩
theorem rng_nodup (n : Nat) : (rng n).Nodup := by
  rw [rng, List.nodup_iff_pairwise_ne, List.pairwise_map]
  exact (List.nodup_iff_pairwise_ne.1 List.nodup_range).imp fun {a b} h e => h (by simpa using Int.ofNat.inj e)
theorem rng_len (n : Nat) : (rng n).length = n := by simp [rng]
/-- what the signs stand for -/
def mems (ts : List (List Int)) (c : List Int) : List Int := (ts.zip c).map fun p => p.1.getD p.2.toNat 0
def apartN (x c : List Int) : Nat := (x.zip c).countP fun p => p.1 != p.2
def allC (n : Nat) : Nat → List (List Int)
  | 0 => [[]]
  | w + 1 => (allC n w).flatMap fun c => (rng n).map fun m => c ++ [m]
theorem allC_mem {n w : Nat} {x : List Int} (h : x ∈ allC n w) : x.length = w ∧ ∀ z ∈ x, InR n z := by
  induction w generalizing x with
  | zero =>
    simp only [allC, List.mem_singleton] at h
    subst h; exact ⟨rfl, by simp⟩
  | succ w ih =>
    simp only [allC, List.mem_flatMap, List.mem_map] at h
    obtain ⟨c, hc, m, hm, rfl⟩ := h
    have := ih hc
    refine ⟨by simp [this.1], fun z hz => ?_⟩
    rcases List.mem_append.1 hz with e | e
    · exact this.2 z e
    · rw [List.mem_singleton.1 e]; exact rng_mem.1 hm
theorem mems_snoc (ts : List (List Int)) (r : List Int) (c : List Int) (m : Int) (h : c.length = ts.length) : mems (ts ++ [r]) (c ++ [m]) = mems ts c ++ [r.getD m.toNat 0] := by
  simp only [mems, List.zip_append h.symm, List.map_append, List.zip_cons_cons, List.zip_nil_left, List.map_cons, List.map_nil]
theorem apart_snoc (x c : List Int) (m k : Int) (h : x.length = c.length) : apartN (x ++ [m]) (c ++ [k]) = apartN x c + (if m = k then 0 else 1) := by
  simp only [apartN, List.zip_append h, List.countP_append, List.zip_cons_cons, List.zip_nil_left, List.countP_cons, List.countP_nil]
  by_cases e : m = k <;> simp [e]
def cntF (N w far : Nat) (hit : Int → Bool) (m0 m : Int) : Nat := if m = m0 then ch w far * wy N far (hit m) else match far with
  | 0 => 0
  | k + 1 => ch w k * wy N k (hit m)
theorem sumN_erase {α : Type} [DecidableEq α] (l : List α) (a : α) (ha : a ∈ l) (f : α → Nat) : sumN (l.map f) = f a + sumN ((l.erase a).map f) := by
  rw [← sumN_cons, ← List.map_cons]
  exact sumN_perm ((List.perm_cons_erase ha).map f)
section
variable {n : Int} {add : Int → Int → Int} {ng : Int → Int} (A : Ab n add ng)
include A
theorem Ab.fold_snoc (xs : List Int) (y : Int) : (xs ++ [y]).foldl add 0 = add (xs.foldl add 0) y := by rw [List.foldl_append]; rfl
/-- how many numbers are so far from one and have a told sum -/
theorem Ab.cnt (N : Nat) (hN : n = N) (h2 : 2 ≤ N) : ∀ (w : Nat) (ts : List (List Int)) (c : List Int), ts.length = w → c.length = w → (∀ r ∈ ts, r.Perm (rng N)) → (∀ x ∈ c, InR n x) → ∀ (far : Nat) (g : Int), InR n g →
    (allC N w).countP (fun x => decide (apartN x c = far) && decide ((mems ts x).foldl add 0 = g)) = ch w far * wy N far (decide (g = (mems ts c).foldl add 0))
  | 0, [], [], _, _, _, _, far, g, hg => by
    simp only [allC, List.countP_cons, List.countP_nil, apartN, mems, List.zip_nil_left, List.map_nil, List.foldl_nil]
    cases far with
    | zero =>
      by_cases e : 0 = g
      · subst e; simp [ch, wy]
      · have e2 : ¬ g = 0 := fun h => e h.symm
        simp [ch, wy, e, e2]
    | succ k => simp [ch]
  | w + 1, ts, c, ht, hc, hp, hr, far, g, hg => by
    have hne : ts ≠ [] := by intro e; subst e; simp at ht
    have hnc : c ≠ [] := by intro e; subst e; simp at hc
    obtain ⟨ts, r, rfl⟩ : ∃ t r, ts = t ++ [r] := ⟨_, _, (List.dropLast_concat_getLast hne).symm⟩
    obtain ⟨c, m0, rfl⟩ : ∃ t r, c = t ++ [r] := ⟨_, _, (List.dropLast_concat_getLast hnc).symm⟩
    have ht' : ts.length = w := by simpa using ht
    have hc' : c.length = w := by simpa using hc
    have hp' : ∀ r ∈ ts, r.Perm (rng N) := fun q hq => hp q (by simp [hq])
    have hrp := hp r (by simp)
    have hr' : ∀ x ∈ c, InR n x := fun x hx => hr x (by simp [hx])
    have hm0 := hr m0 (by simp)
    have ih := Ab.cnt N hN h2 w ts c ht' hc' hp' hr'
    have hmem : ∀ m, InR n m → InR n (r.getD m.toNat 0) := fun m hm => by
      have hl : r.length = N := by rw [hrp.length_eq, rng_len]
      have hk : m.toNat < r.length := by rw [hl]; have := hm.1; have := hm.2; omega
      rw [List.getD_eq_getElem?_getD, List.getElem?_eq_getElem hk]
      have := rng_mem.1 (hrp.mem_iff.1 (List.getElem_mem hk))
      simpa [hN] using this
    -- for each last sign
    have hF : ∀ m ∈ rng N, (allC N w).countP ((fun x => decide (apartN x (c ++ [m0]) = far) && decide ((mems (ts ++ [r]) x).foldl add 0 = g)) ∘ fun x => x ++ [m]) =
        cntF N w far (fun m => decide (add g (ng (r.getD m.toNat 0)) = (mems ts c).foldl add 0)) m0 m := by
      intro m hm
      unfold cntF
      have hm := rng_mem.1 hm
      rw [← hN] at hm
      have e : ∀ x ∈ allC N w, ((fun x => decide (apartN x (c ++ [m0]) = far) && decide ((mems (ts ++ [r]) x).foldl add 0 = g)) ∘ fun x => x ++ [m]) x =
          (decide (apartN x c + (if m = m0 then 0 else 1) = far) && decide ((mems ts x).foldl add 0 = add g (ng (r.getD m.toNat 0)))) := by
        intro x hx
        obtain ⟨hl, hz⟩ := allC_mem hx
        simp only [Function.comp_apply]
        rw [apart_snoc x c m m0 (by omega), mems_snoc ts r x m (by omega), A.fold_snoc]
        congr 1
        rw [decide_eq_decide]
        exact A.eq_sub _ (A.fold_rng _) hg
      rw [List.countP_congr (q := fun x => decide (apartN x c + (if m = m0 then 0 else 1) = far) && decide ((mems ts x).foldl add 0 = add g (ng (r.getD m.toNat 0)))) (fun x hx => by rw [e x hx])]
      by_cases h : m = m0
      · simp only [h, if_true, Nat.add_zero]
        exact ih far _ (A.cl _ _)
      · simp only [if_neg h]
        cases far with
        | zero => simp
        | succ k =>
          simp only [Nat.add_right_cancel_iff]
          exact ih k _ (A.cl _ _)
    rw [allC, countP_flatMap]
    have e1 : ((allC N w).map fun a => ((rng N).map fun m => a ++ [m]).countP fun x => decide (apartN x (c ++ [m0]) = far) && decide ((mems (ts ++ [r]) x).foldl add 0 = g)) =
        (allC N w).map fun a => sumN ((rng N).map fun m => if decide (apartN (a ++ [m]) (c ++ [m0]) = far) && decide ((mems (ts ++ [r]) (a ++ [m])).foldl add 0 = g) then 1 else 0) := by
      refine List.map_congr_left fun a _ => ?_
      rw [List.countP_map, countP_sum]; rfl
    rw [e1, sumN_swap]
    refine (sumN_congr (rng N) _ (fun m => cntF N w far (fun m => decide (add g (ng (r.getD m.toNat 0)) = (mems ts c).foldl add 0)) m0 m) fun m hm => (countP_sum _ _).symm.trans (hF m hm)).trans ?_
    -- the sign that hits
    have hT := A.fold_rng (mems ts c)
    have hg' := A.cl g (ng ((mems ts c).foldl add 0))
    obtain ⟨k, hk, hkr⟩ := List.getElem_of_mem (hrp.mem_iff.2 (rng_mem.2 (show InR N (add g (ng ((mems ts c).foldl add 0))) by rw [← hN]; exact hg')))
    have hl : r.length = N := by rw [hrp.length_eq, rng_len]
    have hnd : r.Nodup := hrp.nodup_iff.2 (rng_nodup N)
    have hit : ∀ m, InR n m → (add g (ng (r.getD m.toNat 0)) = (mems ts c).foldl add 0 ↔ m = (k : Nat)) := fun m hm => by
      have hmk : m.toNat < r.length := by rw [hl]; have := hm.1; have := hm.2; omega
      have hg2 : r.getD m.toNat 0 = r[m.toNat] := by rw [List.getD_eq_getElem?_getD, List.getElem?_eq_getElem hmk]; rfl
      have h1 : add g (ng (r.getD m.toNat 0)) = (mems ts c).foldl add 0 ↔ r.getD m.toNat 0 = add g (ng ((mems ts c).foldl add 0)) := by
        constructor
        · intro h
          have := (A.eq_sub (r.getD m.toNat 0) hT hg).2 h.symm
          rw [A.comm] at this
          exact (A.eq_sub _ (hmem m hm) hg).1 this
        · intro h
          have := (A.eq_sub ((mems ts c).foldl add 0) (hmem m hm) hg).2 h
          rw [A.comm] at this
          exact ((A.eq_sub _ hT hg).1 this).symm
      rw [h1, hg2, ← hkr]
      constructor
      · intro h
        have : m.toNat = k := (List.getElem_inj hnd).1 h
        have := hm.1; omega
      · intro h
        have : m.toNat = k := by omega
        subst this; rfl
    have hkN : (k : Int) ∈ rng N := rng_mem.2 ⟨by omega, by omega⟩
    have hm0N : m0 ∈ rng N := by rw [rng_mem, ← hN]; exact hm0
    rw [sumN_erase (rng N) m0 hm0N]
    simp only [cntF, if_true]
    have hgT : (g = (mems (ts ++ [r]) (c ++ [m0])).foldl add 0) ↔ m0 = (k : Nat) := by
      rw [← hit m0 hm0, mems_snoc ts r c m0 (by omega), A.fold_snoc]
      constructor
      · intro h; exact ((A.eq_sub _ hT hg).1 h.symm).symm
      · intro h; exact ((A.eq_sub _ hT hg).2 h.symm).symm
    have hd1 : decide (add g (ng (r.getD m0.toNat 0)) = (mems ts c).foldl add 0) = decide (m0 = (k : Nat)) := decide_eq_decide.2 (hit m0 hm0)
    have hd2 : decide (g = (mems (ts ++ [r]) (c ++ [m0])).foldl add 0) = decide (m0 = (k : Nat)) := decide_eq_decide.2 hgT
    rw [hd1, hd2]
    have hel : ((rng N).erase m0).length = N - 1 := by rw [List.length_erase_of_mem hm0N, rng_len]
    cases far with
    | zero =>
      rw [sumN_congr ((rng N).erase m0) _ (fun _ => 0) (fun m hm => by rw [if_neg ((List.Nodup.mem_erase_iff (rng_nodup N)).1 hm).1]), sumN_zero]
      rw [ch_z, ch_z, Nat.add_zero]
    | succ j =>
      rw [sumN_congr ((rng N).erase m0) _ (fun m => if m = (k : Int) then ch w j * wy N j true else ch w j * wy N j false) (fun m hm => by
        have h := (List.Nodup.mem_erase_iff (rng_nodup N)).1 hm
        have hm' : InR n m := by rw [hN]; exact rng_mem.1 h.2
        rw [if_neg h.1]
        simp only []
        rw [show decide (add g (ng (r.getD m.toNat 0)) = (mems ts c).foldl add 0) = decide (m = (k : Int)) from decide_eq_decide.2 (hit m hm')]
        by_cases e : m = (k : Int) <;> simp [e])]
      rw [ch]
      by_cases e : m0 = (k : Int)
      · rw [sumN_congr ((rng N).erase m0) _ (fun _ => ch w j * wy N j false) (fun m hm => by
          have h := (List.Nodup.mem_erase_iff (rng_nodup N)).1 hm
          rw [if_neg (fun q => h.1 (q.trans e.symm))]), sumN_const, hel]
        simp only [e, decide_true, wy]
        rw [Nat.add_mul, Nat.add_comm]
        congr 1
        rw [← Nat.mul_assoc, ← Nat.mul_assoc, Nat.mul_comm (N - 1)]
      · have hin : (k : Int) ∈ (rng N).erase m0 := (List.Nodup.mem_erase_iff (rng_nodup N)).2 ⟨fun q => e q.symm, hkN⟩
        rw [sumN_one _ ((rng_nodup N).erase m0) _ hin, hel]
        simp only [e, decide_false, wy]
        rw [Nat.add_mul, Nat.add_comm]
        congr 1
        rw [show N - 1 - 1 = N - 2 by omega, Nat.mul_add, ← Nat.mul_assoc (N - 2), ← Nat.mul_assoc (ch w j), Nat.mul_comm (N - 2)]
end
end Lw
set_option linter.all false
namespace Lw
/-! Pm: members by their figures: the group, plainly -/
theorem prod_take (l : List Int) (k : Nat) (h : k < l.length) : (l.take (k + 1)).prod = (l.take k).prod * l[k] := by
  rw [List.take_succ_eq_append_getElem h, List.prod_append]; simp
theorem sum_take (l : List Int) (k : Nat) (h : k < l.length) : (l.take (k + 1)).sum = (l.take k).sum + l[k] := by
  rw [List.take_succ_eq_append_getElem h, List.sum_append]; simp
/-- the figures of a member, the last order's ahead -/
def figR : List Int → Int → List Int
  | [], _ => []
  | o :: r, m => m % o :: figR r (m / o)
def remR : List Int → Int → Int
  | [], m => m
  | o :: r, m => remR r (m / o)
def figs (os : List Int) (m : Int) : List Int := (figR os.reverse m).reverse
theorem figR_snoc (l : List Int) (o m : Int) : figR (l ++ [o]) m = figR l m ++ [remR l m % o] := by
  induction l generalizing m with
  | nil => rfl
  | cons a l ih => simp only [List.cons_append, figR, ih, remR]
theorem remR_snoc (l : List Int) (o m : Int) : remR (l ++ [o]) m = remR l m / o := by
  induction l generalizing m with
  | nil => rfl
  | cons a l ih => simp only [List.cons_append, ih, remR]
theorem figR_len (l : List Int) (m : Int) : (figR l m).length = l.length := by
  induction l generalizing m with
  | nil => rfl
  | cons a l ih => simp only [figR, List.length_cons, ih]
theorem foldl_take {α β : Type} (f : β → α → β) (a : β) (l : List α) (k : Nat) (h : k < l.length) : (l.take (k + 1)).foldl f a = f ((l.take k).foldl f a) l[k] := by
  rw [List.take_succ_eq_append_getElem h, List.foldl_append]; rfl
def mf (os xs : List Int) : Int := (os.zip xs).foldl (fun a p => a * p.1 + p.2) 0
theorem figs_len (l : List Int) (m : Int) : (figs l m).length = l.length := by simp [figs, figR_len]
def vmod (l xs : List Int) : List Int := List.zipWith (fun x o => x % o) xs l
def plus (l : List Int) (a b : Int) : Int := mf l (vmod l (List.zipWith (· + ·) (figs l a) (figs l b)))
def neg (l : List Int) (a : Int) : Int := mf l (vmod l (List.zipWith (fun o t => o - t) l (figs l a)))
def less (l : List Int) (a b : Int) : Int := plus l a (neg l b)
def tot (l xs : List Int) : Int := xs.foldl (plus l) 0
theorem zip_vmod : ∀ (l xs : List Int) (a : Int), (l.zip (vmod l xs)).foldl (fun a p => a * p.1 + p.2) a = (l.zip xs).foldl (fun a p => a * p.1 + p.2 % p.1) a
  | [], _, _ => rfl
  | _ :: _, [], _ => rfl
  | o :: l, x :: xs, a => by
    show ((l.zip (vmod l xs)).foldl (fun a p => a * p.1 + p.2) (a * o + x % o)) = _
    rw [zip_vmod l xs]; rfl
theorem zipWith_take {α β γ : Type} (f : α → β → γ) (a : List α) (b : List β) (k : Nat) (h : k < (a.zip b).length) : (List.zipWith f a b).take (k + 1) = (List.zipWith f a b).take k ++ [f (a.zip b)[k].1 (a.zip b)[k].2] := by
  rw [List.take_succ_eq_append_getElem (by simpa using h)]; simp
/-! the group: figures and members -/
/-- figures in their ranges -/
def Rng : List Int → List Int → Prop
  | [], [] => True
  | o :: l, x :: xs => 0 ≤ x ∧ x < o ∧ Rng l xs
  | _, _ => False
theorem Rng.len : ∀ {l xs : List Int}, Rng l xs → xs.length = l.length
  | [], [], _ => rfl
  | [], _ :: _, h => h.elim
  | _ :: _, [], h => h.elim
  | _ :: l, _ :: xs, h => by simp only [List.length_cons, Rng.len h.2.2]
def Pos (l : List Int) : Prop := ∀ o ∈ l, 2 ≤ o
theorem Pos.prod : ∀ {l : List Int}, Pos l → 1 ≤ l.prod
  | [], _ => by simp
  | o :: l, h => by
    have h1 := h o (by simp)
    have h2 := Pos.prod (l := l) fun z hz => h z (by simp [hz])
    simp only [List.prod_cons]
    have := Int.mul_le_mul (a := 1) (c := o) (b := 1) (d := l.prod) (by omega) h2 (by omega) (by omega)
    omega
def mfa (a : Int) (l xs : List Int) : Int := (l.zip xs).foldl (fun a p => a * p.1 + p.2) a
theorem mfa_cons (a o x : Int) (l xs : List Int) : mfa a (o :: l) (x :: xs) = mfa (a * o + x) l xs := rfl
theorem mfa_eq : ∀ (l xs : List Int) (a : Int), xs.length = l.length → mfa a l xs = a * l.prod + mf l xs
  | [], [], a, _ => by simp [mfa, mf]
  | [], _ :: _, _, h => by simp at h
  | _ :: _, [], _, h => by simp at h
  | o :: l, x :: xs, a, h => by
    have h' : xs.length = l.length := by simpa using h
    have e1 := mfa_eq l xs (a * o + x) h'
    have e2 := mfa_eq l xs (0 * o + x) h'
    rw [mfa_cons, e1]
    show _ = _ + mfa 0 (o :: l) (x :: xs)
    rw [mfa_cons, e2, List.prod_cons, Int.zero_mul, Int.zero_add, Int.add_mul, Int.mul_assoc, Int.add_assoc]
theorem mf_cons (o x : Int) (l xs : List Int) (h : xs.length = l.length) : mf (o :: l) (x :: xs) = x * l.prod + mf l xs := by
  show mfa 0 (o :: l) (x :: xs) = _
  rw [mfa_cons, mfa_eq l xs _ h, Int.zero_mul, Int.zero_add]
theorem mf_rng : ∀ {l xs : List Int}, Pos l → Rng l xs → 0 ≤ mf l xs ∧ mf l xs < l.prod
  | [], [], _, _ => by simp [mf]
  | [], _ :: _, _, h => h.elim
  | _ :: _, [], _, h => h.elim
  | o :: l, x :: xs, hp, h => by
    have hl : Pos l := fun z hz => hp z (by simp [hz])
    have ih := mf_rng hl h.2.2
    rw [mf_cons o x l xs h.2.2.len, List.prod_cons]
    have h1 : 0 ≤ x * l.prod := Int.mul_nonneg h.1 (by have := hl.prod; omega)
    have h2 : (x + 1) * l.prod ≤ o * l.prod := Int.mul_le_mul_of_nonneg_right (by have := h.2.1; omega) (by have := hl.prod; omega)
    rw [Int.add_mul, Int.one_mul] at h2
    omega
/-- figures, the first order's ahead, from what is above -/
def figL : List Int → Int → List Int
  | [], _ => []
  | o :: l, m => (m / l.prod) % o :: figL l m
theorem figL_add : ∀ (l : List Int) (m k : Int), Pos l → figL l (m + k * l.prod) = figL l m
  | [], _, _, _ => rfl
  | o :: l, m, k, h => by
    have hl : Pos l := fun z hz => h z (by simp [hz])
    have hp := hl.prod
    have e : m + k * (o * l.prod) = m + (k * o) * l.prod := by rw [Int.mul_assoc]
    simp only [figL, List.prod_cons]
    rw [e, figL_add l m (k * o) hl, Int.add_mul_ediv_right _ _ (by omega), Int.add_mul_emod_self_right]
theorem remR_rev : ∀ (l : List Int) (m : Int), Pos l → remR l.reverse m = m / l.prod
  | [], m, _ => by simp [remR]
  | o :: l, m, h => by
    have hl : Pos l := fun z hz => h z (by simp [hz])
    rw [List.reverse_cons, remR_snoc, remR_rev l m hl, List.prod_cons, Int.mul_comm o, Int.ediv_ediv_of_nonneg (by have := hl.prod; omega)]
theorem figs_eq : ∀ (l : List Int) (m : Int), Pos l → figs l m = figL l m
  | [], m, _ => rfl
  | o :: l, m, h => by
    have hl : Pos l := fun z hz => h z (by simp [hz])
    have := figs_eq l m hl
    simp only [figs] at this ⊢
    rw [List.reverse_cons, figR_snoc, List.reverse_append, remR_rev l m hl, this]; rfl
theorem figL_mf : ∀ {l xs : List Int}, Pos l → Rng l xs → figL l (mf l xs) = xs
  | [], [], _, _ => rfl
  | [], _ :: _, _, h => h.elim
  | _ :: _, [], _, h => h.elim
  | o :: l, x :: xs, hp, h => by
    have hl : Pos l := fun z hz => hp z (by simp [hz])
    have ih := mf_rng hl h.2.2
    rw [mf_cons o x l xs h.2.2.len]
    simp only [figL]
    rw [Int.add_comm (x * l.prod), figL_add l _ x hl, figL_mf hl h.2.2, Int.add_mul_ediv_right _ _ (by have := hl.prod; omega),
      Int.ediv_eq_zero_of_lt ih.1 ih.2, Int.zero_add, Int.emod_eq_of_lt h.1 h.2.1]
theorem figL_rng : ∀ (l : List Int) (m : Int), Pos l → Rng l (figL l m)
  | [], _, _ => trivial
  | o :: l, m, h => by
    have h1 := h o (by simp)
    exact ⟨Int.emod_nonneg _ (by omega), Int.emod_lt_of_pos _ (by omega), figL_rng l m fun z hz => h z (by simp [hz])⟩
theorem mf_figL : ∀ (l : List Int) (m : Int), Pos l → mf l (figL l m) = m % l.prod
  | [], m, _ => by simp [mf, figL, Int.emod_one]
  | o :: l, m, h => by
    have hl : Pos l := fun z hz => h z (by simp [hz])
    have hp := hl.prod
    simp only [figL]
    rw [mf_cons _ _ _ _ (figL_rng l m hl).len, mf_figL l m hl, List.prod_cons, Int.mul_comm o]
    have e1 := Int.emod_add_mul_ediv m l.prod
    have e2 := Int.emod_add_mul_ediv (m / l.prod) o
    have e3 := Int.emod_add_mul_ediv m (l.prod * o)
    have e4 : m / (l.prod * o) = m / l.prod / o := (Int.ediv_ediv_of_nonneg (by omega)).symm
    rw [e4] at e3
    have e5 : l.prod * o * (m / l.prod / o) = l.prod * (o * (m / l.prod / o)) := Int.mul_assoc ..
    have e6 : l.prod * (m / l.prod) = l.prod * (m / l.prod % o) + l.prod * (o * (m / l.prod / o)) := by rw [← Int.mul_add, e2]
    have e7 : (m / l.prod % o) * l.prod = l.prod * (m / l.prod % o) := Int.mul_comm ..
    omega
theorem rng_vmod : ∀ (l xs : List Int), Pos l → xs.length = l.length → Rng l (vmod l xs)
  | [], [], _, _ => trivial
  | [], _ :: _, _, h => by simp at h
  | _ :: _, [], _, h => by simp at h
  | o :: l, x :: xs, hp, h => by
    have h1 := hp o (by simp)
    exact ⟨Int.emod_nonneg _ (by omega), Int.emod_lt_of_pos _ (by omega), rng_vmod l xs (fun z hz => hp z (by simp [hz])) (by simpa using h)⟩
theorem figL_len (l : List Int) (m : Int) : (figL l m).length = l.length := by
  induction l with
  | nil => rfl
  | cons o l ih => simp only [figL, List.length_cons, ih]
abbrev vadd (l a b : List Int) : List Int := vmod l (List.zipWith (· + ·) a b)
theorem plus_eq (l : List Int) (a b : Int) (h : Pos l) : plus l a b = mf l (vadd l (figL l a) (figL l b)) := by rw [plus, figs_eq l a h, figs_eq l b h]
theorem vadd_len (l a b : List Int) (ha : a.length = l.length) (hb : b.length = l.length) : (vadd l a b).length = l.length := by simp [vadd, vmod, ha, hb]
theorem figL_plus (l : List Int) (a b : Int) (h : Pos l) : figL l (plus l a b) = vadd l (figL l a) (figL l b) := by
  rw [plus_eq l a b h, figL_mf h (rng_vmod l _ h (by simp [figL_len]))]
theorem plus_rng (l : List Int) (a b : Int) (h : Pos l) : 0 ≤ plus l a b ∧ plus l a b < l.prod := by
  rw [plus_eq l a b h]; exact mf_rng h (rng_vmod l _ h (by simp [figL_len]))
theorem vadd_comm (l a b : List Int) : vadd l a b = vadd l b a := by
  rw [vadd, vadd, List.zipWith_comm]; simp only [Int.add_comm]
theorem vadd_assoc (l a b c : List Int) (ha : a.length = l.length) (hb : b.length = l.length) (hc : c.length = l.length) : vadd l (vadd l a b) c = vadd l a (vadd l b c) := by
  apply List.ext_getElem
  · simp [vmod, ha, hb, hc]
  · intro k h1 h2
    simp only [vadd, vmod, List.getElem_zipWith]
    rw [Int.emod_add_emod, Int.add_emod_emod, Int.add_assoc]
theorem plus_comm (l : List Int) (a b : Int) : plus l a b = plus l b a := by
  have := vadd_comm l (figs l a) (figs l b)
  simp only [plus]; exact congrArg (mf l) this
theorem plus_assoc (l : List Int) (a b c : Int) (h : Pos l) : plus l (plus l a b) c = plus l a (plus l b c) := by
  rw [plus_eq l (plus l a b) c h, plus_eq l a (plus l b c) h, figL_plus l a b h, figL_plus l b c h, vadd_assoc _ _ _ _ (figL_len l a) (figL_len l b) (figL_len l c)]
theorem figL_zero (l : List Int) : figL l 0 = List.replicate l.length 0 := by
  induction l with
  | nil => rfl
  | cons o l ih => simp [figL, ih, List.replicate_succ]
theorem vmod_rng : ∀ {l xs : List Int}, Rng l xs → vmod l xs = xs
  | [], [], _ => rfl
  | [], _ :: _, h => h.elim
  | _ :: _, [], h => h.elim
  | o :: l, x :: xs, h => by
    show x % o :: vmod l xs = x :: xs
    rw [vmod_rng h.2.2, Int.emod_eq_of_lt h.1 h.2.1]
theorem plus_zero (l : List Int) (a : Int) (h : Pos l) (h0 : 0 ≤ a) (h1 : a < l.prod) : plus l a 0 = a := by
  rw [plus_eq l a 0 h]
  have e : List.zipWith (· + ·) (figL l a) (figL l 0) = figL l a := by
    apply List.ext_getElem
    · simp [figL_len]
    · intro k h2 h3; simp [figL_zero]
  rw [vadd, e, vmod_rng (figL_rng l a h), mf_figL l a h, Int.emod_eq_of_lt h0 h1]
theorem neg_eq (l : List Int) (a : Int) (h : Pos l) : neg l a = mf l (vmod l (List.zipWith (fun o t => o - t) l (figL l a))) := by rw [neg, figs_eq l a h]
theorem neg_rng (l : List Int) (a : Int) (h : Pos l) : 0 ≤ neg l a ∧ neg l a < l.prod := by
  rw [neg_eq l a h]; exact mf_rng h (rng_vmod l _ h (by simp [figL_len]))
theorem figL_neg (l : List Int) (a : Int) (h : Pos l) : figL l (neg l a) = vmod l (List.zipWith (fun o t => o - t) l (figL l a)) := by
  rw [neg_eq l a h, figL_mf h (rng_vmod l _ h (by simp [figL_len]))]
theorem mf_zero (l : List Int) (h : Pos l) : mf l (List.replicate l.length 0) = 0 := by
  rw [← figL_zero, mf_figL l 0 h, Int.zero_emod]
theorem plus_neg (l : List Int) (a : Int) (h : Pos l) : plus l a (neg l a) = 0 := by
  rw [plus_eq l a _ h, figL_neg l a h]
  have e : vadd l (figL l a) (vmod l (List.zipWith (fun o t => o - t) l (figL l a))) = List.replicate l.length 0 := by
    apply List.ext_getElem
    · simp [vmod, figL_len]
    · intro k h2 h3
      simp only [vadd, vmod, List.getElem_zipWith, List.getElem_replicate]
      rw [Int.add_emod_emod]
      rw [show (figL l a)[k]'(by simpa [figL_len, vmod] using h2) + (l[k]'(by simpa [figL_len, vmod] using h2) - (figL l a)[k]'(by simpa [figL_len, vmod] using h2)) = l[k]'(by simpa [figL_len, vmod] using h2) by omega]
      exact Int.emod_self
  rw [e, mf_zero l h]
/-- the law's way to take away is the program's -/
theorem less_law (l : List Int) (a b : Int) (h : Pos l) : mf l (vmod l (List.zipWith (· - ·) (figs l a) (figs l b))) = less l a b := by
  rw [less, plus_eq l _ _ h, figL_neg l b h, figs_eq l a h, figs_eq l b h]
  congr 1
  apply List.ext_getElem
  · simp [vmod, figL_len]
  · intro k h1 h2
    simp only [vadd, vmod, List.getElem_zipWith]
    rw [Int.add_emod_emod, ← Int.add_sub_assoc, Int.add_comm, Int.add_sub_assoc, Int.add_comm (l[k]'_), Int.add_emod_right]
theorem ab_plus {l : List Int} (h : Pos l) : Ab l.prod (plus l) (neg l) where
  pos := by have := h.prod; omega
  cl := fun a b => plus_rng l a b h
  ncl := fun a => neg_rng l a h
  comm := plus_comm l
  assoc := fun a b c => plus_assoc l a b c h
  zero := fun a ha => plus_zero l a h ha.1 ha.2
  inv := fun a => plus_neg l a h
end Lw
set_option linter.all false
namespace Lw
/-! Pm2: a sign changed; the wanted sign -/
section
variable {n : Int} {add : Int → Int → Int} {ng : Int → Int} (A : Ab n add ng)
include A
theorem Ab.move {T x y t : Int} (hT : InR n T) (hx : InR n x) (hy : InR n y) (ht : InR n t) : add (add T (ng x)) y = t ↔ y = add x (ng (add T (ng t))) := by
  have e1 : add (add T (ng x)) y = add (add y T) (ng x) := by rw [A.comm, ← A.assoc]
  have l : add (add T (ng x)) y = t ↔ add t x = add y T := by
    rw [e1]
    constructor
    · intro h; exact (A.eq_sub x ht (A.cl y T)).2 h.symm
    · intro h; exact ((A.eq_sub x ht (A.cl y T)).1 h).symm
  have r : y = add x (ng (add T (ng t))) ↔ add x t = add y T := by
    rw [← A.eq_sub (add T (ng t)) hy hx, ← A.assoc]
    constructor
    · intro h; exact (A.eq_sub t hx (A.cl y T)).2 h.symm
    · intro h; exact ((A.eq_sub t hx (A.cl y T)).1 h).symm
  rw [l, r, A.comm t x]
end
theorem mems_len (ts : List (List Int)) (c : List Int) (h : c.length = ts.length) : (mems ts c).length = ts.length := by simp [mems, h]
theorem mems_get (ts : List (List Int)) (c : List Int) (k : Nat) (hk : k < (mems ts c).length) (h1 : k < ts.length) (h2 : k < c.length) : (mems ts c)[k] = ts[k].getD c[k].toNat 0 := by simp [mems]
theorem mems_set (ts : List (List Int)) (c : List Int) (k : Nat) (m : Int) (h1 : k < ts.length) (h : c.length = ts.length) : mems ts (c.set k m) = (mems ts c).set k (ts[k].getD m.toNat 0) := by
  apply List.ext_getElem
  · simp [mems]
  · intro j h2 h3
    have hj : j < ts.length := by simp [mems] at h2; omega
    have hjc : j < c.length := by omega
    rw [mems_get _ _ _ _ hj (by simpa using hjc), List.getElem_set, List.getElem_set]
    by_cases e : k = j
    · subst e; simp
    · simp only [if_neg e]; rw [mems_get _ _ _ _ hj hjc]
theorem perm_rng {r : List Int} {N : Nat} (h : r.Perm (rng N)) : r.length = N ∧ r.Nodup ∧ ∀ m : Int, InR N m → InR N (r.getD m.toNat 0) := by
  have hl : r.length = N := by rw [h.length_eq, rng_len]
  refine ⟨hl, h.nodup_iff.2 (rng_nodup N), fun m hm => ?_⟩
  have hk : m.toNat < r.length := by rw [hl]; have := hm.1; have := hm.2; omega
  rw [List.getD_eq_getElem?_getD, List.getElem?_eq_getElem hk]
  exact rng_mem.1 (h.mem_iff.1 (List.getElem_mem hk))
/-- the place of a member in a row -/
theorem perm_idx {r : List Int} {N : Nat} (h : r.Perm (rng N)) {w : Int} (hw : InR N w) : r.idxOf w < N ∧ ∀ m : Int, InR N m → (r.getD m.toNat 0 = w ↔ m = (r.idxOf w : Int)) := by
  obtain ⟨hl, hn, _⟩ := perm_rng h
  have hm : w ∈ r := h.mem_iff.2 (rng_mem.2 hw)
  have hi : r.idxOf w < r.length := List.idxOf_lt_length_iff.2 hm
  refine ⟨by omega, fun m hm => ?_⟩
  have hk : m.toNat < r.length := by rw [hl]; have := hm.1; have := hm.2; omega
  rw [List.getD_eq_getElem?_getD, List.getElem?_eq_getElem hk]
  constructor
  · intro e
    have e' : r[m.toNat] = r[r.idxOf w] := by rw [List.getElem_idxOf hi]; exact e
    have := (List.getElem_inj hn).1 e'
    have := hm.1; omega
  · intro e
    have : m.toNat = r.idxOf w := by omega
    simp only [this, Option.getD_some]
    exact List.getElem_idxOf hi
theorem ch_le : ∀ n k : Nat, ch n k ≤ 2 ^ n
  | 0, 0 => by simp [ch]
  | 0, _ + 1 => by simp [ch]
  | n + 1, 0 => by rw [ch_z]; exact Nat.one_le_two_pow
  | n + 1, k + 1 => by
    have := ch_le n k; have := ch_le n (k + 1)
    rw [ch, Nat.pow_succ]; omega
theorem wy_le (n : Nat) (h : 2 ≤ n) (k : Nat) (b : Bool) : wy n k b ≤ (n - 1) ^ k := by
  have := wy_all n h k
  cases b
  · have h1 : 1 * wy n k false ≤ (n - 1) * wy n k false := Nat.mul_le_mul_right _ (by omega)
    omega
  · omega
theorem sgn (k : Nat) : (if ((k : Int) % 2 == 0) = true then (1 : Int) else -1) = (-1) ^ k := by
  have h : ((-1 : Int) ^ k = 1 ∧ k % 2 = 0) ∨ ((-1 : Int) ^ k = -1 ∧ k % 2 = 1) := by
    induction k with
    | zero => left; simp
    | succ k ih =>
      rcases ih with ⟨h, h2⟩ | ⟨h, h2⟩
      · right; rw [Int.pow_succ, h]; exact ⟨rfl, by omega⟩
      · left; rw [Int.pow_succ, h]; exact ⟨rfl, by omega⟩
  rcases h with ⟨h, h2⟩ | ⟨h, h2⟩
  · rw [h, if_pos]; have : ((k : Int) % 2) = 0 := by omega
    rw [this]; rfl
  · rw [h, if_neg]; have : ((k : Int) % 2) = 1 := by omega
    rw [this]; decide
end Lw
set_option linter.all false
namespace Lw
/-! Pm3: one order alone; lists in order -/
theorem plus_one (n a b : Int) : plus [n] a b = (a % n + b % n) % n := by
  simp [plus, mf, vmod, figs, figR]
theorem neg_one' (n a : Int) : neg [n] a = (n - a % n) % n := by
  simp [neg, mf, vmod, figs, figR]
theorem mems_rng (N w : Nat) (c : List Int) (hl : c.length = w) (h : ∀ x ∈ c, InR N x) : mems (List.replicate w (rng N)) c = c := by
  apply List.ext_getElem
  · simp [mems, hl]
  · intro k h1 h2
    have hx := h _ (List.getElem_mem h2)
    obtain ⟨m, hm⟩ := Int.eq_ofNat_of_zero_le hx.1
    have hmN : m < N := by have := hx.2; omega
    rw [mems_get _ _ k h1 (by simp; omega) h2]
    simp [hm, rng, hmN]
def sortL (rs : List (List Int)) : List (List Int) := rs.mergeSort fun a b => decide (a ≤ b)
theorem sortL_perm (rs : List (List Int)) : (sortL rs).Perm rs := List.mergeSort_perm _ _
theorem sortL_sorted (rs : List (List Int)) : (sortL rs).Pairwise (· ≤ ·) := by
  have := List.pairwise_mergeSort (le := fun a b : List Int => decide (a ≤ b)) (fun a b c h1 h2 => by
    simp only [decide_eq_true_eq] at *; exact List.le_trans h1 h2) (fun a b => by
    simp only [Bool.or_eq_true, decide_eq_true_eq]; exact List.le_total a b) rs
  exact this.imp fun h => by simpa using h
theorem sortL_eq {rs qs : List (List Int)} (h : rs.Perm qs) (hs : qs.Pairwise (· ≤ ·)) : sortL rs = qs :=
  ((sortL_perm rs).trans h).eq_of_pairwise (fun _ _ _ _ h1 h2 => List.le_antisymm h1 h2) (sortL_sorted rs) hs
theorem fold_zeros (l : List Int) (h : Pos l) (a : Int) (ha : InR l.prod a) : ∀ k : Nat, (List.replicate k 0).foldl (plus l) a = a
  | 0 => rfl
  | k + 1 => by rw [List.replicate_succ, List.foldl_cons, plus_zero l a h ha.1 ha.2, fold_zeros l h a ha k]
end Lw
set_option Elab.async false
set_option linter.all false
set_option maxRecDepth 100000
set_option maxHeartbeats 0
namespace Lw
open PySem PySem.Spec PyProof.Rows L2 Ev
def N_is_whole : List Str := ["value"]
def I_is_whole : List IS := [.ret (.and (.prim (.isinst "int") [.s 0]) (.prim .not [.e (.prim (.isinst "bool") [.s 0])]))]
def L_is_whole : List FnE := []
def S_is_whole : Fn := runDef L_is_whole false 1 I_is_whole
def E_is_whole : FnE := ⟨"is_whole", ["value"], false, S_is_whole⟩
def N_is_between : List Str := ["value", "low", "high"]
def I_is_between : List IS := [.ite (.prim .not [.e (.call 0 [.s 0])]) [.ret (.lit (.bool false))] [], .ret (.and (.or (.prim .isN [.s 1]) (.prim .ge [.s 0, .s 1])) (.or (.prim .isN [.s 2]) (.prim .le [.s 0, .s 2])))]
def L_is_between : List FnE := [E_is_whole]
def S_is_between : Fn := runDef L_is_between false 3 I_is_between
def E_is_between : FnE := ⟨"is_between", ["value", "low", "high"], false, S_is_between⟩
def N_check_number : List Str := ["number", "low", "high"]
def I_check_number : List IS := [.ite (.prim .not [.e (.call 0 [.s 0, .s 1, .s 2])]) [.raise "InvalidNumber" (.var 0)] []]
def L_check_number : List FnE := [E_is_between]
def S_check_number : Fn := runDef L_check_number false 3 I_check_number
def E_check_number : FnE := ⟨"check_number", ["number", "low", "high"], false, S_check_number⟩
def N_orders_fit : List Str := ["value", "item"]
def I_orders_fit : List IS := [.ite (.or (.prim .not [.e (.prim (.isinst "tuple") [.s 0])]) (.prim .eq [.s 0, .e (.tup [])])) [.ret (.lit (.bool false))] [], .ret (.prim .eq [.e (.comp (.var 1) (.one 1) (.seq (.var 0)) (some (.prim .not [.e (.call 0 [.s 1, .e (.lit (.int 2)), .e (.lit .none)])]))), .e (.lst [])])]
def L_orders_fit : List FnE := [E_is_between]
def S_orders_fit : Fn := runDef L_orders_fit false 2 I_orders_fit
def E_orders_fit : FnE := ⟨"orders_fit", ["value"], false, S_orders_fit⟩
def N_size_of : List Str := ["orders", "found", "order"]
def I_size_of : List IS := [.asg (.one (.n 1)) (.lit (.int 1)), .for (.one 2) (.seq (.var 0)) [.asg (.one (.n 1)) (.prim .mul [.s 1, .s 2])], .ret (.mv 1)]
def L_size_of : List FnE := []
def S_size_of : Fn := runDef L_size_of false 3 I_size_of
def E_size_of : FnE := ⟨"size_of", ["orders"], false, S_size_of⟩
def N_member_fits : List Str := ["orders", "value"]
def I_member_fits : List IS := [.ret (.call 0 [.s 1, .e (.lit (.int 0)), .e (.prim .sub [.e (.call 1 [.s 0]), .e (.lit (.int 1))])])]
def L_member_fits : List FnE := [E_is_between, E_size_of]
def S_member_fits : Fn := runDef L_member_fits false 2 I_member_fits
def E_member_fits : FnE := ⟨"member_fits", ["orders", "value"], false, S_member_fits⟩
def N_figures_of : List Str := ["orders", "member", "found", "order", "figure"]
def I_figures_of : List IS := [.asg (.one (.n 2)) (.tup []), .for (.one 3) (.seq (.prim .rev [.s 0])) [.asg (.many [(.n 1), (.n 4)]) (.prim .divmod [.s 1, .s 3]), .asg (.one (.n 2)) (.prim .add [.e (.tup [(.var 4)]), .e (.mv 2)])], .ret (.mv 2)]
def L_figures_of : List FnE := []
def S_figures_of : Fn := runDef L_figures_of false 5 I_figures_of
def E_figures_of : FnE := ⟨"figures_of", ["orders", "member"], false, S_figures_of⟩
def N_member_from : List Str := ["orders", "told", "found", "order", "figure"]
def I_member_from : List IS := [.asg (.one (.n 2)) (.lit (.int 0)), .for (.many [3, 4]) (.zip true (.var 0) (.var 1)) [.asg (.one (.n 2)) (.prim .add [.e (.prim .mul [.s 2, .s 3]), .s 4])], .ret (.mv 2)]
def L_member_from : List FnE := []
def S_member_from : Fn := runDef L_member_from false 5 I_member_from
def E_member_from : FnE := ⟨"member_from", ["orders", "told"], false, S_member_from⟩
def N_sum_in : List Str := ["orders", "one", "other", "low", "high", "at", "order"]
def I_sum_in : List IS := [.asg (.many [(.n 3), (.n 4)]) (.tup [(.call 0 [.s 0, .s 1]), (.call 0 [.s 0, .s 2])]), .ret (.call 1 [.s 0, .e (.comp (.prim .mod [.e (.prim .add [.e (.idx (.s 3) (.var 5)), .e (.idx (.s 4) (.var 5))]), .s 6]) (.many [5, 6]) (.enum (.var 0)) none)])]
def L_sum_in : List FnE := [E_figures_of, E_member_from]
def S_sum_in : Fn := runDef L_sum_in false 7 I_sum_in
def E_sum_in : FnE := ⟨"sum_in", ["orders", "one", "other"], false, S_sum_in⟩
def N_minus_in : List Str := ["orders", "one", "told", "at", "order"]
def I_minus_in : List IS := [.asg (.one (.n 2)) (.call 0 [.s 0, .s 1]), .ret (.call 1 [.s 0, .e (.comp (.prim .mod [.e (.prim .sub [.s 4, .e (.idx (.s 2) (.var 3))]), .s 4]) (.many [3, 4]) (.enum (.var 0)) none)])]
def L_minus_in : List FnE := [E_figures_of, E_member_from]
def S_minus_in : Fn := runDef L_minus_in false 5 I_minus_in
def E_minus_in : FnE := ⟨"minus_in", ["orders", "one"], false, S_minus_in⟩
def N_less_in : List Str := ["orders", "one", "other"]
def I_less_in : List IS := [.ret (.call 0 [.s 0, .s 1, .e (.call 1 [.s 0, .s 2])])]
def L_less_in : List FnE := [E_sum_in, E_minus_in]
def S_less_in : Fn := runDef L_less_in false 3 I_less_in
def E_less_in : FnE := ⟨"less_in", ["orders", "one", "other"], false, S_less_in⟩
def N_total_in : List Str := ["orders", "members", "found", "member"]
def I_total_in : List IS := [.asg (.one (.n 2)) (.lit (.int 0)), .for (.one 3) (.seq (.var 1)) [.asg (.one (.n 2)) (.call 0 [.s 0, .s 2, .s 3])], .ret (.mv 2)]
def L_total_in : List FnE := [E_sum_in]
def S_total_in : Fn := runDef L_total_in false 4 I_total_in
def E_total_in : FnE := ⟨"total_in", ["orders", "members"], false, S_total_in⟩
def N_row_fits : List Str := ["size", "value", "item"]
def I_row_fits : List IS := [.ite (.or (.prim .not [.e (.prim (.isinst "list") [.s 1])]) (.prim .ne [.e (.prim .len [.s 1]), .s 0])) [.ret (.lit (.bool false))] [], .ret (.prim .eq [.e (.comp (.var 2) (.one 2) (.seq (.var 1)) (some (.prim .not [.e (.call 0 [.s 2, .e (.lit (.int 0)), .e (.prim .sub [.s 0, .e (.lit (.int 1))])])]))), .e (.lst [])])]
def L_row_fits : List FnE := [E_is_between]
def S_row_fits : Fn := runDef L_row_fits false 3 I_row_fits
def E_row_fits : FnE := ⟨"row_fits", ["size", "value"], false, S_row_fits⟩
def N_table_fits : List Str := ["size", "value"]
def I_table_fits : List IS := [.ret (.and (.call 0 [.s 0, .s 1]) (.prim .eq [.e (.prim .sorted [.s 1]), .e (.prim .range1 [.s 0])]))]
def L_table_fits : List FnE := [E_row_fits]
def S_table_fits : Fn := runDef L_table_fits false 2 I_table_fits
def E_table_fits : FnE := ⟨"table_fits", ["size", "value"], false, S_table_fits⟩
def N_system_fits : List Str := ["value", "orders", "tables", "total", "table"]
def I_system_fits : List IS := [.ite (.or (.prim .not [.e (.prim (.isinst "tuple") [.s 0])]) (.or (.prim .ne [.e (.prim .len [.s 0]), .e (.lit (.int 3))]) (.prim .not [.e (.call 0 [.e (.idx (.s 0) (.lit (.int 0)))])]))) [.ret (.lit (.bool false))] [], .asg (.many [(.n 1), (.n 2), (.n 3)]) (.var 0), .ite (.or (.prim .not [.e (.prim (.isinst "list") [.s 2])]) (.or (.prim .lt [.e (.prim .len [.s 2]), .e (.lit (.int 2))]) (.prim .not [.e (.call 1 [.s 1, .s 3])]))) [.ret (.lit (.bool false))] [], .ret (.prim .eq [.e (.comp (.var 4) (.one 4) (.seq (.var 2)) (some (.prim .not [.e (.call 2 [.e (.call 3 [.s 1]), .s 4])]))), .e (.lst [])])]
def L_system_fits : List FnE := [E_orders_fit, E_member_fits, E_table_fits, E_size_of]
def S_system_fits : Fn := runDef L_system_fits false 5 I_system_fits
def E_system_fits : FnE := ⟨"system_fits", ["value"], false, S_system_fits⟩
def N_check_system : List Str := ["system"]
def I_check_system : List IS := [.ite (.prim .not [.e (.call 0 [.s 0])]) [.raise "InvalidSystem" (.var 0)] []]
def L_check_system : List FnE := [E_system_fits]
def S_check_system : Fn := runDef L_check_system false 1 I_check_system
def E_check_system : FnE := ⟨"check_system", ["system"], false, S_check_system⟩
def N_code_fits : List Str := ["system", "value", "sign"]
def I_code_fits : List IS := [.ite (.or (.prim .not [.e (.prim (.isinst "list") [.s 1])]) (.prim .ne [.e (.prim .len [.s 1]), .e (.prim .len [.e (.idx (.s 0) (.lit (.int 1)))])])) [.ret (.lit (.bool false))] [], .ret (.prim .eq [.e (.comp (.var 2) (.one 2) (.seq (.var 1)) (some (.prim .not [.e (.call 0 [.e (.idx (.s 0) (.lit (.int 0))), .s 2])]))), .e (.lst [])])]
def L_code_fits : List FnE := [E_member_fits]
def S_code_fits : Fn := runDef L_code_fits false 3 I_code_fits
def E_code_fits : FnE := ⟨"code_fits", ["system", "value"], false, S_code_fits⟩
def N_check_code : List Str := ["system", "code"]
def I_check_code : List IS := [.ex (.call 0 [.s 0]), .ite (.prim .not [.e (.call 1 [.s 0, .s 1])]) [.raise "InvalidCode" (.var 1)] []]
def L_check_code : List FnE := [E_check_system, E_code_fits]
def S_check_code : Fn := runDef L_check_code false 2 I_check_code
def E_check_code : FnE := ⟨"check_code", ["system", "code"], false, S_check_code⟩
def N_members_of : List Str := ["system", "code", "place", "sign"]
def I_members_of : List IS := [.ret (.comp (.idx (.e (.idx (.e (.idx (.s 0) (.lit (.int 1)))) (.var 2))) (.var 3)) (.many [2, 3]) (.enum (.var 1)) none)]
def L_members_of : List FnE := []
def S_members_of : Fn := runDef L_members_of false 4 I_members_of
def E_members_of : FnE := ⟨"members_of", ["system", "code"], false, S_members_of⟩
def N_sum_of_code : List Str := ["system", "code"]
def I_sum_of_code : List IS := [.ret (.call 0 [.e (.idx (.s 0) (.lit (.int 0))), .e (.call 1 [.s 0, .s 1])])]
def L_sum_of_code : List FnE := [E_total_in, E_members_of]
def S_sum_of_code : Fn := runDef L_sum_of_code false 2 I_sum_of_code
def E_sum_of_code : FnE := ⟨"sum_of_code", ["system", "code"], false, S_sum_of_code⟩
def N_off_in : List Str := ["system", "code"]
def I_off_in : List IS := [.ret (.call 0 [.e (.idx (.s 0) (.lit (.int 0))), .e (.call 1 [.s 0, .s 1]), .e (.idx (.s 0) (.lit (.int 2)))])]
def L_off_in : List FnE := [E_less_in, E_sum_of_code]
def S_off_in : Fn := runDef L_off_in false 2 I_off_in
def E_off_in : FnE := ⟨"off_in", ["system", "code"], false, S_off_in⟩
def N_wanted_in : List Str := ["system", "code", "place", "table"]
def I_wanted_in : List IS := [.asg (.one (.n 3)) (.idx (.e (.idx (.s 0) (.lit (.int 1)))) (.var 2)), .ret (.indx (.s 3) (.call 0 [.e (.idx (.s 0) (.lit (.int 0))), .e (.idx (.s 3) (.idx (.s 1) (.var 2))), .e (.call 1 [.s 0, .s 1])]))]
def L_wanted_in : List FnE := [E_less_in, E_off_in]
def S_wanted_in : Fn := runDef L_wanted_in false 4 I_wanted_in
def E_wanted_in : FnE := ⟨"wanted_in", ["system", "code", "place"], false, S_wanted_in⟩
def N_put_in : List Str := ["code", "place", "sign"]
def I_put_in : List IS := [.ret (.prim .add [.e (.prim .add [.e (.cut (.s 0) none (some (.var 1))), .e (.lst [(.var 2)])]), .e (.cut (.s 0) (some (.prim .add [.s 1, .e (.lit (.int 1))])) none)])]
def L_put_in : List FnE := []
def S_put_in : Fn := runDef L_put_in false 3 I_put_in
def E_put_in : FnE := ⟨"put_in", ["code", "place", "sign"], false, S_put_in⟩
def N_times_over : List Str := ["number", "many", "found", "_"]
def I_times_over : List IS := [.asg (.one (.n 2)) (.lit (.int 1)), .for (.one 3) (.range [(.var 1)]) [.asg (.one (.n 2)) (.prim .mul [.s 2, .s 0])], .ret (.mv 2)]
def L_times_over : List FnE := []
def S_times_over : Fn := runDef L_times_over false 4 I_times_over
def E_times_over : FnE := ⟨"times_over", ["number", "many"], false, S_times_over⟩
def N_apart_in : List Str := ["code", "other", "one", "two"]
def I_apart_in : List IS := [.ret (.prim .len [.e (.comp (.lit (.int 1)) (.many [2, 3]) (.zip true (.var 0) (.var 1)) (some (.prim .ne [.s 2, .s 3])))])]
def L_apart_in : List FnE := []
def S_apart_in : Fn := runDef L_apart_in false 4 I_apart_in
def E_apart_in : FnE := ⟨"apart_in", ["code", "other"], false, S_apart_in⟩
def N_distance : List Str := ["system", "code", "other"]
def I_distance : List IS := [.ex (.call 0 [.s 0, .s 1]), .ite (.prim .not [.e (.call 1 [.s 0, .s 2])]) [.raise "InvalidCode" (.var 2)] [], .ret (.call 2 [.s 1, .s 2])]
def L_distance : List FnE := [E_check_code, E_code_fits, E_apart_in]
def S_distance : Fn := runDef L_distance false 3 I_distance
def E_distance : FnE := ⟨"distance", ["system", "code", "other"], false, S_distance⟩
def N_sets_of : List Str := ["number", "few", "found", "at"]
def I_sets_of : List IS := [.asg (.one (.n 2)) (.lit (.int 1)), .for (.one 3) (.range [(.var 1)]) [.asg (.one (.n 2)) (.prim .fdiv [.e (.prim .mul [.s 2, .e (.prim .sub [.s 0, .s 3])]), .e (.prim .add [.s 3, .e (.lit (.int 1))])])], .ret (.mv 2)]
def L_sets_of : List FnE := []
def S_sets_of : Fn := runDef L_sets_of false 4 I_sets_of
def E_sets_of : FnE := ⟨"sets_of", ["number", "few"], false, S_sets_of⟩
def N_how_many_at : List Str := ["system", "code", "many", "places", "size", "sign", "off"]
def I_how_many_at : List IS := [.ex (.call 0 [.s 0, .s 1]), .ex (.call 1 [.s 2, .e (.lit (.int 0)), .e (.lit .none)]), .asg (.many [(.n 3), (.n 4)]) (.tup [(.prim .len [.s 1]), (.call 2 [.e (.idx (.s 0) (.lit (.int 0)))])]), .ite (.prim .gt [.s 2, .s 3]) [.ret (.lit (.int 0))] [], .asg (.one (.n 5)) (.ite (.prim .eq [.e (.prim .mod [.s 2, .e (.lit (.int 2))]), .e (.lit (.int 0))]) (.lit (.int 1)) (.prim .neg [.e (.lit (.int 1))])), .asg (.one (.n 6)) (.ite (.prim .eq [.e (.call 3 [.s 0, .s 1]), .e (.lit (.int 0))]) (.prim .sub [.s 4, .e (.lit (.int 1))]) (.prim .neg [.e (.lit (.int 1))])), .ret (.prim .fdiv [.e (.prim .mul [.e (.call 4 [.s 3, .s 2]), .e (.prim .add [.e (.call 5 [.e (.prim .sub [.s 4, .e (.lit (.int 1))]), .s 2]), .e (.prim .mul [.s 5, .s 6])])]), .s 4])]
def L_how_many_at : List FnE := [E_check_code, E_check_number, E_size_of, E_off_in, E_sets_of, E_times_over]
def S_how_many_at : Fn := runDef L_how_many_at false 7 I_how_many_at
def E_how_many_at : FnE := ⟨"how_many_at", ["system", "code", "many"], false, S_how_many_at⟩
def N_nearest_right : List Str := ["system", "code", "place"]
def I_nearest_right : List IS := [.ex (.call 0 [.s 0, .s 1]), .ite (.prim .eq [.e (.call 1 [.s 0, .s 1]), .e (.lit (.int 0))]) [.ret (.lst [(.prim .listOf [.s 1])])] [], .ret (.prim .sorted [.e (.comp (.call 2 [.s 1, .s 2, .e (.call 3 [.s 0, .s 1, .s 2])]) (.one 2) (.range [(.prim .len [.s 1])]) none)])]
def L_nearest_right : List FnE := [E_check_code, E_off_in, E_put_in, E_wanted_in]
def S_nearest_right : Fn := runDef L_nearest_right false 3 I_nearest_right
def E_nearest_right : FnE := ⟨"nearest_right", ["system", "code"], false, S_nearest_right⟩
def N__law_hash : List Str := ["seed", "index", "mixed"]
def I__law_hash : List IS := [.asg (.one (.n 2)) (.prim .mod [.e (.prim .int [.e (.prim .add [.e (.prim .add [.e (.prim .add [.e (.prim .mul [.s 0, .e (.lit (.int 1140671))]), .e (.prim .mul [.e (.prim .mul [.e (.lit (.int 27644437)), .s 1]), .s 1])]), .e (.prim .mul [.e (.lit (.int 131)), .s 1])]), .e (.lit (.int 19))])]), .e (.lit (.int 2147483629))]), .asg (.one (.n 2)) (.prim .mod [.e (.prim .int [.e (.prim .add [.e (.prim .add [.e (.prim .mul [.s 2, .s 2]), .e (.prim .mul [.e (.lit (.int 62089)), .s 1])]), .e (.lit (.int 32416187))])]), .e (.lit (.int 2147483587))]), .ret (.prim .mod [.e (.prim .int [.e (.prim .mul [.s 2, .e (.lit (.int 48271))])]), .e (.lit (.int 2147483647))])]
def L__law_hash : List FnE := []
def S__law_hash : Fn := runDef L__law_hash false 3 I__law_hash
def E__law_hash : FnE := ⟨"_law_hash", ["seed", "index"], false, S__law_hash⟩
def N__law_random : List Str := ["generator", "bound", "drawn", "turn"]
def I__law_random : List IS := [.ite (.prim .gt [.e (.idx (.s 0) (.lit (.int 0))), .e (.lit (.int 0))]) [.asg (.one (.n 2)) (.prim .mod [.e (.prim .int [.e (.idx (.s 0) (.lit (.int 0)))]), .s 1]), .asg (.one (.sub 0 (.lit (.int 0)))) (.prim .fdiv [.e (.idx (.s 0) (.lit (.int 0))), .s 1]), .ret (.mv 2)] [], .asg (.one (.n 2)) (.lit (.int 0)), .for (.one 3) (.range [(.prim .add [.e (.lit (.int 1)), .e (.prim .fdiv [.e (.prim .bitlen [.s 1]), .e (.lit (.int 30))])])]) [.asg (.one (.sub 0 (.lit (.int 2)))) (.prim .add [.e (.idx (.s 0) (.lit (.int 2))), .e (.lit (.int 1))]), .asg (.one (.n 2)) (.prim .add [.e (.prim .mul [.s 2, .e (.lit (.int 2147483587))]), .e (.call 0 [.e (.idx (.s 0) (.lit (.int 1))), .e (.idx (.s 0) (.lit (.int 2)))])])], .ret (.prim .mod [.e (.prim .int [.s 2]), .s 1])]
def L__law_random : List FnE := [E__law_hash]
def S__law_random : Fn := runDef L__law_random true 4 I__law_random
def E__law_random : FnE := ⟨"_law_random", ["generator", "bound"], true, S__law_random⟩
def N__law_cell : List Str := ["script", "index"]
def I__law_cell : List IS := [.ite (.prim .lt [.s 1, .e (.prim .len [.s 0])]) [.ret (.idx (.s 0) (.var 1))] [], .ret (.prim .mod [.e (.prim .sum [.e (.cut (.s 0) none (some (.lit (.int 1))))]), .e (.lit (.int 1000003))])]
def L__law_cell : List FnE := []
def S__law_cell : Fn := runDef L__law_cell false 2 I__law_cell
def E__law_cell : FnE := ⟨"_law_cell", ["script", "index"], false, S__law_cell⟩
def N__law_generator : List Str := ["script", "index", "seed"]
def I__law_generator : List IS := [.asg (.one (.n 2)) (.call 0 [.s 0, .s 1]), .ret (.lst [(.prim .mod [.e (.prim .int [.e (.prim .max2 [.e (.prim .sub [.s 2, .e (.prim .pow [.e (.lit (.int 10)), .e (.lit (.int 18))])]), .e (.lit (.int 0))])]), .e (.prim .pow [.e (.prim .pow [.e (.lit (.int 10)), .e (.lit (.int 60))]), .e (.lit (.int 10))])]), (.prim .mod [.e (.prim .int [.s 2]), .e (.lit (.int 2147483647))]), (.prim .mul [.e (.lit (.int 1000)), .s 1])])]
def L__law_generator : List FnE := [E__law_cell]
def S__law_generator : Fn := runDef L__law_generator false 3 I__law_generator
def E__law_generator : FnE := ⟨"_law_generator", ["script", "index"], false, S__law_generator⟩
def N__law_size : List Str := ["orders_there", "found", "order"]
def I__law_size : List IS := [.asg (.one (.n 1)) (.lit (.int 1)), .for (.one 2) (.seq (.var 0)) [.asg (.one (.n 1)) (.prim .mul [.s 1, .s 2])], .ret (.mv 1)]
def L__law_size : List FnE := []
def S__law_size : Fn := runDef L__law_size false 3 I__law_size
def E__law_size : FnE := ⟨"_law_size", ["orders_there"], false, S__law_size⟩
def N__law_parts : List Str := ["orders_there", "item", "found", "order"]
def I__law_parts : List IS := [.asg (.one (.n 2)) (.lst []), .for (.one 3) (.seq (.prim .rev [.s 0])) [.asg (.one (.n 2)) (.prim .add [.e (.lst [(.prim .mod [.e (.prim .int [.s 1]), .s 3])]), .e (.mv 2)]), .asg (.one (.n 1)) (.prim .fdiv [.s 1, .s 3])], .ret (.mv 2)]
def L__law_parts : List FnE := []
def S__law_parts : Fn := runDef L__law_parts false 4 I__law_parts
def E__law_parts : FnE := ⟨"_law_parts", ["orders_there", "item"], false, S__law_parts⟩
def N__law_from : List Str := ["orders_there", "parts", "found", "order", "part"]
def I__law_from : List IS := [.asg (.one (.n 2)) (.lit (.int 0)), .for (.many [3, 4]) (.zip false (.var 0) (.var 1)) [.asg (.one (.n 2)) (.prim .add [.e (.prim .mul [.s 2, .s 3]), .e (.prim .mod [.e (.prim .int [.s 4]), .s 3])])], .ret (.mv 2)]
def L__law_from : List FnE := []
def S__law_from : Fn := runDef L__law_from false 5 I__law_from
def E__law_from : FnE := ⟨"_law_from", ["orders_there", "parts"], false, S__law_from⟩
def N__law_plus : List Str := ["orders_there", "one", "two", "low", "high"]
def I__law_plus : List IS := [.ret (.call 0 [.s 0, .e (.comp (.prim .add [.s 3, .s 4]) (.many [3, 4]) (.zip false (.call 1 [.s 0, .s 1]) (.call 1 [.s 0, .s 2])) none)])]
def L__law_plus : List FnE := [E__law_from, E__law_parts]
def S__law_plus : Fn := runDef L__law_plus false 5 I__law_plus
def E__law_plus : FnE := ⟨"_law_plus", ["orders_there", "one", "two"], false, S__law_plus⟩
def N__law_less : List Str := ["orders_there", "one", "two", "low", "high"]
def I__law_less : List IS := [.ret (.call 0 [.s 0, .e (.comp (.prim .sub [.s 3, .s 4]) (.many [3, 4]) (.zip false (.call 1 [.s 0, .s 1]) (.call 1 [.s 0, .s 2])) none)])]
def L__law_less : List FnE := [E__law_from, E__law_parts]
def S__law_less : Fn := runDef L__law_less false 5 I__law_less
def E__law_less : FnE := ⟨"_law_less", ["orders_there", "one", "two"], false, S__law_less⟩
def N__law_off : List Str := ["system_there", "code_there", "found", "table", "mark"]
def I__law_off : List IS := [.asg (.one (.n 2)) (.lit (.int 0)), .for (.many [3, 4]) (.zip false (.idx (.s 0) (.lit (.int 1))) (.var 1)) [.asg (.one (.n 2)) (.call 0 [.e (.idx (.s 0) (.lit (.int 0))), .s 2, .e (.idx (.s 3) (.var 4))])], .ret (.call 1 [.e (.idx (.s 0) (.lit (.int 0))), .s 2, .e (.idx (.s 0) (.lit (.int 2)))])]
def L__law_off : List FnE := [E__law_plus, E__law_less]
def S__law_off : Fn := runDef L__law_off false 5 I__law_off
def E__law_off : FnE := ⟨"_law_off", ["system_there", "code_there"], false, S__law_off⟩
def N__law_shuffled : List Str := ["generator", "items", "left", "found"]
def I__law_shuffled : List IS := [.asg (.many [(.n 2), (.n 3)]) (.tup [(.prim .listOf [.s 1]), (.lst [])]), .whl (.prim .ne [.s 2, .e (.lst [])]) [.app 3 (.pop 2 (.call 0 [.s 0, .e (.prim .len [.s 2])]))], .ret (.mv 3)]
def L__law_shuffled : List FnE := [E__law_random]
def S__law_shuffled : Fn := runDef L__law_shuffled true 4 I__law_shuffled
def E__law_shuffled : FnE := ⟨"_law_shuffled", ["generator", "items"], true, S__law_shuffled⟩
def N__law_orders : List Str := ["generator"]
def I__law_orders : List IS := [.ret (.idx (.e (.lst [(.tup [(.lit (.int 2))]), (.tup [(.lit (.int 3))]), (.tup [(.lit (.int 4))]), (.tup [(.lit (.int 2)), (.lit (.int 2))]), (.tup [(.lit (.int 5))]), (.tup [(.lit (.int 6))]), (.tup [(.lit (.int 2)), (.lit (.int 3))]), (.tup [(.lit (.int 7))]), (.tup [(.lit (.int 8))]), (.tup [(.lit (.int 2)), (.lit (.int 4))]), (.tup [(.lit (.int 2)), (.lit (.int 2)), (.lit (.int 2))]), (.tup [(.lit (.int 9))]), (.tup [(.lit (.int 3)), (.lit (.int 3))]), (.tup [(.lit (.int 10))]), (.tup [(.lit (.int 2)), (.lit (.int 5))]), (.tup [(.lit (.int 12))])])) (.call 0 [.s 0, .e (.lit (.int 16))]))]
def L__law_orders : List FnE := [E__law_random]
def S__law_orders : Fn := runDef L__law_orders true 1 I__law_orders
def E__law_orders : FnE := ⟨"_law_orders", ["generator"], true, S__law_orders⟩
def N__law_system : List Str := ["generator", "orders_there", "wide", "size_there", "at"]
def I__law_system : List IS := [.asg (.one (.n 3)) (.call 0 [.s 1]), .ret (.tup [(.mv 1), (.comp (.call 1 [.s 0, .e (.prim .range1 [.s 3])]) (.one 4) (.range [(.var 2)]) none), (.call 2 [.s 0, .s 3])])]
def L__law_system : List FnE := [E__law_size, E__law_shuffled, E__law_random]
def S__law_system : Fn := runDef L__law_system true 5 I__law_system
def E__law_system : FnE := ⟨"_law_system", ["generator", "orders_there", "wide"], true, S__law_system⟩
def N__law_code : List Str := ["generator", "system_there", "table"]
def I__law_code : List IS := [.ret (.comp (.call 0 [.s 0, .e (.call 1 [.e (.idx (.s 1) (.lit (.int 0)))])]) (.one 2) (.seq (.idx (.s 1) (.lit (.int 1)))) none)]
def L__law_code : List FnE := [E__law_random, E__law_size]
def S__law_code : Fn := runDef L__law_code true 3 I__law_code
def E__law_code : FnE := ⟨"_law_code", ["generator", "system_there"], true, S__law_code⟩
def N__law_put : List Str := ["code_there", "at", "mark"]
def I__law_put : List IS := [.ret (.prim .add [.e (.prim .add [.e (.cut (.s 0) none (some (.var 1))), .e (.lst [(.var 2)])]), .e (.cut (.s 0) (some (.prim .add [.s 1, .e (.lit (.int 1))])) none)])]
def L__law_put : List FnE := []
def S__law_put : Fn := runDef L__law_put false 3 I__law_put
def E__law_put : FnE := ⟨"_law_put", ["code_there", "at", "mark"], false, S__law_put⟩
def N__law_righted : List Str := ["generator", "system_there", "code_there", "at", "mark"]
def I__law_righted : List IS := [.asg (.one (.n 2)) (.call 0 [.s 0, .s 1]), .asg (.one (.n 3)) (.call 1 [.s 0, .e (.prim .len [.s 2])]), .for (.one 4) (.range [(.call 2 [.e (.idx (.s 1) (.lit (.int 0)))])]) [.ite (.prim .eq [.e (.call 3 [.s 1, .e (.call 4 [.s 2, .s 3, .s 4])]), .e (.lit (.int 0))]) [.ret (.call 4 [.s 2, .s 3, .s 4])] []], .ret (.lit .none)]
def L__law_righted : List FnE := [E__law_code, E__law_random, E__law_size, E__law_off, E__law_put]
def S__law_righted : Fn := runDef L__law_righted true 5 I__law_righted
def E__law_righted : FnE := ⟨"_law_righted", ["generator", "system_there"], true, S__law_righted⟩
def N__law_all : List Str := ["size_there", "wide", "found", "at", "longer", "code_there", "mark"]
def I__law_all : List IS := [.asg (.one (.n 2)) (.lst [(.lst [])]), .for (.one 3) (.range [(.var 1)]) [.asg (.one (.n 4)) (.lst []), .for (.one 5) (.seq (.var 2)) [.asg (.one (.n 4)) (.prim .add [.e (.mv 4), .e (.comp (.prim .add [.s 5, .e (.lst [(.var 6)])]) (.one 6) (.range [(.var 0)]) none)])], .asg (.one (.n 2)) (.var 4)], .ret (.mv 2)]
def L__law_all : List FnE := []
def S__law_all : Fn := runDef L__law_all false 7 I__law_all
def E__law_all : FnE := ⟨"_law_all", ["size_there", "wide"], false, S__law_all⟩
def N__law_apart : List Str := ["one", "two", "at"]
def I__law_apart : List IS := [.ret (.prim .len [.e (.comp (.var 2) (.one 2) (.range [(.prim .len [.s 0])]) (some (.prim .ne [.e (.idx (.s 0) (.var 2)), .e (.idx (.s 1) (.var 2))])))])]
def L__law_apart : List FnE := []
def S__law_apart : Fn := runDef L__law_apart false 3 I__law_apart
def E__law_apart : FnE := ⟨"_law_apart", ["one", "two"], false, S__law_apart⟩
def N__law_sets : List Str := ["count", "few", "found", "at"]
def I__law_sets : List IS := [.asg (.one (.n 2)) (.lit (.int 1)), .for (.one 3) (.range [(.var 1)]) [.asg (.one (.n 2)) (.prim .fdiv [.e (.prim .mul [.s 2, .e (.prim .sub [.s 0, .s 3])]), .e (.prim .add [.s 3, .e (.lit (.int 1))])])], .ret (.mv 2)]
def L__law_sets : List FnE := []
def S__law_sets : Fn := runDef L__law_sets false 4 I__law_sets
def E__law_sets : FnE := ⟨"_law_sets", ["count", "few"], false, S__law_sets⟩
def N__law_counts : List Str := ["size_there", "wide", "right", "found", "ways", "power", "far"]
def I__law_counts : List IS := [.asg (.many [(.n 3), (.n 4), (.n 5)]) (.tup [(.lst []), (.prim .int [.s 2]), (.lit (.int 1))]), .for (.one 6) (.range [(.prim .add [.s 1, .e (.lit (.int 1))])]) [.app 3 (.prim .mul [.e (.call 0 [.s 1, .s 6]), .s 4]), .asg (.many [(.n 4), (.n 5)]) (.tup [(.prim .sub [.s 5, .s 4]), (.prim .mul [.s 5, .e (.prim .sub [.s 0, .e (.lit (.int 1))])])])], .ret (.mv 3)]
def L__law_counts : List FnE := [E__law_sets]
def S__law_counts : Fn := runDef L__law_counts false 7 I__law_counts
def E__law_counts : FnE := ⟨"_law_counts", ["size_there", "wide", "right"], false, S__law_counts⟩
def N__law_wanted : List Str := ["system_there", "code_there", "at", "mark"]
def I__law_wanted : List IS := [.ret (.idx (.e (.comp (.var 3) (.one 3) (.range [(.call 2 [.e (.idx (.s 0) (.lit (.int 0)))])]) (some (.prim .eq [.e (.call 0 [.s 0, .e (.call 1 [.s 1, .s 2, .s 3])]), .e (.lit (.int 0))])))) (.lit (.int 0)))]
def L__law_wanted : List FnE := [E__law_off, E__law_put, E__law_size]
def S__law_wanted : Fn := runDef L__law_wanted false 4 I__law_wanted
def E__law_wanted : FnE := ⟨"_law_wanted", ["system_there", "code_there", "at"], false, S__law_wanted⟩
def N__law_right : List Str := ["generator", "wide", "system_there", "size_there", "kept", "count", "at", "code_there", "given", "mate", "off", "total", "told", "far", "rights", "row", "due"]
def I__law_right : List IS := [.asg (.one (.n 2)) (.call 0 [.s 0, .e (.call 1 [.s 0]), .s 1]), .asg (.many [(.n 3), (.n 4)]) (.tup [(.call 2 [.e (.idx (.s 2) (.lit (.int 0)))]), (.prim .repr [.s 2])]), .asg (.one (.n 5)) (.lit (.int 1)), .for (.one 6) (.range [(.var 1)]) [.asg (.one (.n 5)) (.prim .mul [.s 5, .s 3])], .for (.one 7) (.seq (.lst [(.call 3 [.s 0, .s 2]), (.call 4 [.s 0, .s 2])])) [.asg (.many [(.n 8), (.n 9)]) (.tup [(.prim .repr [.s 7]), (.call 4 [.s 0, .s 2])]), .ite (.or (.prim .ne [.e (.prim .repr [.e (.call 5 [.s 2, .s 7, .s 9])]), .e (.prim .repr [.e (.call 6 [.s 7, .s 9])])]) (.prim .ne [.e (.callK 5 [2, 1, 0] [.s 9, .s 7, .s 2]), .e (.call 6 [.s 7, .s 9])])) [.ret (.lit (.bool false))] [], .asg (.many [(.n 10), (.n 11)]) (.tup [(.call 7 [.s 2, .s 7]), (.lit (.int 0))]), .asg (.one (.n 12)) (.comp (.call 8 [.s 2, .s 7, .s 13]) (.one 13) (.range [(.prim .add [.s 1, .e (.lit (.int 2))])]) none), .ite (.prim .ne [.e (.prim .repr [.s 12]), .e (.prim .repr [.e (.prim .add [.e (.call 9 [.s 3, .s 1, .e (.prim .eq [.s 10, .e (.lit (.int 0))])]), .e (.lst [(.lit (.int 0))])])])]) [.ret (.lit (.bool false))] [], .ite (.prim .lt [.s 5, .e (.lit (.int 400))]) [.asg (.one (.n 14)) (.comp (.var 15) (.one 15) (.seq (.call 10 [.s 3, .s 1])) (some (.prim .eq [.e (.call 7 [.s 2, .s 15]), .e (.lit (.int 0))]))), .ite (.prim .ne [.e (.prim .repr [.s 12]), .e (.prim .repr [.e (.comp (.prim .len [.e (.comp (.var 15) (.one 15) (.seq (.var 14)) (some (.prim .eq [.e (.call 6 [.s 15, .s 7]), .s 13])))]) (.one 13) (.range [(.prim .add [.s 1, .e (.lit (.int 2))])]) none)])]) [.ret (.lit (.bool false))] []] [], .asg (.one (.n 16)) (.lst [(.var 7)]), .ite (.prim .ne [.s 10, .e (.lit (.int 0))]) [.asg (.one (.n 16)) (.prim .sorted [.e (.comp (.call 11 [.s 7, .s 6, .e (.call 12 [.s 2, .s 7, .s 6])]) (.one 6) (.range [(.var 1)]) none)])] [], .ite (.or (.prim .ne [.e (.prim .repr [.e (.call 13 [.s 2, .s 7])]), .e (.prim .repr [.s 16])]) (.prim .ne [.e (.callK 13 [1, 0] [.s 7, .s 2]), .s 16])) [.ret (.lit (.bool false))] [], .ite (.or (.prim .ne [.e (.callK 8 [2, 1, 0] [.e (.lit (.int 2)), .s 7, .s 2]), .e (.idx (.s 12) (.lit (.int 2)))]) (.prim .ne [.e (.prim .repr [.s 7]), .s 8])) [.ret (.lit (.bool false))] [], .appE (.idx (.e (.call 13 [.s 2, .s 7])) (.lit (.int 0))) (.lit .none), .ite (.or (.prim .ne [.e (.prim .repr [.e (.call 13 [.s 2, .s 7])]), .e (.prim .repr [.s 16])]) (.prim .ne [.e (.prim .repr [.s 7]), .s 8])) [.ret (.lit (.bool false))] []], .ret (.prim .eq [.e (.prim .repr [.s 2]), .s 4])]
def L__law_right : List FnE := [E__law_system, E__law_orders, E__law_size, E__law_righted, E__law_code, E_distance, E__law_apart, E__law_off, E_how_many_at, E__law_counts, E__law_all, E__law_put, E__law_wanted, E_nearest_right]
def S__law_right : Fn := runDef L__law_right true 17 I__law_right
def E__law_right : FnE := ⟨"_law_right", ["generator", "wide"], true, S__law_right⟩
def N__law_great_right : List Str := ["generator", "size_there", "wide", "system_there", "nought", "one", "noughts", "others", "far", "sets_there", "due", "at"]
def I__law_great_right : List IS := [.asg (.many [(.n 1), (.n 2)]) (.tup [(.prim .add [.e (.lit (.int 2)), .e (.call 0 [.s 0, .e (.lit (.int 39))])]), (.prim .add [.e (.lit (.int 2)), .e (.call 0 [.s 0, .e (.lit (.int 39))])])]), .asg (.one (.n 3)) (.tup [(.tup [(.var 1)]), (.prim .mul [.e (.lst [(.prim .range1 [.s 1])]), .s 2]), (.lit (.int 0))]), .asg (.many [(.n 4), (.n 5)]) (.tup [(.prim .mul [.e (.lst [(.lit (.int 0))]), .s 2]), (.prim .add [.e (.lst [(.lit (.int 1))]), .e (.prim .mul [.e (.lst [(.lit (.int 0))]), .e (.prim .sub [.s 2, .e (.lit (.int 1))])])])]), .asg (.many [(.n 6), (.n 7)]) (.tup [(.lit (.int 1)), (.lit (.int 0))]), .for (.one 8) (.range [(.prim .add [.s 2, .e (.lit (.int 1))])]) [.asg (.one (.n 9)) (.call 1 [.s 2, .s 8]), .ite (.or (.prim .ne [.e (.call 2 [.s 3, .s 4, .s 8]), .e (.prim .mul [.s 9, .s 6])]) (.prim .ne [.e (.call 2 [.s 3, .s 5, .s 8]), .e (.prim .mul [.s 9, .s 7])])) [.ret (.lit (.bool false))] [], .asg (.many [(.n 6), (.n 7)]) (.tup [(.prim .mul [.e (.prim .sub [.s 1, .e (.lit (.int 1))]), .s 7]), (.prim .add [.s 6, .e (.prim .mul [.e (.prim .sub [.s 1, .e (.lit (.int 2))]), .s 7])])])], .asg (.one (.n 10)) (.prim .sorted [.e (.prim .add [.e (.lst [(.var 4)]), .e (.comp (.prim .add [.e (.prim .add [.e (.cut (.s 5) none (some (.var 11))), .e (.lst [(.prim .sub [.s 1, .e (.lit (.int 1))])])]), .e (.cut (.s 5) (some (.prim .add [.s 11, .e (.lit (.int 1))])) none)]) (.one 11) (.range [(.lit (.int 1)), (.var 2)]) none)])]), .ite (.or (.prim .ne [.e (.call 3 [.s 3, .s 4]), .e (.lst [(.var 4)])]) (.prim .ne [.e (.call 3 [.s 3, .s 5]), .s 10])) [.ret (.lit (.bool false))] [], .ret (.prim .eq [.e (.call 2 [.s 3, .s 4, .e (.prim .pow [.e (.lit (.int 10)), .e (.lit (.int 20))])]), .e (.lit (.int 0))])]
def L__law_great_right : List FnE := [E__law_random, E__law_sets, E_how_many_at, E_nearest_right]
def S__law_great_right : Fn := runDef L__law_great_right true 12 I__law_great_right
def E__law_great_right : FnE := ⟨"_law_great_right", ["generator"], true, S__law_great_right⟩
def N_law : List Str := ["script", "index", "up", "three", "goods", "wrong", "told", "far"]
def I_law : List IS := [.for (.one 1) (.range [(.lit (.int 4))]) [.ite (.prim .not [.e (.call 0 [.e (.call 1 [.s 0, .s 1]), .e (.idx (.e (.lst [(.lit (.int 2)), (.lit (.int 3)), (.lit (.int 4)), (.lit (.int 5))])) (.var 1))])]) [.ret (.lit (.bool false))] []], .asg (.many [(.n 2), (.n 3)]) (.tup [(.prim .range1 [.e (.lit (.int 10))]), (.lst [(.lit (.int 0)), (.lit (.int 3)), (.lit (.int 6)), (.lit (.int 9)), (.lit (.int 2)), (.lit (.int 5)), (.lit (.int 8)), (.lit (.int 1)), (.lit (.int 4)), (.lit (.int 7))])]), .asg (.many [(.n 4), (.n 5)]) (.tup [(.tup [(.tup [(.lit (.int 10))]), (.lst [(.var 2), (.var 3), (.var 2), (.var 3)]), (.lit (.int 0))]), (.lst [(.lit (.int 1)), (.lit (.int 2)), (.lit (.int 3)), (.lit (.int 4))])]), .asg (.one (.n 6)) (.lst [(.call 2 [.s 4, .s 5, .e (.lst [(.lit (.int 1)), (.lit (.int 2)), (.lit (.int 0)), (.lit (.int 0))])]), (.comp (.call 3 [.s 4, .s 5, .s 7]) (.one 7) (.range [(.lit (.int 6))]) none), (.call 4 [.s 4, .s 5]), (.call 4 [.s 4, .e (.lst [(.lit (.int 1)), (.lit (.int 2)), (.lit (.int 3)), (.lit (.int 0))])])]), .ret (.and (.prim .eq [.s 6, .e (.lst [(.lit (.int 2)), (.lst [(.lit (.int 0)), (.lit (.int 4)), (.lit (.int 48)), (.lit (.int 292)), (.lit (.int 656)), (.lit (.int 0))]), (.lst [(.lst [(.lit (.int 1)), (.lit (.int 2)), (.lit (.int 1)), (.lit (.int 4))]), (.lst [(.lit (.int 1)), (.lit (.int 2)), (.lit (.int 3)), (.lit (.int 0))]), (.lst [(.lit (.int 1)), (.lit (.int 8)), (.lit (.int 3)), (.lit (.int 4))]), (.lst [(.lit (.int 9)), (.lit (.int 2)), (.lit (.int 3)), (.lit (.int 4))])]), (.lst [(.lst [(.lit (.int 1)), (.lit (.int 2)), (.lit (.int 3)), (.lit (.int 0))])])])]) (.call 5 [.e (.call 1 [.s 0, .e (.lit (.int 4))])]))]
def L_law : List FnE := [E__law_right, E__law_generator, E_distance, E_how_many_at, E_nearest_right, E__law_great_right]
def S_law : Fn := runDef L_law false 8 I_law
def E_law : FnE := ⟨"law", ["script"], false, S_law⟩
abbrev pw : Program := PySem.Challenge.pw_checkwright_k61_whole_distances
def top (i : Nat) : Stmt := pw.main.body.getD i (.Pass ⟨0, 0, 0, 0⟩)
def mkD (i : Nat) (x : Str) : He.DefD := ⟨(x, none), x, x, defArgs (top i), defBody (top i), defScope (top i), [], []⟩
def G0 : List Str := ["len", "sum", "min", "max", "divmod", "repr", "sorted", "int", "list", "tuple", "isinstance", "range", "enumerate", "zip", "bool", "str", "dict"]
def fn : List He.DefD := [mkD 6 "is_whole", mkD 7 "is_between", mkD 8 "check_number", mkD 9 "orders_fit", mkD 10 "size_of", mkD 11 "member_fits", mkD 12 "figures_of", mkD 13 "member_from", mkD 14 "sum_in", mkD 15 "minus_in", mkD 16 "less_in", mkD 17 "total_in", mkD 19 "row_fits", mkD 20 "table_fits", mkD 21 "system_fits", mkD 22 "check_system", mkD 23 "code_fits", mkD 24 "check_code", mkD 25 "members_of", mkD 26 "sum_of_code", mkD 28 "off_in", mkD 29 "wanted_in", mkD 30 "put_in", mkD 31 "times_over", mkD 33 "apart_in", mkD 34 "distance", mkD 35 "sets_of", mkD 36 "how_many_at", mkD 37 "nearest_right", mkD 39 "_law_hash", mkD 40 "_law_random", mkD 41 "_law_cell", mkD 42 "_law_generator", mkD 43 "_law_size", mkD 44 "_law_parts", mkD 45 "_law_from", mkD 46 "_law_plus", mkD 47 "_law_less", mkD 48 "_law_off", mkD 49 "_law_shuffled", mkD 50 "_law_orders", mkD 51 "_law_system", mkD 52 "_law_code", mkD 53 "_law_put", mkD 54 "_law_righted", mkD 55 "_law_all", mkD 56 "_law_apart", mkD 59 "_law_sets", mkD 60 "_law_counts", mkD 58 "_law_wanted", mkD 57 "_law_right", mkD 61 "_law_great_right", mkD 62 "law"]
def gl : List Str := (["is_whole", "is_between", "check_number", "orders_fit", "size_of", "member_fits", "figures_of", "member_from", "sum_in", "minus_in", "less_in", "total_in", "row_fits", "table_fits", "system_fits", "check_system", "code_fits", "check_code", "members_of", "sum_of_code", "off_in", "wanted_in", "put_in", "times_over", "apart_in", "distance", "sets_of", "how_many_at", "nearest_right", "_law_hash"] : List Str) ++ (["_law_random", "_law_cell", "_law_generator", "_law_size", "_law_parts", "_law_from", "_law_plus", "_law_less", "_law_off", "_law_shuffled", "_law_orders", "_law_system", "_law_code", "_law_put", "_law_righted", "_law_all", "_law_apart", "_law_sets", "_law_counts", "_law_wanted", "_law_right", "_law_great_right", "law"] : List Str)
def fa : List He.Fa := gl.map He.Fa.glo ++ G0.map He.Fa.free
theorem fa_free : ∀ x ∈ G0, He.Fa.free x ∈ fa := fun x m => List.mem_append_right _ (List.mem_map_of_mem m)
def g_is_whole : List Sig := []
theorem k_is_whole : chSs ⟨N_is_whole, defScope (top 6), fun _ => true, g_is_whole, G0⟩ false I_is_whole (defBody (top 6)) = true := by decide +kernel
def g_is_between : List Sig := [("is_whole", E_is_whole.ps, [])]
theorem k_is_between : chSs ⟨N_is_between, defScope (top 7), fun _ => true, g_is_between, G0⟩ false I_is_between (defBody (top 7)) = true := by decide +kernel
def g_check_number : List Sig := [("is_between", E_is_between.ps, [])]
theorem k_check_number : chSs ⟨N_check_number, defScope (top 8), fun _ => true, g_check_number, G0⟩ false I_check_number (defBody (top 8)) = true := by decide +kernel
def g_orders_fit : List Sig := [("is_between", E_is_between.ps, [])]
theorem k_orders_fit : chSs ⟨N_orders_fit, defScope (top 9), fun _ => true, g_orders_fit, G0⟩ false I_orders_fit (defBody (top 9)) = true := by decide +kernel
def g_size_of : List Sig := []
theorem k_size_of : chSs ⟨N_size_of, defScope (top 10), fun _ => true, g_size_of, G0⟩ false I_size_of (defBody (top 10)) = true := by decide +kernel
def g_member_fits : List Sig := [("is_between", E_is_between.ps, []), ("size_of", E_size_of.ps, [])]
theorem k_member_fits : chSs ⟨N_member_fits, defScope (top 11), fun _ => true, g_member_fits, G0⟩ false I_member_fits (defBody (top 11)) = true := by decide +kernel
def g_figures_of : List Sig := []
theorem k_figures_of : chSs ⟨N_figures_of, defScope (top 12), fun _ => true, g_figures_of, G0⟩ false I_figures_of (defBody (top 12)) = true := by decide +kernel
def g_member_from : List Sig := []
theorem k_member_from : chSs ⟨N_member_from, defScope (top 13), fun _ => true, g_member_from, G0⟩ false I_member_from (defBody (top 13)) = true := by decide +kernel
def g_sum_in : List Sig := [("figures_of", E_figures_of.ps, []), ("member_from", E_member_from.ps, [])]
theorem k_sum_in : chSs ⟨N_sum_in, defScope (top 14), fun _ => true, g_sum_in, G0⟩ false I_sum_in (defBody (top 14)) = true := by decide +kernel
def g_minus_in : List Sig := [("figures_of", E_figures_of.ps, []), ("member_from", E_member_from.ps, [])]
theorem k_minus_in : chSs ⟨N_minus_in, defScope (top 15), fun _ => true, g_minus_in, G0⟩ false I_minus_in (defBody (top 15)) = true := by decide +kernel
def g_less_in : List Sig := [("sum_in", E_sum_in.ps, []), ("minus_in", E_minus_in.ps, [])]
theorem k_less_in : chSs ⟨N_less_in, defScope (top 16), fun _ => true, g_less_in, G0⟩ false I_less_in (defBody (top 16)) = true := by decide +kernel
def g_total_in : List Sig := [("sum_in", E_sum_in.ps, [])]
theorem k_total_in : chSs ⟨N_total_in, defScope (top 17), fun _ => true, g_total_in, G0⟩ false I_total_in (defBody (top 17)) = true := by decide +kernel
def g_row_fits : List Sig := [("is_between", E_is_between.ps, [])]
theorem k_row_fits : chSs ⟨N_row_fits, defScope (top 19), fun _ => true, g_row_fits, G0⟩ false I_row_fits (defBody (top 19)) = true := by decide +kernel
def g_table_fits : List Sig := [("row_fits", E_row_fits.ps, [])]
theorem k_table_fits : chSs ⟨N_table_fits, defScope (top 20), fun _ => true, g_table_fits, G0⟩ false I_table_fits (defBody (top 20)) = true := by decide +kernel
def g_system_fits : List Sig := [("orders_fit", E_orders_fit.ps, []), ("member_fits", E_member_fits.ps, []), ("table_fits", E_table_fits.ps, []), ("size_of", E_size_of.ps, [])]
theorem k_system_fits : chSs ⟨N_system_fits, defScope (top 21), fun _ => true, g_system_fits, G0⟩ false I_system_fits (defBody (top 21)) = true := by decide +kernel
def g_check_system : List Sig := [("system_fits", E_system_fits.ps, [])]
theorem k_check_system : chSs ⟨N_check_system, defScope (top 22), fun _ => true, g_check_system, G0⟩ false I_check_system (defBody (top 22)) = true := by decide +kernel
def g_code_fits : List Sig := [("member_fits", E_member_fits.ps, [])]
theorem k_code_fits : chSs ⟨N_code_fits, defScope (top 23), fun _ => true, g_code_fits, G0⟩ false I_code_fits (defBody (top 23)) = true := by decide +kernel
def g_check_code : List Sig := [("check_system", E_check_system.ps, []), ("code_fits", E_code_fits.ps, [])]
theorem k_check_code : chSs ⟨N_check_code, defScope (top 24), fun _ => true, g_check_code, G0⟩ false I_check_code (defBody (top 24)) = true := by decide +kernel
def g_members_of : List Sig := []
theorem k_members_of : chSs ⟨N_members_of, defScope (top 25), fun _ => true, g_members_of, G0⟩ false I_members_of (defBody (top 25)) = true := by decide +kernel
def g_sum_of_code : List Sig := [("total_in", E_total_in.ps, []), ("members_of", E_members_of.ps, [])]
theorem k_sum_of_code : chSs ⟨N_sum_of_code, defScope (top 26), fun _ => true, g_sum_of_code, G0⟩ false I_sum_of_code (defBody (top 26)) = true := by decide +kernel
def g_off_in : List Sig := [("less_in", E_less_in.ps, []), ("sum_of_code", E_sum_of_code.ps, [])]
theorem k_off_in : chSs ⟨N_off_in, defScope (top 28), fun _ => true, g_off_in, G0⟩ false I_off_in (defBody (top 28)) = true := by decide +kernel
def g_wanted_in : List Sig := [("less_in", E_less_in.ps, []), ("off_in", E_off_in.ps, [])]
theorem k_wanted_in : chSs ⟨N_wanted_in, defScope (top 29), fun _ => true, g_wanted_in, G0⟩ false I_wanted_in (defBody (top 29)) = true := by decide +kernel
def g_put_in : List Sig := []
theorem k_put_in : chSs ⟨N_put_in, defScope (top 30), fun _ => true, g_put_in, G0⟩ false I_put_in (defBody (top 30)) = true := by decide +kernel
def g_times_over : List Sig := []
theorem k_times_over : chSs ⟨N_times_over, defScope (top 31), fun _ => true, g_times_over, G0⟩ false I_times_over (defBody (top 31)) = true := by decide +kernel
def g_apart_in : List Sig := []
theorem k_apart_in : chSs ⟨N_apart_in, defScope (top 33), fun _ => true, g_apart_in, G0⟩ false I_apart_in (defBody (top 33)) = true := by decide +kernel
def g_distance : List Sig := [("check_code", E_check_code.ps, []), ("code_fits", E_code_fits.ps, []), ("apart_in", E_apart_in.ps, [])]
theorem k_distance : chSs ⟨N_distance, defScope (top 34), fun _ => true, g_distance, G0⟩ false I_distance (defBody (top 34)) = true := by decide +kernel
def g_sets_of : List Sig := []
theorem k_sets_of : chSs ⟨N_sets_of, defScope (top 35), fun _ => true, g_sets_of, G0⟩ false I_sets_of (defBody (top 35)) = true := by decide +kernel
def g_how_many_at : List Sig := [("check_code", E_check_code.ps, []), ("check_number", E_check_number.ps, []), ("size_of", E_size_of.ps, []), ("off_in", E_off_in.ps, []), ("sets_of", E_sets_of.ps, []), ("times_over", E_times_over.ps, [])]
theorem k_how_many_at : chSs ⟨N_how_many_at, defScope (top 36), fun _ => true, g_how_many_at, G0⟩ false I_how_many_at (defBody (top 36)) = true := by decide +kernel
def g_nearest_right : List Sig := [("check_code", E_check_code.ps, []), ("off_in", E_off_in.ps, []), ("put_in", E_put_in.ps, []), ("wanted_in", E_wanted_in.ps, [])]
theorem k_nearest_right : chSs ⟨N_nearest_right, defScope (top 37), fun _ => true, g_nearest_right, G0⟩ false I_nearest_right (defBody (top 37)) = true := by decide +kernel
def g__law_hash : List Sig := []
theorem k__law_hash : chSs ⟨N__law_hash, defScope (top 39), fun _ => true, g__law_hash, G0⟩ false I__law_hash (defBody (top 39)) = true := by decide +kernel
def g__law_random : List Sig := [("_law_hash", E__law_hash.ps, [])]
theorem k__law_random : chSs ⟨N__law_random, defScope (top 40), fun _ => true, g__law_random, G0⟩ true I__law_random (defBody (top 40)) = true := by decide +kernel
def g__law_cell : List Sig := []
theorem k__law_cell : chSs ⟨N__law_cell, defScope (top 41), fun _ => true, g__law_cell, G0⟩ false I__law_cell (defBody (top 41)) = true := by decide +kernel
def g__law_generator : List Sig := [("_law_cell", E__law_cell.ps, [])]
theorem k__law_generator : chSs ⟨N__law_generator, defScope (top 42), fun _ => true, g__law_generator, G0⟩ false I__law_generator (defBody (top 42)) = true := by decide +kernel
def g__law_size : List Sig := []
theorem k__law_size : chSs ⟨N__law_size, defScope (top 43), fun _ => true, g__law_size, G0⟩ false I__law_size (defBody (top 43)) = true := by decide +kernel
def g__law_parts : List Sig := []
theorem k__law_parts : chSs ⟨N__law_parts, defScope (top 44), fun _ => true, g__law_parts, G0⟩ false I__law_parts (defBody (top 44)) = true := by decide +kernel
def g__law_from : List Sig := []
theorem k__law_from : chSs ⟨N__law_from, defScope (top 45), fun _ => true, g__law_from, G0⟩ false I__law_from (defBody (top 45)) = true := by decide +kernel
def g__law_plus : List Sig := [("_law_from", E__law_from.ps, []), ("_law_parts", E__law_parts.ps, [])]
theorem k__law_plus : chSs ⟨N__law_plus, defScope (top 46), fun _ => true, g__law_plus, G0⟩ false I__law_plus (defBody (top 46)) = true := by decide +kernel
def g__law_less : List Sig := [("_law_from", E__law_from.ps, []), ("_law_parts", E__law_parts.ps, [])]
theorem k__law_less : chSs ⟨N__law_less, defScope (top 47), fun _ => true, g__law_less, G0⟩ false I__law_less (defBody (top 47)) = true := by decide +kernel
def g__law_off : List Sig := [("_law_plus", E__law_plus.ps, []), ("_law_less", E__law_less.ps, [])]
theorem k__law_off : chSs ⟨N__law_off, defScope (top 48), fun _ => true, g__law_off, G0⟩ false I__law_off (defBody (top 48)) = true := by decide +kernel
def g__law_shuffled : List Sig := [("_law_random", E__law_random.ps, [])]
theorem k__law_shuffled : chSs ⟨N__law_shuffled, defScope (top 49), fun _ => true, g__law_shuffled, G0⟩ true I__law_shuffled (defBody (top 49)) = true := by decide +kernel
def g__law_orders : List Sig := [("_law_random", E__law_random.ps, [])]
theorem k__law_orders : chSs ⟨N__law_orders, defScope (top 50), fun _ => true, g__law_orders, G0⟩ true I__law_orders (defBody (top 50)) = true := by decide +kernel
def g__law_system : List Sig := [("_law_size", E__law_size.ps, []), ("_law_shuffled", E__law_shuffled.ps, []), ("_law_random", E__law_random.ps, [])]
theorem k__law_system : chSs ⟨N__law_system, defScope (top 51), fun _ => true, g__law_system, G0⟩ true I__law_system (defBody (top 51)) = true := by decide +kernel
def g__law_code : List Sig := [("_law_random", E__law_random.ps, []), ("_law_size", E__law_size.ps, [])]
theorem k__law_code : chSs ⟨N__law_code, defScope (top 52), fun _ => true, g__law_code, G0⟩ true I__law_code (defBody (top 52)) = true := by decide +kernel
def g__law_put : List Sig := []
theorem k__law_put : chSs ⟨N__law_put, defScope (top 53), fun _ => true, g__law_put, G0⟩ false I__law_put (defBody (top 53)) = true := by decide +kernel
def g__law_righted : List Sig := [("_law_code", E__law_code.ps, []), ("_law_random", E__law_random.ps, []), ("_law_size", E__law_size.ps, []), ("_law_off", E__law_off.ps, []), ("_law_put", E__law_put.ps, [])]
theorem k__law_righted : chSs ⟨N__law_righted, defScope (top 54), fun _ => true, g__law_righted, G0⟩ true I__law_righted (defBody (top 54)) = true := by decide +kernel
def g__law_all : List Sig := []
theorem k__law_all : chSs ⟨N__law_all, defScope (top 55), fun _ => true, g__law_all, G0⟩ false I__law_all (defBody (top 55)) = true := by decide +kernel
def g__law_apart : List Sig := []
theorem k__law_apart : chSs ⟨N__law_apart, defScope (top 56), fun _ => true, g__law_apart, G0⟩ false I__law_apart (defBody (top 56)) = true := by decide +kernel
def g__law_sets : List Sig := []
theorem k__law_sets : chSs ⟨N__law_sets, defScope (top 59), fun _ => true, g__law_sets, G0⟩ false I__law_sets (defBody (top 59)) = true := by decide +kernel
def g__law_counts : List Sig := [("_law_sets", E__law_sets.ps, [])]
theorem k__law_counts : chSs ⟨N__law_counts, defScope (top 60), fun _ => true, g__law_counts, G0⟩ false I__law_counts (defBody (top 60)) = true := by decide +kernel
def g__law_wanted : List Sig := [("_law_off", E__law_off.ps, []), ("_law_put", E__law_put.ps, []), ("_law_size", E__law_size.ps, [])]
theorem k__law_wanted : chSs ⟨N__law_wanted, defScope (top 58), fun _ => true, g__law_wanted, G0⟩ false I__law_wanted (defBody (top 58)) = true := by decide +kernel
def g__law_right : List Sig := [("_law_system", E__law_system.ps, []), ("_law_orders", E__law_orders.ps, []), ("_law_size", E__law_size.ps, []), ("_law_righted", E__law_righted.ps, []), ("_law_code", E__law_code.ps, []), ("distance", E_distance.ps, [[2, 1, 0]]), ("_law_apart", E__law_apart.ps, []), ("_law_off", E__law_off.ps, []), ("how_many_at", E_how_many_at.ps, [[2, 1, 0]]), ("_law_counts", E__law_counts.ps, []), ("_law_all", E__law_all.ps, []), ("_law_put", E__law_put.ps, []), ("_law_wanted", E__law_wanted.ps, []), ("nearest_right", E_nearest_right.ps, [[1, 0]])]
theorem k__law_right : chSs ⟨N__law_right, defScope (top 57), fun _ => true, g__law_right, G0⟩ true I__law_right (defBody (top 57)) = true := by decide +kernel
def g__law_great_right : List Sig := [("_law_random", E__law_random.ps, []), ("_law_sets", E__law_sets.ps, []), ("how_many_at", E_how_many_at.ps, [[2, 1, 0]]), ("nearest_right", E_nearest_right.ps, [[1, 0]])]
theorem k__law_great_right : chSs ⟨N__law_great_right, defScope (top 61), fun _ => true, g__law_great_right, G0⟩ true I__law_great_right (defBody (top 61)) = true := by decide +kernel
def g_law : List Sig := [("_law_right", E__law_right.ps, []), ("_law_generator", E__law_generator.ps, []), ("distance", E_distance.ps, [[2, 1, 0]]), ("how_many_at", E_how_many_at.ps, [[2, 1, 0]]), ("nearest_right", E_nearest_right.ps, [[1, 0]]), ("_law_great_right", E__law_great_right.ps, [])]
theorem k_law : chSs ⟨N_law, defScope (top 62), fun _ => true, g_law, G0⟩ false I_law (defBody (top 62)) = true := by decide +kernel
section
variable {P : Program} {w : World} {K : Frag} {mg : Str → Option Value} {base : Heap}
theorem d_is_whole (h : Facts fa fn K mg) : OkD P w K mg base 1 E_is_whole [] := by
  obtain ⟨fd, F⟩ := h.says.def_ 0 (d := mkD 6 "is_whole") rfl
  refine ⟨_, fd, h.glo 0, F.kp, def_ok (k := 0) (L := L_is_whole) F ⟨by kernel_rfl, by kernel_rfl, by kernel_rfl, by decide +kernel, by kernel_rfl, by decide +kernel, by decide +kernel⟩ rfl k_is_whole (h.free fa_free) (fns_nil), F.bindsN fun _ _ _ _ _ _ us hl => match us, hl with | [_], _ => by kernel_rfl, fun _ m => absurd m (List.not_mem_nil)⟩
theorem d_is_between (h : Facts fa fn K mg) : OkD P w K mg base 2 E_is_between [] := by
  obtain ⟨fd, F⟩ := h.says.def_ 1 (d := mkD 7 "is_between") rfl
  refine ⟨_, fd, h.glo 1, F.kp, def_ok (k := 1) (L := L_is_between) F ⟨by kernel_rfl, by kernel_rfl, by kernel_rfl, by decide +kernel, by kernel_rfl, by decide +kernel, by decide +kernel⟩ rfl k_is_between (h.free fa_free) (fns_cons rfl rfl ((d_is_whole h).up (by decide)) (fns_nil)), F.bindsN fun _ _ _ _ _ _ us hl => match us, hl with | [_, _, _], _ => by kernel_rfl, fun _ m => absurd m (List.not_mem_nil)⟩
theorem d_check_number (h : Facts fa fn K mg) : OkD P w K mg base 3 E_check_number [] := by
  obtain ⟨fd, F⟩ := h.says.def_ 2 (d := mkD 8 "check_number") rfl
  refine ⟨_, fd, h.glo 2, F.kp, def_ok (k := 2) (L := L_check_number) F ⟨by kernel_rfl, by kernel_rfl, by kernel_rfl, by decide +kernel, by kernel_rfl, by decide +kernel, by decide +kernel⟩ rfl k_check_number (h.free fa_free) (fns_cons rfl rfl ((d_is_between h).up (by decide)) (fns_nil)), F.bindsN fun _ _ _ _ _ _ us hl => match us, hl with | [_, _, _], _ => by kernel_rfl, fun _ m => absurd m (List.not_mem_nil)⟩
theorem d_orders_fit (h : Facts fa fn K mg) : OkD P w K mg base 3 E_orders_fit [] := by
  obtain ⟨fd, F⟩ := h.says.def_ 3 (d := mkD 9 "orders_fit") rfl
  refine ⟨_, fd, h.glo 3, F.kp, def_ok (k := 2) (L := L_orders_fit) F ⟨by kernel_rfl, by kernel_rfl, by kernel_rfl, by decide +kernel, by kernel_rfl, by decide +kernel, by decide +kernel⟩ rfl k_orders_fit (h.free fa_free) (fns_cons rfl rfl ((d_is_between h).up (by decide)) (fns_nil)), F.bindsN fun _ _ _ _ _ _ us hl => match us, hl with | [_], _ => by kernel_rfl, fun _ m => absurd m (List.not_mem_nil)⟩
theorem d_size_of (h : Facts fa fn K mg) : OkD P w K mg base 1 E_size_of [] := by
  obtain ⟨fd, F⟩ := h.says.def_ 4 (d := mkD 10 "size_of") rfl
  refine ⟨_, fd, h.glo 4, F.kp, def_ok (k := 0) (L := L_size_of) F ⟨by kernel_rfl, by kernel_rfl, by kernel_rfl, by decide +kernel, by kernel_rfl, by decide +kernel, by decide +kernel⟩ rfl k_size_of (h.free fa_free) (fns_nil), F.bindsN fun _ _ _ _ _ _ us hl => match us, hl with | [_], _ => by kernel_rfl, fun _ m => absurd m (List.not_mem_nil)⟩
theorem d_member_fits (h : Facts fa fn K mg) : OkD P w K mg base 3 E_member_fits [] := by
  obtain ⟨fd, F⟩ := h.says.def_ 5 (d := mkD 11 "member_fits") rfl
  refine ⟨_, fd, h.glo 5, F.kp, def_ok (k := 2) (L := L_member_fits) F ⟨by kernel_rfl, by kernel_rfl, by kernel_rfl, by decide +kernel, by kernel_rfl, by decide +kernel, by decide +kernel⟩ rfl k_member_fits (h.free fa_free) (fns_cons rfl rfl ((d_is_between h).up (by decide)) (fns_cons rfl rfl ((d_size_of h).up (by decide)) (fns_nil))), F.bindsN fun _ _ _ _ _ _ us hl => match us, hl with | [_, _], _ => by kernel_rfl, fun _ m => absurd m (List.not_mem_nil)⟩
theorem d_figures_of (h : Facts fa fn K mg) : OkD P w K mg base 1 E_figures_of [] := by
  obtain ⟨fd, F⟩ := h.says.def_ 6 (d := mkD 12 "figures_of") rfl
  refine ⟨_, fd, h.glo 6, F.kp, def_ok (k := 0) (L := L_figures_of) F ⟨by kernel_rfl, by kernel_rfl, by kernel_rfl, by decide +kernel, by kernel_rfl, by decide +kernel, by decide +kernel⟩ rfl k_figures_of (h.free fa_free) (fns_nil), F.bindsN fun _ _ _ _ _ _ us hl => match us, hl with | [_, _], _ => by kernel_rfl, fun _ m => absurd m (List.not_mem_nil)⟩
theorem d_member_from (h : Facts fa fn K mg) : OkD P w K mg base 1 E_member_from [] := by
  obtain ⟨fd, F⟩ := h.says.def_ 7 (d := mkD 13 "member_from") rfl
  refine ⟨_, fd, h.glo 7, F.kp, def_ok (k := 0) (L := L_member_from) F ⟨by kernel_rfl, by kernel_rfl, by kernel_rfl, by decide +kernel, by kernel_rfl, by decide +kernel, by decide +kernel⟩ rfl k_member_from (h.free fa_free) (fns_nil), F.bindsN fun _ _ _ _ _ _ us hl => match us, hl with | [_, _], _ => by kernel_rfl, fun _ m => absurd m (List.not_mem_nil)⟩
theorem d_sum_in (h : Facts fa fn K mg) : OkD P w K mg base 2 E_sum_in [] := by
  obtain ⟨fd, F⟩ := h.says.def_ 8 (d := mkD 14 "sum_in") rfl
  refine ⟨_, fd, h.glo 8, F.kp, def_ok (k := 1) (L := L_sum_in) F ⟨by kernel_rfl, by kernel_rfl, by kernel_rfl, by decide +kernel, by kernel_rfl, by decide +kernel, by decide +kernel⟩ rfl k_sum_in (h.free fa_free) (fns_cons rfl rfl ((d_figures_of h).up (by decide)) (fns_cons rfl rfl ((d_member_from h).up (by decide)) (fns_nil))), F.bindsN fun _ _ _ _ _ _ us hl => match us, hl with | [_, _, _], _ => by kernel_rfl, fun _ m => absurd m (List.not_mem_nil)⟩
theorem d_minus_in (h : Facts fa fn K mg) : OkD P w K mg base 2 E_minus_in [] := by
  obtain ⟨fd, F⟩ := h.says.def_ 9 (d := mkD 15 "minus_in") rfl
  refine ⟨_, fd, h.glo 9, F.kp, def_ok (k := 1) (L := L_minus_in) F ⟨by kernel_rfl, by kernel_rfl, by kernel_rfl, by decide +kernel, by kernel_rfl, by decide +kernel, by decide +kernel⟩ rfl k_minus_in (h.free fa_free) (fns_cons rfl rfl ((d_figures_of h).up (by decide)) (fns_cons rfl rfl ((d_member_from h).up (by decide)) (fns_nil))), F.bindsN fun _ _ _ _ _ _ us hl => match us, hl with | [_, _], _ => by kernel_rfl, fun _ m => absurd m (List.not_mem_nil)⟩
theorem d_less_in (h : Facts fa fn K mg) : OkD P w K mg base 3 E_less_in [] := by
  obtain ⟨fd, F⟩ := h.says.def_ 10 (d := mkD 16 "less_in") rfl
  refine ⟨_, fd, h.glo 10, F.kp, def_ok (k := 2) (L := L_less_in) F ⟨by kernel_rfl, by kernel_rfl, by kernel_rfl, by decide +kernel, by kernel_rfl, by decide +kernel, by decide +kernel⟩ rfl k_less_in (h.free fa_free) (fns_cons rfl rfl ((d_sum_in h).up (by decide)) (fns_cons rfl rfl ((d_minus_in h).up (by decide)) (fns_nil))), F.bindsN fun _ _ _ _ _ _ us hl => match us, hl with | [_, _, _], _ => by kernel_rfl, fun _ m => absurd m (List.not_mem_nil)⟩
theorem d_total_in (h : Facts fa fn K mg) : OkD P w K mg base 3 E_total_in [] := by
  obtain ⟨fd, F⟩ := h.says.def_ 11 (d := mkD 17 "total_in") rfl
  refine ⟨_, fd, h.glo 11, F.kp, def_ok (k := 2) (L := L_total_in) F ⟨by kernel_rfl, by kernel_rfl, by kernel_rfl, by decide +kernel, by kernel_rfl, by decide +kernel, by decide +kernel⟩ rfl k_total_in (h.free fa_free) (fns_cons rfl rfl ((d_sum_in h).up (by decide)) (fns_nil)), F.bindsN fun _ _ _ _ _ _ us hl => match us, hl with | [_, _], _ => by kernel_rfl, fun _ m => absurd m (List.not_mem_nil)⟩
theorem d_row_fits (h : Facts fa fn K mg) : OkD P w K mg base 3 E_row_fits [] := by
  obtain ⟨fd, F⟩ := h.says.def_ 12 (d := mkD 19 "row_fits") rfl
  refine ⟨_, fd, h.glo 12, F.kp, def_ok (k := 2) (L := L_row_fits) F ⟨by kernel_rfl, by kernel_rfl, by kernel_rfl, by decide +kernel, by kernel_rfl, by decide +kernel, by decide +kernel⟩ rfl k_row_fits (h.free fa_free) (fns_cons rfl rfl ((d_is_between h).up (by decide)) (fns_nil)), F.bindsN fun _ _ _ _ _ _ us hl => match us, hl with | [_, _], _ => by kernel_rfl, fun _ m => absurd m (List.not_mem_nil)⟩
theorem d_table_fits (h : Facts fa fn K mg) : OkD P w K mg base 4 E_table_fits [] := by
  obtain ⟨fd, F⟩ := h.says.def_ 13 (d := mkD 20 "table_fits") rfl
  refine ⟨_, fd, h.glo 13, F.kp, def_ok (k := 3) (L := L_table_fits) F ⟨by kernel_rfl, by kernel_rfl, by kernel_rfl, by decide +kernel, by kernel_rfl, by decide +kernel, by decide +kernel⟩ rfl k_table_fits (h.free fa_free) (fns_cons rfl rfl ((d_row_fits h).up (by decide)) (fns_nil)), F.bindsN fun _ _ _ _ _ _ us hl => match us, hl with | [_, _], _ => by kernel_rfl, fun _ m => absurd m (List.not_mem_nil)⟩
theorem d_system_fits (h : Facts fa fn K mg) : OkD P w K mg base 5 E_system_fits [] := by
  obtain ⟨fd, F⟩ := h.says.def_ 14 (d := mkD 21 "system_fits") rfl
  refine ⟨_, fd, h.glo 14, F.kp, def_ok (k := 4) (L := L_system_fits) F ⟨by kernel_rfl, by kernel_rfl, by kernel_rfl, by decide +kernel, by kernel_rfl, by decide +kernel, by decide +kernel⟩ rfl k_system_fits (h.free fa_free) (fns_cons rfl rfl ((d_orders_fit h).up (by decide)) (fns_cons rfl rfl ((d_member_fits h).up (by decide)) (fns_cons rfl rfl ((d_table_fits h).up (by decide)) (fns_cons rfl rfl ((d_size_of h).up (by decide)) (fns_nil))))), F.bindsN fun _ _ _ _ _ _ us hl => match us, hl with | [_], _ => by kernel_rfl, fun _ m => absurd m (List.not_mem_nil)⟩
theorem d_check_system (h : Facts fa fn K mg) : OkD P w K mg base 6 E_check_system [] := by
  obtain ⟨fd, F⟩ := h.says.def_ 15 (d := mkD 22 "check_system") rfl
  refine ⟨_, fd, h.glo 15, F.kp, def_ok (k := 5) (L := L_check_system) F ⟨by kernel_rfl, by kernel_rfl, by kernel_rfl, by decide +kernel, by kernel_rfl, by decide +kernel, by decide +kernel⟩ rfl k_check_system (h.free fa_free) (fns_cons rfl rfl ((d_system_fits h).up (by decide)) (fns_nil)), F.bindsN fun _ _ _ _ _ _ us hl => match us, hl with | [_], _ => by kernel_rfl, fun _ m => absurd m (List.not_mem_nil)⟩
theorem d_code_fits (h : Facts fa fn K mg) : OkD P w K mg base 4 E_code_fits [] := by
  obtain ⟨fd, F⟩ := h.says.def_ 16 (d := mkD 23 "code_fits") rfl
  refine ⟨_, fd, h.glo 16, F.kp, def_ok (k := 3) (L := L_code_fits) F ⟨by kernel_rfl, by kernel_rfl, by kernel_rfl, by decide +kernel, by kernel_rfl, by decide +kernel, by decide +kernel⟩ rfl k_code_fits (h.free fa_free) (fns_cons rfl rfl ((d_member_fits h).up (by decide)) (fns_nil)), F.bindsN fun _ _ _ _ _ _ us hl => match us, hl with | [_, _], _ => by kernel_rfl, fun _ m => absurd m (List.not_mem_nil)⟩
theorem d_check_code (h : Facts fa fn K mg) : OkD P w K mg base 7 E_check_code [] := by
  obtain ⟨fd, F⟩ := h.says.def_ 17 (d := mkD 24 "check_code") rfl
  refine ⟨_, fd, h.glo 17, F.kp, def_ok (k := 6) (L := L_check_code) F ⟨by kernel_rfl, by kernel_rfl, by kernel_rfl, by decide +kernel, by kernel_rfl, by decide +kernel, by decide +kernel⟩ rfl k_check_code (h.free fa_free) (fns_cons rfl rfl ((d_check_system h).up (by decide)) (fns_cons rfl rfl ((d_code_fits h).up (by decide)) (fns_nil))), F.bindsN fun _ _ _ _ _ _ us hl => match us, hl with | [_, _], _ => by kernel_rfl, fun _ m => absurd m (List.not_mem_nil)⟩
theorem d_members_of (h : Facts fa fn K mg) : OkD P w K mg base 1 E_members_of [] := by
  obtain ⟨fd, F⟩ := h.says.def_ 18 (d := mkD 25 "members_of") rfl
  refine ⟨_, fd, h.glo 18, F.kp, def_ok (k := 0) (L := L_members_of) F ⟨by kernel_rfl, by kernel_rfl, by kernel_rfl, by decide +kernel, by kernel_rfl, by decide +kernel, by decide +kernel⟩ rfl k_members_of (h.free fa_free) (fns_nil), F.bindsN fun _ _ _ _ _ _ us hl => match us, hl with | [_, _], _ => by kernel_rfl, fun _ m => absurd m (List.not_mem_nil)⟩
theorem d_sum_of_code (h : Facts fa fn K mg) : OkD P w K mg base 4 E_sum_of_code [] := by
  obtain ⟨fd, F⟩ := h.says.def_ 19 (d := mkD 26 "sum_of_code") rfl
  refine ⟨_, fd, h.glo 19, F.kp, def_ok (k := 3) (L := L_sum_of_code) F ⟨by kernel_rfl, by kernel_rfl, by kernel_rfl, by decide +kernel, by kernel_rfl, by decide +kernel, by decide +kernel⟩ rfl k_sum_of_code (h.free fa_free) (fns_cons rfl rfl ((d_total_in h).up (by decide)) (fns_cons rfl rfl ((d_members_of h).up (by decide)) (fns_nil))), F.bindsN fun _ _ _ _ _ _ us hl => match us, hl with | [_, _], _ => by kernel_rfl, fun _ m => absurd m (List.not_mem_nil)⟩
theorem d_off_in (h : Facts fa fn K mg) : OkD P w K mg base 5 E_off_in [] := by
  obtain ⟨fd, F⟩ := h.says.def_ 20 (d := mkD 28 "off_in") rfl
  refine ⟨_, fd, h.glo 20, F.kp, def_ok (k := 4) (L := L_off_in) F ⟨by kernel_rfl, by kernel_rfl, by kernel_rfl, by decide +kernel, by kernel_rfl, by decide +kernel, by decide +kernel⟩ rfl k_off_in (h.free fa_free) (fns_cons rfl rfl ((d_less_in h).up (by decide)) (fns_cons rfl rfl ((d_sum_of_code h).up (by decide)) (fns_nil))), F.bindsN fun _ _ _ _ _ _ us hl => match us, hl with | [_, _], _ => by kernel_rfl, fun _ m => absurd m (List.not_mem_nil)⟩
theorem d_wanted_in (h : Facts fa fn K mg) : OkD P w K mg base 6 E_wanted_in [] := by
  obtain ⟨fd, F⟩ := h.says.def_ 21 (d := mkD 29 "wanted_in") rfl
  refine ⟨_, fd, h.glo 21, F.kp, def_ok (k := 5) (L := L_wanted_in) F ⟨by kernel_rfl, by kernel_rfl, by kernel_rfl, by decide +kernel, by kernel_rfl, by decide +kernel, by decide +kernel⟩ rfl k_wanted_in (h.free fa_free) (fns_cons rfl rfl ((d_less_in h).up (by decide)) (fns_cons rfl rfl ((d_off_in h).up (by decide)) (fns_nil))), F.bindsN fun _ _ _ _ _ _ us hl => match us, hl with | [_, _, _], _ => by kernel_rfl, fun _ m => absurd m (List.not_mem_nil)⟩
theorem d_put_in (h : Facts fa fn K mg) : OkD P w K mg base 1 E_put_in [] := by
  obtain ⟨fd, F⟩ := h.says.def_ 22 (d := mkD 30 "put_in") rfl
  refine ⟨_, fd, h.glo 22, F.kp, def_ok (k := 0) (L := L_put_in) F ⟨by kernel_rfl, by kernel_rfl, by kernel_rfl, by decide +kernel, by kernel_rfl, by decide +kernel, by decide +kernel⟩ rfl k_put_in (h.free fa_free) (fns_nil), F.bindsN fun _ _ _ _ _ _ us hl => match us, hl with | [_, _, _], _ => by kernel_rfl, fun _ m => absurd m (List.not_mem_nil)⟩
theorem d_times_over (h : Facts fa fn K mg) : OkD P w K mg base 1 E_times_over [] := by
  obtain ⟨fd, F⟩ := h.says.def_ 23 (d := mkD 31 "times_over") rfl
  refine ⟨_, fd, h.glo 23, F.kp, def_ok (k := 0) (L := L_times_over) F ⟨by kernel_rfl, by kernel_rfl, by kernel_rfl, by decide +kernel, by kernel_rfl, by decide +kernel, by decide +kernel⟩ rfl k_times_over (h.free fa_free) (fns_nil), F.bindsN fun _ _ _ _ _ _ us hl => match us, hl with | [_, _], _ => by kernel_rfl, fun _ m => absurd m (List.not_mem_nil)⟩
theorem d_apart_in (h : Facts fa fn K mg) : OkD P w K mg base 1 E_apart_in [] := by
  obtain ⟨fd, F⟩ := h.says.def_ 24 (d := mkD 33 "apart_in") rfl
  refine ⟨_, fd, h.glo 24, F.kp, def_ok (k := 0) (L := L_apart_in) F ⟨by kernel_rfl, by kernel_rfl, by kernel_rfl, by decide +kernel, by kernel_rfl, by decide +kernel, by decide +kernel⟩ rfl k_apart_in (h.free fa_free) (fns_nil), F.bindsN fun _ _ _ _ _ _ us hl => match us, hl with | [_, _], _ => by kernel_rfl, fun _ m => absurd m (List.not_mem_nil)⟩
theorem d_distance (h : Facts fa fn K mg) : OkD P w K mg base 8 E_distance [[2, 1, 0]] := by
  obtain ⟨fd, F⟩ := h.says.def_ 25 (d := mkD 34 "distance") rfl
  refine ⟨_, fd, h.glo 25, F.kp, def_ok (k := 7) (L := L_distance) F ⟨by kernel_rfl, by kernel_rfl, by kernel_rfl, by decide +kernel, by kernel_rfl, by decide +kernel, by decide +kernel⟩ rfl k_distance (h.free fa_free) (fns_cons rfl rfl ((d_check_code h).up (by decide)) (fns_cons rfl rfl ((d_code_fits h).up (by decide)) (fns_cons rfl rfl ((d_apart_in h).up (by decide)) (fns_nil)))), F.bindsN fun _ _ _ _ _ _ us hl => match us, hl with | [_, _, _], _ => by kernel_rfl, fun ks m => by
    simp only [List.mem_cons, List.not_mem_nil, or_false] at m
    rcases m with m
    · subst m
      refine kwb_of F fun _ _ _ _ _ _ ws us hl hp => ?_
      match ws, hl with
      | [a0, a1, a2], _ =>
        cases hp
        kernel_rfl⟩
theorem d_sets_of (h : Facts fa fn K mg) : OkD P w K mg base 1 E_sets_of [] := by
  obtain ⟨fd, F⟩ := h.says.def_ 26 (d := mkD 35 "sets_of") rfl
  refine ⟨_, fd, h.glo 26, F.kp, def_ok (k := 0) (L := L_sets_of) F ⟨by kernel_rfl, by kernel_rfl, by kernel_rfl, by decide +kernel, by kernel_rfl, by decide +kernel, by decide +kernel⟩ rfl k_sets_of (h.free fa_free) (fns_nil), F.bindsN fun _ _ _ _ _ _ us hl => match us, hl with | [_, _], _ => by kernel_rfl, fun _ m => absurd m (List.not_mem_nil)⟩
theorem d_how_many_at (h : Facts fa fn K mg) : OkD P w K mg base 8 E_how_many_at [[2, 1, 0]] := by
  obtain ⟨fd, F⟩ := h.says.def_ 27 (d := mkD 36 "how_many_at") rfl
  refine ⟨_, fd, h.glo 27, F.kp, def_ok (k := 7) (L := L_how_many_at) F ⟨by kernel_rfl, by kernel_rfl, by kernel_rfl, by decide +kernel, by kernel_rfl, by decide +kernel, by decide +kernel⟩ rfl k_how_many_at (h.free fa_free) (fns_cons rfl rfl ((d_check_code h).up (by decide)) (fns_cons rfl rfl ((d_check_number h).up (by decide)) (fns_cons rfl rfl ((d_size_of h).up (by decide)) (fns_cons rfl rfl ((d_off_in h).up (by decide)) (fns_cons rfl rfl ((d_sets_of h).up (by decide)) (fns_cons rfl rfl ((d_times_over h).up (by decide)) (fns_nil))))))), F.bindsN fun _ _ _ _ _ _ us hl => match us, hl with | [_, _, _], _ => by kernel_rfl, fun ks m => by
    simp only [List.mem_cons, List.not_mem_nil, or_false] at m
    rcases m with m
    · subst m
      refine kwb_of F fun _ _ _ _ _ _ ws us hl hp => ?_
      match ws, hl with
      | [a0, a1, a2], _ =>
        cases hp
        kernel_rfl⟩
theorem d_nearest_right (h : Facts fa fn K mg) : OkD P w K mg base 8 E_nearest_right [[1, 0]] := by
  obtain ⟨fd, F⟩ := h.says.def_ 28 (d := mkD 37 "nearest_right") rfl
  refine ⟨_, fd, h.glo 28, F.kp, def_ok (k := 7) (L := L_nearest_right) F ⟨by kernel_rfl, by kernel_rfl, by kernel_rfl, by decide +kernel, by kernel_rfl, by decide +kernel, by decide +kernel⟩ rfl k_nearest_right (h.free fa_free) (fns_cons rfl rfl ((d_check_code h).up (by decide)) (fns_cons rfl rfl ((d_off_in h).up (by decide)) (fns_cons rfl rfl ((d_put_in h).up (by decide)) (fns_cons rfl rfl ((d_wanted_in h).up (by decide)) (fns_nil))))), F.bindsN fun _ _ _ _ _ _ us hl => match us, hl with | [_, _], _ => by kernel_rfl, fun ks m => by
    simp only [List.mem_cons, List.not_mem_nil, or_false] at m
    rcases m with m
    · subst m
      refine kwb_of F fun _ _ _ _ _ _ ws us hl hp => ?_
      match ws, hl with
      | [a0, a1], _ =>
        cases hp
        kernel_rfl⟩
theorem d__law_hash (h : Facts fa fn K mg) : OkD P w K mg base 1 E__law_hash [] := by
  obtain ⟨fd, F⟩ := h.says.def_ 29 (d := mkD 39 "_law_hash") rfl
  refine ⟨_, fd, h.glo 29, F.kp, def_ok (k := 0) (L := L__law_hash) F ⟨by kernel_rfl, by kernel_rfl, by kernel_rfl, by decide +kernel, by kernel_rfl, by decide +kernel, by decide +kernel⟩ rfl k__law_hash (h.free fa_free) (fns_nil), F.bindsN fun _ _ _ _ _ _ us hl => match us, hl with | [_, _], _ => by kernel_rfl, fun _ m => absurd m (List.not_mem_nil)⟩
theorem d__law_random (h : Facts fa fn K mg) : OkD P w K mg base 2 E__law_random [] := by
  obtain ⟨fd, F⟩ := h.says.def_ 30 (d := mkD 40 "_law_random") rfl
  refine ⟨_, fd, h.glo 30, F.kp, def_ok (k := 1) (L := L__law_random) F ⟨by kernel_rfl, by kernel_rfl, by kernel_rfl, by decide +kernel, by kernel_rfl, by decide +kernel, by decide +kernel⟩ rfl k__law_random (h.free fa_free) (fns_cons rfl rfl ((d__law_hash h).up (by decide)) (fns_nil)), F.bindsN fun _ _ _ _ _ _ us hl => match us, hl with | [_, _], _ => by kernel_rfl, fun _ m => absurd m (List.not_mem_nil)⟩
theorem d__law_cell (h : Facts fa fn K mg) : OkD P w K mg base 1 E__law_cell [] := by
  obtain ⟨fd, F⟩ := h.says.def_ 31 (d := mkD 41 "_law_cell") rfl
  refine ⟨_, fd, h.glo 31, F.kp, def_ok (k := 0) (L := L__law_cell) F ⟨by kernel_rfl, by kernel_rfl, by kernel_rfl, by decide +kernel, by kernel_rfl, by decide +kernel, by decide +kernel⟩ rfl k__law_cell (h.free fa_free) (fns_nil), F.bindsN fun _ _ _ _ _ _ us hl => match us, hl with | [_, _], _ => by kernel_rfl, fun _ m => absurd m (List.not_mem_nil)⟩
theorem d__law_generator (h : Facts fa fn K mg) : OkD P w K mg base 2 E__law_generator [] := by
  obtain ⟨fd, F⟩ := h.says.def_ 32 (d := mkD 42 "_law_generator") rfl
  refine ⟨_, fd, h.glo 32, F.kp, def_ok (k := 1) (L := L__law_generator) F ⟨by kernel_rfl, by kernel_rfl, by kernel_rfl, by decide +kernel, by kernel_rfl, by decide +kernel, by decide +kernel⟩ rfl k__law_generator (h.free fa_free) (fns_cons rfl rfl ((d__law_cell h).up (by decide)) (fns_nil)), F.bindsN fun _ _ _ _ _ _ us hl => match us, hl with | [_, _], _ => by kernel_rfl, fun _ m => absurd m (List.not_mem_nil)⟩
theorem d__law_size (h : Facts fa fn K mg) : OkD P w K mg base 1 E__law_size [] := by
  obtain ⟨fd, F⟩ := h.says.def_ 33 (d := mkD 43 "_law_size") rfl
  refine ⟨_, fd, h.glo 33, F.kp, def_ok (k := 0) (L := L__law_size) F ⟨by kernel_rfl, by kernel_rfl, by kernel_rfl, by decide +kernel, by kernel_rfl, by decide +kernel, by decide +kernel⟩ rfl k__law_size (h.free fa_free) (fns_nil), F.bindsN fun _ _ _ _ _ _ us hl => match us, hl with | [_], _ => by kernel_rfl, fun _ m => absurd m (List.not_mem_nil)⟩
theorem d__law_parts (h : Facts fa fn K mg) : OkD P w K mg base 1 E__law_parts [] := by
  obtain ⟨fd, F⟩ := h.says.def_ 34 (d := mkD 44 "_law_parts") rfl
  refine ⟨_, fd, h.glo 34, F.kp, def_ok (k := 0) (L := L__law_parts) F ⟨by kernel_rfl, by kernel_rfl, by kernel_rfl, by decide +kernel, by kernel_rfl, by decide +kernel, by decide +kernel⟩ rfl k__law_parts (h.free fa_free) (fns_nil), F.bindsN fun _ _ _ _ _ _ us hl => match us, hl with | [_, _], _ => by kernel_rfl, fun _ m => absurd m (List.not_mem_nil)⟩
theorem d__law_from (h : Facts fa fn K mg) : OkD P w K mg base 1 E__law_from [] := by
  obtain ⟨fd, F⟩ := h.says.def_ 35 (d := mkD 45 "_law_from") rfl
  refine ⟨_, fd, h.glo 35, F.kp, def_ok (k := 0) (L := L__law_from) F ⟨by kernel_rfl, by kernel_rfl, by kernel_rfl, by decide +kernel, by kernel_rfl, by decide +kernel, by decide +kernel⟩ rfl k__law_from (h.free fa_free) (fns_nil), F.bindsN fun _ _ _ _ _ _ us hl => match us, hl with | [_, _], _ => by kernel_rfl, fun _ m => absurd m (List.not_mem_nil)⟩
theorem d__law_plus (h : Facts fa fn K mg) : OkD P w K mg base 2 E__law_plus [] := by
  obtain ⟨fd, F⟩ := h.says.def_ 36 (d := mkD 46 "_law_plus") rfl
  refine ⟨_, fd, h.glo 36, F.kp, def_ok (k := 1) (L := L__law_plus) F ⟨by kernel_rfl, by kernel_rfl, by kernel_rfl, by decide +kernel, by kernel_rfl, by decide +kernel, by decide +kernel⟩ rfl k__law_plus (h.free fa_free) (fns_cons rfl rfl ((d__law_from h).up (by decide)) (fns_cons rfl rfl ((d__law_parts h).up (by decide)) (fns_nil))), F.bindsN fun _ _ _ _ _ _ us hl => match us, hl with | [_, _, _], _ => by kernel_rfl, fun _ m => absurd m (List.not_mem_nil)⟩
theorem d__law_less (h : Facts fa fn K mg) : OkD P w K mg base 2 E__law_less [] := by
  obtain ⟨fd, F⟩ := h.says.def_ 37 (d := mkD 47 "_law_less") rfl
  refine ⟨_, fd, h.glo 37, F.kp, def_ok (k := 1) (L := L__law_less) F ⟨by kernel_rfl, by kernel_rfl, by kernel_rfl, by decide +kernel, by kernel_rfl, by decide +kernel, by decide +kernel⟩ rfl k__law_less (h.free fa_free) (fns_cons rfl rfl ((d__law_from h).up (by decide)) (fns_cons rfl rfl ((d__law_parts h).up (by decide)) (fns_nil))), F.bindsN fun _ _ _ _ _ _ us hl => match us, hl with | [_, _, _], _ => by kernel_rfl, fun _ m => absurd m (List.not_mem_nil)⟩
theorem d__law_off (h : Facts fa fn K mg) : OkD P w K mg base 3 E__law_off [] := by
  obtain ⟨fd, F⟩ := h.says.def_ 38 (d := mkD 48 "_law_off") rfl
  refine ⟨_, fd, h.glo 38, F.kp, def_ok (k := 2) (L := L__law_off) F ⟨by kernel_rfl, by kernel_rfl, by kernel_rfl, by decide +kernel, by kernel_rfl, by decide +kernel, by decide +kernel⟩ rfl k__law_off (h.free fa_free) (fns_cons rfl rfl ((d__law_plus h).up (by decide)) (fns_cons rfl rfl ((d__law_less h).up (by decide)) (fns_nil))), F.bindsN fun _ _ _ _ _ _ us hl => match us, hl with | [_, _], _ => by kernel_rfl, fun _ m => absurd m (List.not_mem_nil)⟩
theorem d__law_shuffled (h : Facts fa fn K mg) : OkD P w K mg base 3 E__law_shuffled [] := by
  obtain ⟨fd, F⟩ := h.says.def_ 39 (d := mkD 49 "_law_shuffled") rfl
  refine ⟨_, fd, h.glo 39, F.kp, def_ok (k := 2) (L := L__law_shuffled) F ⟨by kernel_rfl, by kernel_rfl, by kernel_rfl, by decide +kernel, by kernel_rfl, by decide +kernel, by decide +kernel⟩ rfl k__law_shuffled (h.free fa_free) (fns_cons rfl rfl ((d__law_random h).up (by decide)) (fns_nil)), F.bindsN fun _ _ _ _ _ _ us hl => match us, hl with | [_, _], _ => by kernel_rfl, fun _ m => absurd m (List.not_mem_nil)⟩
theorem d__law_orders (h : Facts fa fn K mg) : OkD P w K mg base 3 E__law_orders [] := by
  obtain ⟨fd, F⟩ := h.says.def_ 40 (d := mkD 50 "_law_orders") rfl
  refine ⟨_, fd, h.glo 40, F.kp, def_ok (k := 2) (L := L__law_orders) F ⟨by kernel_rfl, by kernel_rfl, by kernel_rfl, by decide +kernel, by kernel_rfl, by decide +kernel, by decide +kernel⟩ rfl k__law_orders (h.free fa_free) (fns_cons rfl rfl ((d__law_random h).up (by decide)) (fns_nil)), F.bindsN fun _ _ _ _ _ _ us hl => match us, hl with | [_], _ => by kernel_rfl, fun _ m => absurd m (List.not_mem_nil)⟩
theorem d__law_system (h : Facts fa fn K mg) : OkD P w K mg base 4 E__law_system [] := by
  obtain ⟨fd, F⟩ := h.says.def_ 41 (d := mkD 51 "_law_system") rfl
  refine ⟨_, fd, h.glo 41, F.kp, def_ok (k := 3) (L := L__law_system) F ⟨by kernel_rfl, by kernel_rfl, by kernel_rfl, by decide +kernel, by kernel_rfl, by decide +kernel, by decide +kernel⟩ rfl k__law_system (h.free fa_free) (fns_cons rfl rfl ((d__law_size h).up (by decide)) (fns_cons rfl rfl ((d__law_shuffled h).up (by decide)) (fns_cons rfl rfl ((d__law_random h).up (by decide)) (fns_nil)))), F.bindsN fun _ _ _ _ _ _ us hl => match us, hl with | [_, _, _], _ => by kernel_rfl, fun _ m => absurd m (List.not_mem_nil)⟩
theorem d__law_code (h : Facts fa fn K mg) : OkD P w K mg base 3 E__law_code [] := by
  obtain ⟨fd, F⟩ := h.says.def_ 42 (d := mkD 52 "_law_code") rfl
  refine ⟨_, fd, h.glo 42, F.kp, def_ok (k := 2) (L := L__law_code) F ⟨by kernel_rfl, by kernel_rfl, by kernel_rfl, by decide +kernel, by kernel_rfl, by decide +kernel, by decide +kernel⟩ rfl k__law_code (h.free fa_free) (fns_cons rfl rfl ((d__law_random h).up (by decide)) (fns_cons rfl rfl ((d__law_size h).up (by decide)) (fns_nil))), F.bindsN fun _ _ _ _ _ _ us hl => match us, hl with | [_, _], _ => by kernel_rfl, fun _ m => absurd m (List.not_mem_nil)⟩
theorem d__law_put (h : Facts fa fn K mg) : OkD P w K mg base 1 E__law_put [] := by
  obtain ⟨fd, F⟩ := h.says.def_ 43 (d := mkD 53 "_law_put") rfl
  refine ⟨_, fd, h.glo 43, F.kp, def_ok (k := 0) (L := L__law_put) F ⟨by kernel_rfl, by kernel_rfl, by kernel_rfl, by decide +kernel, by kernel_rfl, by decide +kernel, by decide +kernel⟩ rfl k__law_put (h.free fa_free) (fns_nil), F.bindsN fun _ _ _ _ _ _ us hl => match us, hl with | [_, _, _], _ => by kernel_rfl, fun _ m => absurd m (List.not_mem_nil)⟩
theorem d__law_righted (h : Facts fa fn K mg) : OkD P w K mg base 4 E__law_righted [] := by
  obtain ⟨fd, F⟩ := h.says.def_ 44 (d := mkD 54 "_law_righted") rfl
  refine ⟨_, fd, h.glo 44, F.kp, def_ok (k := 3) (L := L__law_righted) F ⟨by kernel_rfl, by kernel_rfl, by kernel_rfl, by decide +kernel, by kernel_rfl, by decide +kernel, by decide +kernel⟩ rfl k__law_righted (h.free fa_free) (fns_cons rfl rfl ((d__law_code h).up (by decide)) (fns_cons rfl rfl ((d__law_random h).up (by decide)) (fns_cons rfl rfl ((d__law_size h).up (by decide)) (fns_cons rfl rfl ((d__law_off h).up (by decide)) (fns_cons rfl rfl ((d__law_put h).up (by decide)) (fns_nil)))))), F.bindsN fun _ _ _ _ _ _ us hl => match us, hl with | [_, _], _ => by kernel_rfl, fun _ m => absurd m (List.not_mem_nil)⟩
theorem d__law_all (h : Facts fa fn K mg) : OkD P w K mg base 1 E__law_all [] := by
  obtain ⟨fd, F⟩ := h.says.def_ 45 (d := mkD 55 "_law_all") rfl
  refine ⟨_, fd, h.glo 45, F.kp, def_ok (k := 0) (L := L__law_all) F ⟨by kernel_rfl, by kernel_rfl, by kernel_rfl, by decide +kernel, by kernel_rfl, by decide +kernel, by decide +kernel⟩ rfl k__law_all (h.free fa_free) (fns_nil), F.bindsN fun _ _ _ _ _ _ us hl => match us, hl with | [_, _], _ => by kernel_rfl, fun _ m => absurd m (List.not_mem_nil)⟩
theorem d__law_apart (h : Facts fa fn K mg) : OkD P w K mg base 1 E__law_apart [] := by
  obtain ⟨fd, F⟩ := h.says.def_ 46 (d := mkD 56 "_law_apart") rfl
  refine ⟨_, fd, h.glo 46, F.kp, def_ok (k := 0) (L := L__law_apart) F ⟨by kernel_rfl, by kernel_rfl, by kernel_rfl, by decide +kernel, by kernel_rfl, by decide +kernel, by decide +kernel⟩ rfl k__law_apart (h.free fa_free) (fns_nil), F.bindsN fun _ _ _ _ _ _ us hl => match us, hl with | [_, _], _ => by kernel_rfl, fun _ m => absurd m (List.not_mem_nil)⟩
theorem d__law_sets (h : Facts fa fn K mg) : OkD P w K mg base 1 E__law_sets [] := by
  obtain ⟨fd, F⟩ := h.says.def_ 47 (d := mkD 59 "_law_sets") rfl
  refine ⟨_, fd, h.glo 47, F.kp, def_ok (k := 0) (L := L__law_sets) F ⟨by kernel_rfl, by kernel_rfl, by kernel_rfl, by decide +kernel, by kernel_rfl, by decide +kernel, by decide +kernel⟩ rfl k__law_sets (h.free fa_free) (fns_nil), F.bindsN fun _ _ _ _ _ _ us hl => match us, hl with | [_, _], _ => by kernel_rfl, fun _ m => absurd m (List.not_mem_nil)⟩
theorem d__law_counts (h : Facts fa fn K mg) : OkD P w K mg base 2 E__law_counts [] := by
  obtain ⟨fd, F⟩ := h.says.def_ 48 (d := mkD 60 "_law_counts") rfl
  refine ⟨_, fd, h.glo 48, F.kp, def_ok (k := 1) (L := L__law_counts) F ⟨by kernel_rfl, by kernel_rfl, by kernel_rfl, by decide +kernel, by kernel_rfl, by decide +kernel, by decide +kernel⟩ rfl k__law_counts (h.free fa_free) (fns_cons rfl rfl ((d__law_sets h).up (by decide)) (fns_nil)), F.bindsN fun _ _ _ _ _ _ us hl => match us, hl with | [_, _, _], _ => by kernel_rfl, fun _ m => absurd m (List.not_mem_nil)⟩
theorem d__law_wanted (h : Facts fa fn K mg) : OkD P w K mg base 4 E__law_wanted [] := by
  obtain ⟨fd, F⟩ := h.says.def_ 49 (d := mkD 58 "_law_wanted") rfl
  refine ⟨_, fd, h.glo 49, F.kp, def_ok (k := 3) (L := L__law_wanted) F ⟨by kernel_rfl, by kernel_rfl, by kernel_rfl, by decide +kernel, by kernel_rfl, by decide +kernel, by decide +kernel⟩ rfl k__law_wanted (h.free fa_free) (fns_cons rfl rfl ((d__law_off h).up (by decide)) (fns_cons rfl rfl ((d__law_put h).up (by decide)) (fns_cons rfl rfl ((d__law_size h).up (by decide)) (fns_nil)))), F.bindsN fun _ _ _ _ _ _ us hl => match us, hl with | [_, _, _], _ => by kernel_rfl, fun _ m => absurd m (List.not_mem_nil)⟩
theorem d__law_right (h : Facts fa fn K mg) : OkD P w K mg base 9 E__law_right [] := by
  obtain ⟨fd, F⟩ := h.says.def_ 50 (d := mkD 57 "_law_right") rfl
  refine ⟨_, fd, h.glo 50, F.kp, def_ok (k := 8) (L := L__law_right) F ⟨by kernel_rfl, by kernel_rfl, by kernel_rfl, by decide +kernel, by kernel_rfl, by decide +kernel, by decide +kernel⟩ rfl k__law_right (h.free fa_free) (fns_cons rfl rfl ((d__law_system h).up (by decide)) (fns_cons rfl rfl ((d__law_orders h).up (by decide)) (fns_cons rfl rfl ((d__law_size h).up (by decide)) (fns_cons rfl rfl ((d__law_righted h).up (by decide)) (fns_cons rfl rfl ((d__law_code h).up (by decide)) (fns_cons rfl rfl ((d_distance h).up (by decide)) (fns_cons rfl rfl ((d__law_apart h).up (by decide)) (fns_cons rfl rfl ((d__law_off h).up (by decide)) (fns_cons rfl rfl ((d_how_many_at h).up (by decide)) (fns_cons rfl rfl ((d__law_counts h).up (by decide)) (fns_cons rfl rfl ((d__law_all h).up (by decide)) (fns_cons rfl rfl ((d__law_put h).up (by decide)) (fns_cons rfl rfl ((d__law_wanted h).up (by decide)) (fns_cons rfl rfl ((d_nearest_right h).up (by decide)) (fns_nil))))))))))))))), F.bindsN fun _ _ _ _ _ _ us hl => match us, hl with | [_, _], _ => by kernel_rfl, fun _ m => absurd m (List.not_mem_nil)⟩
theorem d__law_great_right (h : Facts fa fn K mg) : OkD P w K mg base 9 E__law_great_right [] := by
  obtain ⟨fd, F⟩ := h.says.def_ 51 (d := mkD 61 "_law_great_right") rfl
  refine ⟨_, fd, h.glo 51, F.kp, def_ok (k := 8) (L := L__law_great_right) F ⟨by kernel_rfl, by kernel_rfl, by kernel_rfl, by decide +kernel, by kernel_rfl, by decide +kernel, by decide +kernel⟩ rfl k__law_great_right (h.free fa_free) (fns_cons rfl rfl ((d__law_random h).up (by decide)) (fns_cons rfl rfl ((d__law_sets h).up (by decide)) (fns_cons rfl rfl ((d_how_many_at h).up (by decide)) (fns_cons rfl rfl ((d_nearest_right h).up (by decide)) (fns_nil))))), F.bindsN fun _ _ _ _ _ _ us hl => match us, hl with | [_], _ => by kernel_rfl, fun _ m => absurd m (List.not_mem_nil)⟩
end
def loose : List Str := (["CheckError", "InvalidNumber", "InvalidSystem", "InvalidCode", "is_whole", "is_between", "check_number", "orders_fit", "size_of", "member_fits", "figures_of", "member_from", "sum_in", "minus_in", "less_in", "total_in", "row_fits", "table_fits", "system_fits", "check_system", "code_fits", "check_code", "members_of", "sum_of_code", "off_in", "wanted_in", "put_in", "times_over", "apart_in", "distance"] : List Str) ++ (["sets_of", "how_many_at", "nearest_right", "_law_hash", "_law_random", "_law_cell", "_law_generator", "_law_size", "_law_parts", "_law_from", "_law_plus", "_law_less", "_law_off", "_law_shuffled", "_law_orders", "_law_system", "_law_code", "_law_put", "_law_righted", "_law_all", "_law_apart", "_law_right", "_law_wanted", "_law_sets", "_law_counts", "_law_great_right"] : List Str)
abbrev R : PySem.W.OpenRow := PySem.W.OpenLaw.row PySem.Challenge.rw_checkwright_k61_whole_distances
abbrev hk : PySem.W.Hook := hookL 5 fa fn
def ob (s : PySem.W.SharedT) : He.AlD := obsL 5 fa fn (HandSHeadRun.getT s)
theorem ob_eq (s : PySem.W.SharedT) : ob s = hk.obs s.abs := obsL_eq (HandSHeadRun.getT_eq s)
theorem run (w : World) : HandSHeadRun.RunEq R (PySem.W.view R.prog [62]) hk ob 20000 loose w := by
  intro os
  kernel_rfl
theorem law_facts {P : Program} {w : World} {K : Frag} {h : Heap} {mg : Str → Option Value} {f : Addr} (X : K.In h) (G : h.Ns mainGlobals mg) (e : mg ("law" : Str) = some (.ref f)) (c : He.SaysD fa fn K) :
    ∃ fd : FuncData, (∀ (s : Shared) (v : Value), BindsTo s fd ⟨[v], []⟩ [("script", v)]) ∧ ∀ base : Heap, K.In base → base.Ns mainGlobals mg → FnG P w K mg base 10 f fd ["script"] (spOf K E_law) := by
  have hf : Facts fa fn K mg := ⟨⟨h, X, G⟩, c⟩
  obtain ⟨fd, F⟩ := c.def_ 52 (d := mkD 62 "law") rfl
  have ef := e.symm.trans (hf.glo 52)
  cases ef
  have b := FunD.bindsA (ps := ["script"]) F fun _ _ _ _ _ _ us hl => match us, hl with | [_], _ => by kernel_rfl
  exact ⟨fd, fun s v => b s [v] rfl, fun base _ _ => def_ok (k := 9) (L := L_law) (N := N_law) (g := E_law) F ⟨by kernel_rfl, by kernel_rfl, by kernel_rfl, by decide +kernel, by kernel_rfl, by decide +kernel, by decide +kernel⟩ rfl k_law (hf.free fa_free) (fns_cons rfl rfl ((d__law_right hf).up (by decide)) (fns_cons rfl rfl ((d__law_generator hf).up (by decide)) (fns_cons rfl rfl ((d_distance hf).up (by decide)) (fns_cons rfl rfl ((d_how_many_at hf).up (by decide)) (fns_cons rfl rfl ((d_nearest_right hf).up (by decide)) (fns_cons rfl rfl ((d__law_great_right hf).up (by decide)) (fns_nil)))))))⟩
end Lw
set_option Elab.async false
set_option linter.all false
set_option maxRecDepth 100000
namespace Ev
open PySem PySem.Spec PyProof.Rows L2
theorem look0 (a : Option O) (r : Ve) : look (a :: r) 0 = a := by cases a <;> rfl
theorem lookS (a : Option O) (r : Ve) (n : Nat) : look (a :: r) (n + 1) = look r n := rfl
theorem asBool_ok (b : Bool) (e : Ve) : asBool (.ok (.v (.bool b)) e) = .ok b e := rfl
theorem bind_ok {α β : Type} (a : α) (e : Ve) (k : α → Ve → Res β) : Res.bind (.ok a e) k = k a e := rfl
theorem st_okq {α : Type} (a : α) (e : Ve) (k : α → Ve → SRes) : Res.st (.ok a e) k = k a e := rfl
theorem seq_next (e : Ve) (k : Ve → SRes) : SRes.seq (.next e) k = k e := rfl
theorem seq_ret (o : O) (e : Ve) (k : Ve → SRes) : SRes.seq (.ret o e) k = .ret o e := rfl
theorem lift_some {α : Type} (a : α) (e : Ve) : lift (some a) e = .ok a e := rfl
theorem lift_none {α : Type} (e : Ve) : lift (none : Option α) e = .stuck := rfl
theorem resAll_nil (e : Ve) : resAll e [] = some [] := rfl
theorem and_ok (b c : Bool) (e : Ve) : (if b = true then Res.ok (O.v (.bool c)) e else Res.ok (O.v (.bool false)) e) = Res.ok (O.v (.bool (b && c))) e := by cases b <;> rfl
theorem or_ok (b c : Bool) (e : Ve) : (if b = true then Res.ok (O.v (.bool true)) e else Res.ok (O.v (.bool c)) e) = Res.ok (O.v (.bool (b || c))) e := by cases b <;> rfl
theorem isiD_tuple (ds : List D) : isiD (.tuple ds) "tuple" = true := by simp [isiD, kindD]
theorem isiD_list (ds : List D) : isiD (.list ds) "list" = true := by simp [isiD, kindD]
theorem mkTupF_nil : mkTupF [] = some (.v (.tuple [])) := rfl
theorem mkLst_nil : mkLst [] = some (.own []) := rfl
theorem ds_map_vq (ds : List D) : O.ds (ds.map .v) = ds := by
  induction ds with
  | nil => rfl
  | cons d ds ih => simp only [List.map_cons, O.ds, O.d, ih]
theorem ds_nilq : O.ds [] = [] := rfl
theorem filter_ff (ds : List D) : ds.filter (fun _ => false) = [] := List.filter_eq_nil_iff.2 fun _ _ => Bool.false_ne_true
theorem all_isV (ds : List D) : (ds.map O.v).all O.isV = true := by
  induction ds with
  | nil => rfl
  | cons d ds ih => rw [List.map_cons, List.all_cons, ih]; rfl
theorem rev_mapq {α β : Type} (f : α → β) (l : List α) : (l.map f).reverse = l.reverse.map f := List.map_reverse.symm
theorem mkTup_v (ds : List D) : mkTup (ds.map .v) = .v (.tuple ds) := by simp only [mkTup, all_isV, if_true, ds_map_vq]
theorem mkTupF_1 (a : D) : mkTupF [.v a] = some (.v (.tuple [a])) := rfl
theorem mkTupF_2 (a b : D) : mkTupF [.v a, .v b] = some (.v (.tuple [a, b])) := rfl
theorem mkTupF_3 (a b c : D) : mkTupF [.v a, .v b, .v c] = some (.v (.tuple [a, b, c])) := rfl
theorem mkLst_1 (a : O) : mkLst [a] = some (.own [a]) := rfl
theorem mkTupF_v (ds : List D) (h : ds.length ≤ sizeLine) : mkTupF (ds.map .v) = some (.v (.tuple ds)) := by
  simp [mkTupF, fits, h, mkTup_v]
theorem addV_int (s t : Bool) (i j : Int) : addV s (.v (.int i)) t (.v (.int j)) = some (.v (.int (i + j))) := rfl
theorem elems_own (t : Bool) (ds : List D) : elems t (.own (ds.map .v)) = some (true, ds.map .v) := by
  simp only [elems, all_isV, Bool.or_true, if_true]
theorem elems_list (t : Bool) (ds : List D) : elems t (.v (.list ds)) = some (true, ds.map .v) := rfl
theorem elems_tup (t : Bool) (ds : List D) : elems t (.v (.tuple ds)) = some (false, ds.map .v) := rfl
theorem mkLst_v (ds : List D) (h : ds.length ≤ sizeLine) : mkLst (ds.map .v) = some (.own (ds.map .v)) := by
  simp [mkLst, fits, h]
theorem addV_tup (s t : Bool) (a b : List D) (h : a.length + b.length ≤ sizeLine) : addV s (.v (.tuple a)) t (.v (.tuple b)) = some (.v (.tuple (a ++ b))) := by
  simp only [addV, addS, elems_tup, ← List.map_append]; exact mkTupF_v _ (by simpa using h)
theorem addV_oo (s t : Bool) (a b : List D) (h : a.length + b.length ≤ sizeLine) : addV s (.own (a.map .v)) t (.own (b.map .v)) = some (.own ((a ++ b).map .v)) := by
  simp only [addV, addS, elems_own, ← List.map_append]; exact mkLst_v _ (by simpa using h)
theorem addV_ov (s t : Bool) (a b : List D) (h : a.length + b.length ≤ sizeLine) : addV s (.own (a.map .v)) t (.v (.list b)) = some (.own ((a ++ b).map .v)) := by
  simp only [addV, addS, elems_own, elems_list, ← List.map_append]; exact mkLst_v _ (by simpa using h)
theorem addV_vo (s t : Bool) (a b : List D) (h : a.length + b.length ≤ sizeLine) : addV s (.v (.list a)) t (.own (b.map .v)) = some (.own ((a ++ b).map .v)) := by
  simp only [addV, addS, elems_own, elems_list, ← List.map_append]; exact mkLst_v _ (by simpa using h)
theorem seqD_own (ds : List D) : seqD (.own (ds.map .v)) = some ds := by simp only [seqD, O.d, ds_map_vq]
theorem mkTupF_of (os : List O) (h : os.length ≤ 100) (e : os.all O.isV = false) : mkTupF os = some (.tup os) := by
  have : os.length ≤ sizeLine := by rw [show sizeLine = 16777216 by decide]; omega
  simp [mkTupF, fits, mkTup, e, this]
theorem mkTupF_xo (a : O) (l : List O) : mkTupF [a, .own l] = some (.tup [a, .own l]) := mkTupF_of _ (by simp) (by simp [O.isV])
theorem mkTupF_ox (a : O) (l : List O) : mkTupF [.own l, a] = some (.tup [.own l, a]) := mkTupF_of _ (by simp) (by simp [O.isV])
theorem mkTupF_oxx (a b : O) (l : List O) : mkTupF [.own l, a, b] = some (.tup [.own l, a, b]) := mkTupF_of _ (by simp) (by simp [O.isV])
theorem mkTupF_xox (a b : O) (l : List O) : mkTupF [a, .own l, b] = some (.tup [a, .own l, b]) := mkTupF_of _ (by simp) (by simp [O.isV])
theorem mkTupF_xxo (a b : O) (l : List O) : mkTupF [a, b, .own l] = some (.tup [a, b, .own l]) := mkTupF_of _ (by simp) (by simp [O.isV])
theorem mkTupF_xt (a : O) (l : List O) : mkTupF [a, .tup l] = some (.tup [a, .tup l]) := mkTupF_of _ (by simp) (by simp [O.isV])
theorem mkTupF_tx (a : O) (l : List O) : mkTupF [.tup l, a] = some (.tup [.tup l, a]) := mkTupF_of _ (by simp) (by simp [O.isV])
theorem mkTupF_txx (a b : O) (l : List O) : mkTupF [.tup l, a, b] = some (.tup [.tup l, a, b]) := mkTupF_of _ (by simp) (by simp [O.isV])
theorem mkTupF_xtx (a b : O) (l : List O) : mkTupF [a, .tup l, b] = some (.tup [a, .tup l, b]) := mkTupF_of _ (by simp) (by simp [O.isV])
theorem mkTupF_xxt (a b : O) (l : List O) : mkTupF [a, b, .tup l] = some (.tup [a, b, .tup l]) := mkTupF_of _ (by simp) (by simp [O.isV])
theorem mkLst_2 (a b : O) : mkLst [a, b] = some (.own [a, b]) := rfl
theorem mkLst_3 (a b c : O) : mkLst [a, b, c] = some (.own [a, b, c]) := rfl
theorem mkLst_4 (a b c d : O) : mkLst [a, b, c, d] = some (.own [a, b, c, d]) := rfl
theorem elems_tupT (l : List O) : elems true (.tup l) = some (false, l) := rfl
theorem elems_ownT (l : List O) : elems true (.own l) = some (true, l) := rfl
theorem two_str (s t : Str) : twoStr (.str s) (.str t) = true := rfl
theorem eqv_sstr (s : Str) : PyData.eqv (.str s) (.str s) = true := by simp [PyData.eqv]
theorem leafys_ints : ∀ l : List Int, leafys ((l.map PyData.int).map O.v) = true
  | [] => rfl
  | _ :: l => leafys_ints l
theorem leafys_lis : ∀ rs : List (List Int), leafys (rs.map fun r => O.own ((r.map PyData.int).map O.v)) = true
  | [] => rfl
  | r :: rs => by
    have h1 := leafys_ints r
    have h2 := leafys_lis rs
    simp only [List.map_cons, leafys, leafy, h1, h2, Bool.and_true]
theorem Sz : sizeLine = 16777216 := by decide
/-- a list, a tuple of ints -/
abbrev Li (l : List Int) : D := .list (l.map .int)
abbrev Ti (l : List Int) : D := .tuple (l.map .int)
theorem seqD_list (ds : List D) : seqD (.v (.list ds)) = some ds := rfl
theorem seqD_tuple (ds : List D) : seqD (.v (.tuple ds)) = some ds := rfl
theorem putT_one (i : Nat) (d : D) (e : Ve) (h : i < e.length) : putT false (.one i) d e = some (e.set i (some (.v d))) := by
  simp [putT, Tgt.put, h]
theorem mulOk_l {i j : Int} (h : i.natAbs < 18446744073709551616) : mulOk i j = true := by simp [mulOk, small, h]
theorem mulOk_r {i j : Int} (h : j.natAbs < 18446744073709551616) : mulOk i j = true := by simp [mulOk, small, h]
theorem divOk_q {j : Int} (h : 0 < j) (h2 : j < 18446744073709551616) : divOk j = true := by
  have : j.natAbs.log2 < 9000 := by
    rcases Nat.eq_zero_or_pos j.natAbs with h0 | h0
    · rw [h0]; decide
    · exact Nat.lt_of_lt_of_le ((Nat.log2_lt (by omega)).2 (show j.natAbs < 2 ^ 64 by omega)) (by decide)
  simp [divOk, h, this]
end Ev
namespace Lw
open PySem PySem.Spec PyProof.Rows L2 Ev
theorem E_is_whole_ps : E_is_whole.ps.length = 1 := rfl
theorem E_is_whole_io : E_is_whole.io = false := rfl
theorem E_is_between_ps : E_is_between.ps.length = 3 := rfl
theorem E_is_between_io : E_is_between.io = false := rfl
theorem E_check_number_ps : E_check_number.ps.length = 3 := rfl
theorem E_check_number_io : E_check_number.io = false := rfl
theorem E_orders_fit_ps : E_orders_fit.ps.length = 1 := rfl
theorem E_orders_fit_io : E_orders_fit.io = false := rfl
theorem E_size_of_ps : E_size_of.ps.length = 1 := rfl
theorem E_size_of_io : E_size_of.io = false := rfl
theorem E_member_fits_ps : E_member_fits.ps.length = 2 := rfl
theorem E_member_fits_io : E_member_fits.io = false := rfl
theorem E_figures_of_ps : E_figures_of.ps.length = 2 := rfl
theorem E_figures_of_io : E_figures_of.io = false := rfl
theorem E_member_from_ps : E_member_from.ps.length = 2 := rfl
theorem E_member_from_io : E_member_from.io = false := rfl
theorem E_sum_in_ps : E_sum_in.ps.length = 3 := rfl
theorem E_sum_in_io : E_sum_in.io = false := rfl
theorem E_minus_in_ps : E_minus_in.ps.length = 2 := rfl
theorem E_minus_in_io : E_minus_in.io = false := rfl
theorem E_less_in_ps : E_less_in.ps.length = 3 := rfl
theorem E_less_in_io : E_less_in.io = false := rfl
theorem E_total_in_ps : E_total_in.ps.length = 2 := rfl
theorem E_total_in_io : E_total_in.io = false := rfl
theorem E_row_fits_ps : E_row_fits.ps.length = 2 := rfl
theorem E_row_fits_io : E_row_fits.io = false := rfl
theorem E_table_fits_ps : E_table_fits.ps.length = 2 := rfl
theorem E_table_fits_io : E_table_fits.io = false := rfl
theorem E_system_fits_ps : E_system_fits.ps.length = 1 := rfl
theorem E_system_fits_io : E_system_fits.io = false := rfl
theorem E_check_system_ps : E_check_system.ps.length = 1 := rfl
theorem E_check_system_io : E_check_system.io = false := rfl
theorem E_code_fits_ps : E_code_fits.ps.length = 2 := rfl
theorem E_code_fits_io : E_code_fits.io = false := rfl
theorem E_check_code_ps : E_check_code.ps.length = 2 := rfl
theorem E_check_code_io : E_check_code.io = false := rfl
theorem E_members_of_ps : E_members_of.ps.length = 2 := rfl
theorem E_members_of_io : E_members_of.io = false := rfl
theorem E_sum_of_code_ps : E_sum_of_code.ps.length = 2 := rfl
theorem E_sum_of_code_io : E_sum_of_code.io = false := rfl
theorem E_off_in_ps : E_off_in.ps.length = 2 := rfl
theorem E_off_in_io : E_off_in.io = false := rfl
theorem E_wanted_in_ps : E_wanted_in.ps.length = 3 := rfl
theorem E_wanted_in_io : E_wanted_in.io = false := rfl
theorem E_put_in_ps : E_put_in.ps.length = 3 := rfl
theorem E_put_in_io : E_put_in.io = false := rfl
theorem E_times_over_ps : E_times_over.ps.length = 2 := rfl
theorem E_times_over_io : E_times_over.io = false := rfl
theorem E_apart_in_ps : E_apart_in.ps.length = 2 := rfl
theorem E_apart_in_io : E_apart_in.io = false := rfl
theorem E_distance_ps : E_distance.ps.length = 3 := rfl
theorem E_distance_io : E_distance.io = false := rfl
theorem E_sets_of_ps : E_sets_of.ps.length = 2 := rfl
theorem E_sets_of_io : E_sets_of.io = false := rfl
theorem E_how_many_at_ps : E_how_many_at.ps.length = 3 := rfl
theorem E_how_many_at_io : E_how_many_at.io = false := rfl
theorem E_nearest_right_ps : E_nearest_right.ps.length = 2 := rfl
theorem E_nearest_right_io : E_nearest_right.io = false := rfl
theorem E__law_hash_ps : E__law_hash.ps.length = 2 := rfl
theorem E__law_hash_io : E__law_hash.io = false := rfl
theorem E__law_random_ps : E__law_random.ps.length = 2 := rfl
theorem E__law_random_io : E__law_random.io = true := rfl
theorem E__law_cell_ps : E__law_cell.ps.length = 2 := rfl
theorem E__law_cell_io : E__law_cell.io = false := rfl
theorem E__law_generator_ps : E__law_generator.ps.length = 2 := rfl
theorem E__law_generator_io : E__law_generator.io = false := rfl
theorem E__law_size_ps : E__law_size.ps.length = 1 := rfl
theorem E__law_size_io : E__law_size.io = false := rfl
theorem E__law_parts_ps : E__law_parts.ps.length = 2 := rfl
theorem E__law_parts_io : E__law_parts.io = false := rfl
theorem E__law_from_ps : E__law_from.ps.length = 2 := rfl
theorem E__law_from_io : E__law_from.io = false := rfl
theorem E__law_plus_ps : E__law_plus.ps.length = 3 := rfl
theorem E__law_plus_io : E__law_plus.io = false := rfl
theorem E__law_less_ps : E__law_less.ps.length = 3 := rfl
theorem E__law_less_io : E__law_less.io = false := rfl
theorem E__law_off_ps : E__law_off.ps.length = 2 := rfl
theorem E__law_off_io : E__law_off.io = false := rfl
theorem E__law_shuffled_ps : E__law_shuffled.ps.length = 2 := rfl
theorem E__law_shuffled_io : E__law_shuffled.io = true := rfl
theorem E__law_orders_ps : E__law_orders.ps.length = 1 := rfl
theorem E__law_orders_io : E__law_orders.io = true := rfl
theorem E__law_system_ps : E__law_system.ps.length = 3 := rfl
theorem E__law_system_io : E__law_system.io = true := rfl
theorem E__law_code_ps : E__law_code.ps.length = 2 := rfl
theorem E__law_code_io : E__law_code.io = true := rfl
theorem E__law_put_ps : E__law_put.ps.length = 3 := rfl
theorem E__law_put_io : E__law_put.io = false := rfl
theorem E__law_righted_ps : E__law_righted.ps.length = 2 := rfl
theorem E__law_righted_io : E__law_righted.io = true := rfl
theorem E__law_all_ps : E__law_all.ps.length = 2 := rfl
theorem E__law_all_io : E__law_all.io = false := rfl
theorem E__law_apart_ps : E__law_apart.ps.length = 2 := rfl
theorem E__law_apart_io : E__law_apart.io = false := rfl
theorem E__law_sets_ps : E__law_sets.ps.length = 2 := rfl
theorem E__law_sets_io : E__law_sets.io = false := rfl
theorem E__law_counts_ps : E__law_counts.ps.length = 3 := rfl
theorem E__law_counts_io : E__law_counts.io = false := rfl
theorem E__law_wanted_ps : E__law_wanted.ps.length = 3 := rfl
theorem E__law_wanted_io : E__law_wanted.io = false := rfl
theorem E__law_right_ps : E__law_right.ps.length = 2 := rfl
theorem E__law_right_io : E__law_right.io = true := rfl
theorem E__law_great_right_ps : E__law_great_right.ps.length = 1 := rfl
theorem E__law_great_right_io : E__law_great_right.io = true := rfl
theorem E_law_ps : E_law.ps.length = 1 := rfl
theorem E_law_io : E_law.io = false := rfl

theorem p_is_whole (d : D) : E_is_whole.sem [.v d] = .ok (.v (.bool (match d with | .int _ => true | _ => false))) none := by
  cases d <;> rfl
theorem p_is_between (i a b : Int) : E_is_between.sem [.v (.int i), .v (.int a), .v (.int b)] = .ok (.v (.bool (decide (a ≤ i) && decide (i ≤ b)))) none := by
  show S_is_between _ = _
  simp only [S_is_between, I_is_between, L_is_between, runDef, exs, ex1, den, denPs, denP, denEs, denC, denO, denI, bind_ok, st_okq, seq_next, seq_ret, lift_some, look0, lookS, asBool_ok, lift_none, and_ok, or_ok, Tgt.slots, wipeE, backE, keepV, Tgt.put, setMany, ds_map_vq, ds_nilq, filter_ff, rev_mapq, mkTup_v, mkTupF_1, mkTupF_2, mkTupF_3, mkLst_1, seqD_list, seqD_tuple, seqD_own, all_isV, rsat_ok, ssat_next, ssat_ret, Function.comp_apply, addV_int, rdIdx, elems_own, elems_list, elems_tup, Bool.true_or, List.length_map, List.isEmpty_nil, List.isEmpty_cons, isiD_tuple, isiD_list, mkTupF_nil, mkLst_nil, shaped_int, shaped_none, shaped_bool, shaped_Li, shaped_Ti, shaped_LLi, shaped_Lnil, shaped_Tnil, eqv_int, eqv_Li, eqv_Ti, eqv_LLi, eqv_Lnil, eqv_Tnil, bool2, List.isEmpty_map, List.getElem_map, Int.reduceLT, Int.reduceLE, leafys_ints, leafys_lis, two_str, eqv_sstr, mkTupF_xo, mkTupF_ox, mkTupF_oxx, mkTupF_xox, mkTupF_xxo, mkTupF_xt, mkTupF_tx, mkTupF_txx, mkTupF_xtx, mkTupF_xxt, mkLst_2, mkLst_3, mkLst_4, elems_tupT, elems_ownT, Bool.or_true, List.contains_cons, List.contains_nil, res1, resAll, resAll_nil, Option.map_some, Option.map_none, pr, pr1, pr2, int1, int2, intOf, oI, oB, Ev.data2, isNone, rdVar, mvVar, argO, argOs, lent, Ev.borrowed, endCall, Ev.finish, outOf, doCall, leafy, leafyOut, List.map_cons, List.map_nil, List.cons_append, List.nil_append, List.append_nil, List.length_cons, List.length_nil, List.getElem?_cons_zero, List.getElem?_cons_succ, Nat.reduceAdd, Nat.reduceSub, Nat.zero_add, List.replicate_succ, List.replicate_zero, List.any_cons, List.any_nil, Bool.or_false, Bool.false_or, Bool.and_true, Bool.true_and, Bool.false_and, Bool.and_false, Bool.not_true, Bool.not_false, noList, noLists, leafys, Bool.false_eq_true, if_true, if_false, ite_true, ite_false, reduceIte, List.set_cons_zero, List.set_cons_succ, O.d, liftS, setN, doTg, doTgs, decide_true, decide_false, Nat.reduceLT, Nat.reduceBEq, Nat.reduceEqDiff, beq_self_eq_true, E_is_whole_ps, E_is_whole_io, p_is_whole]
theorem p_is_betweenN (i a : Int) : E_is_between.sem [.v (.int i), .v (.int a), .v .none] = .ok (.v (.bool (decide (a ≤ i)))) none := by
  show S_is_between _ = _
  simp only [S_is_between, I_is_between, L_is_between, runDef, exs, ex1, den, denPs, denP, denEs, denC, denO, denI, bind_ok, st_okq, seq_next, seq_ret, lift_some, look0, lookS, asBool_ok, lift_none, and_ok, or_ok, Tgt.slots, wipeE, backE, keepV, Tgt.put, setMany, ds_map_vq, ds_nilq, filter_ff, rev_mapq, mkTup_v, mkTupF_1, mkTupF_2, mkTupF_3, mkLst_1, seqD_list, seqD_tuple, seqD_own, all_isV, rsat_ok, ssat_next, ssat_ret, Function.comp_apply, addV_int, rdIdx, elems_own, elems_list, elems_tup, Bool.true_or, List.length_map, List.isEmpty_nil, List.isEmpty_cons, isiD_tuple, isiD_list, mkTupF_nil, mkLst_nil, shaped_int, shaped_none, shaped_bool, shaped_Li, shaped_Ti, shaped_LLi, shaped_Lnil, shaped_Tnil, eqv_int, eqv_Li, eqv_Ti, eqv_LLi, eqv_Lnil, eqv_Tnil, bool2, List.isEmpty_map, List.getElem_map, Int.reduceLT, Int.reduceLE, leafys_ints, leafys_lis, two_str, eqv_sstr, mkTupF_xo, mkTupF_ox, mkTupF_oxx, mkTupF_xox, mkTupF_xxo, mkTupF_xt, mkTupF_tx, mkTupF_txx, mkTupF_xtx, mkTupF_xxt, mkLst_2, mkLst_3, mkLst_4, elems_tupT, elems_ownT, Bool.or_true, List.contains_cons, List.contains_nil, res1, resAll, resAll_nil, Option.map_some, Option.map_none, pr, pr1, pr2, int1, int2, intOf, oI, oB, Ev.data2, isNone, rdVar, mvVar, argO, argOs, lent, Ev.borrowed, endCall, Ev.finish, outOf, doCall, leafy, leafyOut, List.map_cons, List.map_nil, List.cons_append, List.nil_append, List.append_nil, List.length_cons, List.length_nil, List.getElem?_cons_zero, List.getElem?_cons_succ, Nat.reduceAdd, Nat.reduceSub, Nat.zero_add, List.replicate_succ, List.replicate_zero, List.any_cons, List.any_nil, Bool.or_false, Bool.false_or, Bool.and_true, Bool.true_and, Bool.false_and, Bool.and_false, Bool.not_true, Bool.not_false, noList, noLists, leafys, Bool.false_eq_true, if_true, if_false, ite_true, ite_false, reduceIte, List.set_cons_zero, List.set_cons_succ, O.d, liftS, setN, doTg, doTgs, decide_true, decide_false, Nat.reduceLT, Nat.reduceBEq, Nat.reduceEqDiff, beq_self_eq_true, E_is_whole_ps, E_is_whole_io, p_is_whole]
def Sm (l : List Int) : Prop := ∀ z ∈ l, z.natAbs < 18446744073709551616
theorem p_size_of (l : List Int) (hl : Sm l) : E_size_of.sem [.v (Ti l)] = .ok (.v (.int l.prod)) none := by
  show S_size_of _ = _
  refine sat_fin ?_
  simp only [S_size_of, I_size_of, L_size_of, runDef, exs, ex1, den, denPs, denP, denEs, denC, denO, denI, bind_ok, st_okq, seq_next, seq_ret, lift_some, look0, lookS, asBool_ok, lift_none, and_ok, or_ok, Tgt.slots, wipeE, backE, keepV, Tgt.put, setMany, ds_map_vq, ds_nilq, filter_ff, rev_mapq, mkTup_v, mkTupF_1, mkTupF_2, mkTupF_3, mkLst_1, seqD_list, seqD_tuple, seqD_own, all_isV, rsat_ok, ssat_next, ssat_ret, Function.comp_apply, addV_int, rdIdx, elems_own, elems_list, elems_tup, Bool.true_or, List.length_map, List.isEmpty_nil, List.isEmpty_cons, isiD_tuple, isiD_list, mkTupF_nil, mkLst_nil, shaped_int, shaped_none, shaped_bool, shaped_Li, shaped_Ti, shaped_LLi, shaped_Lnil, shaped_Tnil, eqv_int, eqv_Li, eqv_Ti, eqv_LLi, eqv_Lnil, eqv_Tnil, bool2, List.isEmpty_map, List.getElem_map, Int.reduceLT, Int.reduceLE, leafys_ints, leafys_lis, two_str, eqv_sstr, mkTupF_xo, mkTupF_ox, mkTupF_oxx, mkTupF_xox, mkTupF_xxo, mkTupF_xt, mkTupF_tx, mkTupF_txx, mkTupF_xtx, mkTupF_xxt, mkLst_2, mkLst_3, mkLst_4, elems_tupT, elems_ownT, Bool.or_true, List.contains_cons, List.contains_nil, res1, resAll, resAll_nil, Option.map_some, Option.map_none, pr, pr1, pr2, int1, int2, intOf, oI, oB, Ev.data2, isNone, rdVar, mvVar, argO, argOs, lent, Ev.borrowed, endCall, Ev.finish, outOf, doCall, leafy, leafyOut, List.map_cons, List.map_nil, List.cons_append, List.nil_append, List.append_nil, List.length_cons, List.length_nil, List.getElem?_cons_zero, List.getElem?_cons_succ, Nat.reduceAdd, Nat.reduceSub, Nat.zero_add, List.replicate_succ, List.replicate_zero, List.any_cons, List.any_nil, Bool.or_false, Bool.false_or, Bool.and_true, Bool.true_and, Bool.false_and, Bool.and_false, Bool.not_true, Bool.not_false, noList, noLists, leafys, Bool.false_eq_true, if_true, if_false, ite_true, ite_false, reduceIte, List.set_cons_zero, List.set_cons_succ, O.d, liftS, setN, doTg, doTgs, decide_true, decide_false, Nat.reduceLT, Nat.reduceBEq, Nat.reduceEqDiff, beq_self_eq_true, seqD_tuple]
  refine sat_seq (sat_for (fun k e => ∃ x, e = [some (.v (Ti l)), some (.v (.int (l.take k).prod)), x]) ⟨_, rfl⟩ ?_ ?_)
  · rintro k hk e ⟨x, rfl⟩
    simp only [List.length_map] at hk
    refine ⟨_, putT_one _ _ _ (by simp), ?_⟩
    simp only [exs, ex1, den, denPs, denP, denEs, denC, denO, denI, bind_ok, st_okq, seq_next, seq_ret, lift_some, look0, lookS, asBool_ok, lift_none, and_ok, or_ok, Tgt.slots, wipeE, backE, keepV, Tgt.put, setMany, ds_map_vq, ds_nilq, filter_ff, rev_mapq, mkTup_v, mkTupF_1, mkTupF_2, mkTupF_3, mkLst_1, seqD_list, seqD_tuple, seqD_own, all_isV, rsat_ok, ssat_next, ssat_ret, Function.comp_apply, addV_int, rdIdx, elems_own, elems_list, elems_tup, Bool.true_or, List.length_map, List.isEmpty_nil, List.isEmpty_cons, isiD_tuple, isiD_list, mkTupF_nil, mkLst_nil, shaped_int, shaped_none, shaped_bool, shaped_Li, shaped_Ti, shaped_LLi, shaped_Lnil, shaped_Tnil, eqv_int, eqv_Li, eqv_Ti, eqv_LLi, eqv_Lnil, eqv_Tnil, bool2, List.isEmpty_map, List.getElem_map, Int.reduceLT, Int.reduceLE, leafys_ints, leafys_lis, two_str, eqv_sstr, mkTupF_xo, mkTupF_ox, mkTupF_oxx, mkTupF_xox, mkTupF_xxo, mkTupF_xt, mkTupF_tx, mkTupF_txx, mkTupF_xtx, mkTupF_xxt, mkLst_2, mkLst_3, mkLst_4, elems_tupT, elems_ownT, Bool.or_true, List.contains_cons, List.contains_nil, res1, resAll, resAll_nil, Option.map_some, Option.map_none, pr, pr1, pr2, int1, int2, intOf, oI, oB, Ev.data2, isNone, rdVar, mvVar, argO, argOs, lent, Ev.borrowed, endCall, Ev.finish, outOf, doCall, leafy, leafyOut, List.map_cons, List.map_nil, List.cons_append, List.nil_append, List.append_nil, List.length_cons, List.length_nil, List.getElem?_cons_zero, List.getElem?_cons_succ, Nat.reduceAdd, Nat.reduceSub, Nat.zero_add, List.replicate_succ, List.replicate_zero, List.any_cons, List.any_nil, Bool.or_false, Bool.false_or, Bool.and_true, Bool.true_and, Bool.false_and, Bool.and_false, Bool.not_true, Bool.not_false, noList, noLists, leafys, Bool.false_eq_true, if_true, if_false, ite_true, ite_false, reduceIte, List.set_cons_zero, List.set_cons_succ, O.d, liftS, setN, doTg, doTgs, decide_true, decide_false, Nat.reduceLT, Nat.reduceBEq, Nat.reduceEqDiff, beq_self_eq_true, mulV, List.getElem_map, mulOk_r (hl _ (List.getElem_mem hk)), ssat_next, prod_take l k hk]
    exact ⟨_, rfl⟩
  · rintro e ⟨x, rfl⟩
    simp only [exs, ex1, den, denPs, denP, denEs, denC, denO, denI, bind_ok, st_okq, seq_next, seq_ret, lift_some, look0, lookS, asBool_ok, lift_none, and_ok, or_ok, Tgt.slots, wipeE, backE, keepV, Tgt.put, setMany, ds_map_vq, ds_nilq, filter_ff, rev_mapq, mkTup_v, mkTupF_1, mkTupF_2, mkTupF_3, mkLst_1, seqD_list, seqD_tuple, seqD_own, all_isV, rsat_ok, ssat_next, ssat_ret, Function.comp_apply, addV_int, rdIdx, elems_own, elems_list, elems_tup, Bool.true_or, List.length_map, List.isEmpty_nil, List.isEmpty_cons, isiD_tuple, isiD_list, mkTupF_nil, mkLst_nil, shaped_int, shaped_none, shaped_bool, shaped_Li, shaped_Ti, shaped_LLi, shaped_Lnil, shaped_Tnil, eqv_int, eqv_Li, eqv_Ti, eqv_LLi, eqv_Lnil, eqv_Tnil, bool2, List.isEmpty_map, List.getElem_map, Int.reduceLT, Int.reduceLE, leafys_ints, leafys_lis, two_str, eqv_sstr, mkTupF_xo, mkTupF_ox, mkTupF_oxx, mkTupF_xox, mkTupF_xxo, mkTupF_xt, mkTupF_tx, mkTupF_txx, mkTupF_xtx, mkTupF_xxt, mkLst_2, mkLst_3, mkLst_4, elems_tupT, elems_ownT, Bool.or_true, List.contains_cons, List.contains_nil, res1, resAll, resAll_nil, Option.map_some, Option.map_none, pr, pr1, pr2, int1, int2, intOf, oI, oB, Ev.data2, isNone, rdVar, mvVar, argO, argOs, lent, Ev.borrowed, endCall, Ev.finish, outOf, doCall, leafy, leafyOut, List.map_cons, List.map_nil, List.cons_append, List.nil_append, List.append_nil, List.length_cons, List.length_nil, List.getElem?_cons_zero, List.getElem?_cons_succ, Nat.reduceAdd, Nat.reduceSub, Nat.zero_add, List.replicate_succ, List.replicate_zero, List.any_cons, List.any_nil, Bool.or_false, Bool.false_or, Bool.and_true, Bool.true_and, Bool.false_and, Bool.and_false, Bool.not_true, Bool.not_false, noList, noLists, leafys, Bool.false_eq_true, if_true, if_false, ite_true, ite_false, reduceIte, List.set_cons_zero, List.set_cons_succ, O.d, liftS, setN, doTg, doTgs, decide_true, decide_false, Nat.reduceLT, Nat.reduceBEq, Nat.reduceEqDiff, beq_self_eq_true, ssat_ret, List.length_map, List.take_length, and_self]
theorem p__law_size (l : List Int) (hl : Sm l) : E__law_size.sem [.v (Ti l)] = .ok (.v (.int l.prod)) none := by
  show S__law_size _ = _
  refine sat_fin ?_
  simp only [S__law_size, I__law_size, L__law_size, runDef, exs, ex1, den, denPs, denP, denEs, denC, denO, denI, bind_ok, st_okq, seq_next, seq_ret, lift_some, look0, lookS, asBool_ok, lift_none, and_ok, or_ok, Tgt.slots, wipeE, backE, keepV, Tgt.put, setMany, ds_map_vq, ds_nilq, filter_ff, rev_mapq, mkTup_v, mkTupF_1, mkTupF_2, mkTupF_3, mkLst_1, seqD_list, seqD_tuple, seqD_own, all_isV, rsat_ok, ssat_next, ssat_ret, Function.comp_apply, addV_int, rdIdx, elems_own, elems_list, elems_tup, Bool.true_or, List.length_map, List.isEmpty_nil, List.isEmpty_cons, isiD_tuple, isiD_list, mkTupF_nil, mkLst_nil, shaped_int, shaped_none, shaped_bool, shaped_Li, shaped_Ti, shaped_LLi, shaped_Lnil, shaped_Tnil, eqv_int, eqv_Li, eqv_Ti, eqv_LLi, eqv_Lnil, eqv_Tnil, bool2, List.isEmpty_map, List.getElem_map, Int.reduceLT, Int.reduceLE, leafys_ints, leafys_lis, two_str, eqv_sstr, mkTupF_xo, mkTupF_ox, mkTupF_oxx, mkTupF_xox, mkTupF_xxo, mkTupF_xt, mkTupF_tx, mkTupF_txx, mkTupF_xtx, mkTupF_xxt, mkLst_2, mkLst_3, mkLst_4, elems_tupT, elems_ownT, Bool.or_true, List.contains_cons, List.contains_nil, res1, resAll, resAll_nil, Option.map_some, Option.map_none, pr, pr1, pr2, int1, int2, intOf, oI, oB, Ev.data2, isNone, rdVar, mvVar, argO, argOs, lent, Ev.borrowed, endCall, Ev.finish, outOf, doCall, leafy, leafyOut, List.map_cons, List.map_nil, List.cons_append, List.nil_append, List.append_nil, List.length_cons, List.length_nil, List.getElem?_cons_zero, List.getElem?_cons_succ, Nat.reduceAdd, Nat.reduceSub, Nat.zero_add, List.replicate_succ, List.replicate_zero, List.any_cons, List.any_nil, Bool.or_false, Bool.false_or, Bool.and_true, Bool.true_and, Bool.false_and, Bool.and_false, Bool.not_true, Bool.not_false, noList, noLists, leafys, Bool.false_eq_true, if_true, if_false, ite_true, ite_false, reduceIte, List.set_cons_zero, List.set_cons_succ, O.d, liftS, setN, doTg, doTgs, decide_true, decide_false, Nat.reduceLT, Nat.reduceBEq, Nat.reduceEqDiff, beq_self_eq_true, seqD_tuple]
  refine sat_seq (sat_for (fun k e => ∃ x, e = [some (.v (Ti l)), some (.v (.int (l.take k).prod)), x]) ⟨_, rfl⟩ ?_ ?_)
  · rintro k hk e ⟨x, rfl⟩
    simp only [List.length_map] at hk
    refine ⟨_, putT_one _ _ _ (by simp), ?_⟩
    simp only [exs, ex1, den, denPs, denP, denEs, denC, denO, denI, bind_ok, st_okq, seq_next, seq_ret, lift_some, look0, lookS, asBool_ok, lift_none, and_ok, or_ok, Tgt.slots, wipeE, backE, keepV, Tgt.put, setMany, ds_map_vq, ds_nilq, filter_ff, rev_mapq, mkTup_v, mkTupF_1, mkTupF_2, mkTupF_3, mkLst_1, seqD_list, seqD_tuple, seqD_own, all_isV, rsat_ok, ssat_next, ssat_ret, Function.comp_apply, addV_int, rdIdx, elems_own, elems_list, elems_tup, Bool.true_or, List.length_map, List.isEmpty_nil, List.isEmpty_cons, isiD_tuple, isiD_list, mkTupF_nil, mkLst_nil, shaped_int, shaped_none, shaped_bool, shaped_Li, shaped_Ti, shaped_LLi, shaped_Lnil, shaped_Tnil, eqv_int, eqv_Li, eqv_Ti, eqv_LLi, eqv_Lnil, eqv_Tnil, bool2, List.isEmpty_map, List.getElem_map, Int.reduceLT, Int.reduceLE, leafys_ints, leafys_lis, two_str, eqv_sstr, mkTupF_xo, mkTupF_ox, mkTupF_oxx, mkTupF_xox, mkTupF_xxo, mkTupF_xt, mkTupF_tx, mkTupF_txx, mkTupF_xtx, mkTupF_xxt, mkLst_2, mkLst_3, mkLst_4, elems_tupT, elems_ownT, Bool.or_true, List.contains_cons, List.contains_nil, res1, resAll, resAll_nil, Option.map_some, Option.map_none, pr, pr1, pr2, int1, int2, intOf, oI, oB, Ev.data2, isNone, rdVar, mvVar, argO, argOs, lent, Ev.borrowed, endCall, Ev.finish, outOf, doCall, leafy, leafyOut, List.map_cons, List.map_nil, List.cons_append, List.nil_append, List.append_nil, List.length_cons, List.length_nil, List.getElem?_cons_zero, List.getElem?_cons_succ, Nat.reduceAdd, Nat.reduceSub, Nat.zero_add, List.replicate_succ, List.replicate_zero, List.any_cons, List.any_nil, Bool.or_false, Bool.false_or, Bool.and_true, Bool.true_and, Bool.false_and, Bool.and_false, Bool.not_true, Bool.not_false, noList, noLists, leafys, Bool.false_eq_true, if_true, if_false, ite_true, ite_false, reduceIte, List.set_cons_zero, List.set_cons_succ, O.d, liftS, setN, doTg, doTgs, decide_true, decide_false, Nat.reduceLT, Nat.reduceBEq, Nat.reduceEqDiff, beq_self_eq_true, mulV, List.getElem_map, mulOk_r (hl _ (List.getElem_mem hk)), ssat_next, prod_take l k hk]
    exact ⟨_, rfl⟩
  · rintro e ⟨x, rfl⟩
    simp only [exs, ex1, den, denPs, denP, denEs, denC, denO, denI, bind_ok, st_okq, seq_next, seq_ret, lift_some, look0, lookS, asBool_ok, lift_none, and_ok, or_ok, Tgt.slots, wipeE, backE, keepV, Tgt.put, setMany, ds_map_vq, ds_nilq, filter_ff, rev_mapq, mkTup_v, mkTupF_1, mkTupF_2, mkTupF_3, mkLst_1, seqD_list, seqD_tuple, seqD_own, all_isV, rsat_ok, ssat_next, ssat_ret, Function.comp_apply, addV_int, rdIdx, elems_own, elems_list, elems_tup, Bool.true_or, List.length_map, List.isEmpty_nil, List.isEmpty_cons, isiD_tuple, isiD_list, mkTupF_nil, mkLst_nil, shaped_int, shaped_none, shaped_bool, shaped_Li, shaped_Ti, shaped_LLi, shaped_Lnil, shaped_Tnil, eqv_int, eqv_Li, eqv_Ti, eqv_LLi, eqv_Lnil, eqv_Tnil, bool2, List.isEmpty_map, List.getElem_map, Int.reduceLT, Int.reduceLE, leafys_ints, leafys_lis, two_str, eqv_sstr, mkTupF_xo, mkTupF_ox, mkTupF_oxx, mkTupF_xox, mkTupF_xxo, mkTupF_xt, mkTupF_tx, mkTupF_txx, mkTupF_xtx, mkTupF_xxt, mkLst_2, mkLst_3, mkLst_4, elems_tupT, elems_ownT, Bool.or_true, List.contains_cons, List.contains_nil, res1, resAll, resAll_nil, Option.map_some, Option.map_none, pr, pr1, pr2, int1, int2, intOf, oI, oB, Ev.data2, isNone, rdVar, mvVar, argO, argOs, lent, Ev.borrowed, endCall, Ev.finish, outOf, doCall, leafy, leafyOut, List.map_cons, List.map_nil, List.cons_append, List.nil_append, List.append_nil, List.length_cons, List.length_nil, List.getElem?_cons_zero, List.getElem?_cons_succ, Nat.reduceAdd, Nat.reduceSub, Nat.zero_add, List.replicate_succ, List.replicate_zero, List.any_cons, List.any_nil, Bool.or_false, Bool.false_or, Bool.and_true, Bool.true_and, Bool.false_and, Bool.and_false, Bool.not_true, Bool.not_false, noList, noLists, leafys, Bool.false_eq_true, if_true, if_false, ite_true, ite_false, reduceIte, List.set_cons_zero, List.set_cons_succ, O.d, liftS, setN, doTg, doTgs, decide_true, decide_false, Nat.reduceLT, Nat.reduceBEq, Nat.reduceEqDiff, beq_self_eq_true, ssat_ret, List.length_map, List.take_length, and_self]
theorem p_member_fits (l : List Int) (hl : Sm l) (i : Int) : E_member_fits.sem [.v (Ti l), .v (.int i)] = .ok (.v (.bool (decide (0 ≤ i) && decide (i ≤ l.prod - 1)))) none := by
  show S_member_fits _ = _
  refine sat_fin ?_
  simp only [S_member_fits, I_member_fits, L_member_fits, runDef, exs, ex1, den, denPs, denP, denEs, denC, denO, denI, bind_ok, st_okq, seq_next, seq_ret, lift_some, look0, lookS, asBool_ok, lift_none, and_ok, or_ok, Tgt.slots, wipeE, backE, keepV, Tgt.put, setMany, ds_map_vq, ds_nilq, filter_ff, rev_mapq, mkTup_v, mkTupF_1, mkTupF_2, mkTupF_3, mkLst_1, seqD_list, seqD_tuple, seqD_own, all_isV, rsat_ok, ssat_next, ssat_ret, Function.comp_apply, addV_int, rdIdx, elems_own, elems_list, elems_tup, Bool.true_or, List.length_map, List.isEmpty_nil, List.isEmpty_cons, isiD_tuple, isiD_list, mkTupF_nil, mkLst_nil, shaped_int, shaped_none, shaped_bool, shaped_Li, shaped_Ti, shaped_LLi, shaped_Lnil, shaped_Tnil, eqv_int, eqv_Li, eqv_Ti, eqv_LLi, eqv_Lnil, eqv_Tnil, bool2, List.isEmpty_map, List.getElem_map, Int.reduceLT, Int.reduceLE, leafys_ints, leafys_lis, two_str, eqv_sstr, mkTupF_xo, mkTupF_ox, mkTupF_oxx, mkTupF_xox, mkTupF_xxo, mkTupF_xt, mkTupF_tx, mkTupF_txx, mkTupF_xtx, mkTupF_xxt, mkLst_2, mkLst_3, mkLst_4, elems_tupT, elems_ownT, Bool.or_true, List.contains_cons, List.contains_nil, res1, resAll, resAll_nil, Option.map_some, Option.map_none, pr, pr1, pr2, int1, int2, intOf, oI, oB, Ev.data2, isNone, rdVar, mvVar, argO, argOs, lent, Ev.borrowed, endCall, Ev.finish, outOf, doCall, leafy, leafyOut, List.map_cons, List.map_nil, List.cons_append, List.nil_append, List.append_nil, List.length_cons, List.length_nil, List.getElem?_cons_zero, List.getElem?_cons_succ, Nat.reduceAdd, Nat.reduceSub, Nat.zero_add, List.replicate_succ, List.replicate_zero, List.any_cons, List.any_nil, Bool.or_false, Bool.false_or, Bool.and_true, Bool.true_and, Bool.false_and, Bool.and_false, Bool.not_true, Bool.not_false, noList, noLists, leafys, Bool.false_eq_true, if_true, if_false, ite_true, ite_false, reduceIte, List.set_cons_zero, List.set_cons_succ, O.d, liftS, setN, doTg, doTgs, decide_true, decide_false, Nat.reduceLT, Nat.reduceBEq, Nat.reduceEqDiff, beq_self_eq_true, E_is_between_ps, E_is_between_io, E_size_of_ps, E_size_of_io, p_size_of l hl, p_is_between, ssat_ret, and_self]
theorem p_check_number (i : Int) (h : 0 ≤ i) : E_check_number.sem [.v (.int i), .v (.int 0), .v .none] = .ok (.v .none) none := by
  show S_check_number _ = _
  refine sat_fin ?_
  simp only [S_check_number, I_check_number, L_check_number, runDef, exs, ex1, den, denPs, denP, denEs, denC, denO, denI, bind_ok, st_okq, seq_next, seq_ret, lift_some, look0, lookS, asBool_ok, lift_none, and_ok, or_ok, Tgt.slots, wipeE, backE, keepV, Tgt.put, setMany, ds_map_vq, ds_nilq, filter_ff, rev_mapq, mkTup_v, mkTupF_1, mkTupF_2, mkTupF_3, mkLst_1, seqD_list, seqD_tuple, seqD_own, all_isV, rsat_ok, ssat_next, ssat_ret, Function.comp_apply, addV_int, rdIdx, elems_own, elems_list, elems_tup, Bool.true_or, List.length_map, List.isEmpty_nil, List.isEmpty_cons, isiD_tuple, isiD_list, mkTupF_nil, mkLst_nil, shaped_int, shaped_none, shaped_bool, shaped_Li, shaped_Ti, shaped_LLi, shaped_Lnil, shaped_Tnil, eqv_int, eqv_Li, eqv_Ti, eqv_LLi, eqv_Lnil, eqv_Tnil, bool2, List.isEmpty_map, List.getElem_map, Int.reduceLT, Int.reduceLE, leafys_ints, leafys_lis, two_str, eqv_sstr, mkTupF_xo, mkTupF_ox, mkTupF_oxx, mkTupF_xox, mkTupF_xxo, mkTupF_xt, mkTupF_tx, mkTupF_txx, mkTupF_xtx, mkTupF_xxt, mkLst_2, mkLst_3, mkLst_4, elems_tupT, elems_ownT, Bool.or_true, List.contains_cons, List.contains_nil, res1, resAll, resAll_nil, Option.map_some, Option.map_none, pr, pr1, pr2, int1, int2, intOf, oI, oB, Ev.data2, isNone, rdVar, mvVar, argO, argOs, lent, Ev.borrowed, endCall, Ev.finish, outOf, doCall, leafy, leafyOut, List.map_cons, List.map_nil, List.cons_append, List.nil_append, List.append_nil, List.length_cons, List.length_nil, List.getElem?_cons_zero, List.getElem?_cons_succ, Nat.reduceAdd, Nat.reduceSub, Nat.zero_add, List.replicate_succ, List.replicate_zero, List.any_cons, List.any_nil, Bool.or_false, Bool.false_or, Bool.and_true, Bool.true_and, Bool.false_and, Bool.and_false, Bool.not_true, Bool.not_false, noList, noLists, leafys, Bool.false_eq_true, if_true, if_false, ite_true, ite_false, reduceIte, List.set_cons_zero, List.set_cons_succ, O.d, liftS, setN, doTg, doTgs, decide_true, decide_false, Nat.reduceLT, Nat.reduceBEq, Nat.reduceEqDiff, beq_self_eq_true, E_is_between_ps, E_is_between_io, p_is_betweenN, h, ssat_next, and_self]
theorem p_orders_fit (l : List Int) (h0 : l ≠ []) (hl : ∀ z ∈ l, 2 ≤ z) (hn : l.length < 1000) : E_orders_fit.sem [.v (Ti l)] = .ok (.v (.bool true)) none := by
  have he : l.isEmpty = false := by simpa using h0
  show S_orders_fit _ = _
  refine sat_fin ?_
  simp only [S_orders_fit, I_orders_fit, L_orders_fit, runDef, exs, ex1, den, denPs, denP, denEs, denC, denO, denI, bind_ok, st_okq, seq_next, seq_ret, lift_some, look0, lookS, asBool_ok, lift_none, and_ok, or_ok, Tgt.slots, wipeE, backE, keepV, Tgt.put, setMany, ds_map_vq, ds_nilq, filter_ff, rev_mapq, mkTup_v, mkTupF_1, mkTupF_2, mkTupF_3, mkLst_1, seqD_list, seqD_tuple, seqD_own, all_isV, rsat_ok, ssat_next, ssat_ret, Function.comp_apply, addV_int, rdIdx, elems_own, elems_list, elems_tup, Bool.true_or, List.length_map, List.isEmpty_nil, List.isEmpty_cons, isiD_tuple, isiD_list, mkTupF_nil, mkLst_nil, shaped_int, shaped_none, shaped_bool, shaped_Li, shaped_Ti, shaped_LLi, shaped_Lnil, shaped_Tnil, eqv_int, eqv_Li, eqv_Ti, eqv_LLi, eqv_Lnil, eqv_Tnil, bool2, List.isEmpty_map, List.getElem_map, Int.reduceLT, Int.reduceLE, leafys_ints, leafys_lis, two_str, eqv_sstr, mkTupF_xo, mkTupF_ox, mkTupF_oxx, mkTupF_xox, mkTupF_xxo, mkTupF_xt, mkTupF_tx, mkTupF_txx, mkTupF_xtx, mkTupF_xxt, mkLst_2, mkLst_3, mkLst_4, elems_tupT, elems_ownT, Bool.or_true, List.contains_cons, List.contains_nil, res1, resAll, resAll_nil, Option.map_some, Option.map_none, pr, pr1, pr2, int1, int2, intOf, oI, oB, Ev.data2, isNone, rdVar, mvVar, argO, argOs, lent, Ev.borrowed, endCall, Ev.finish, outOf, doCall, leafy, leafyOut, List.map_cons, List.map_nil, List.cons_append, List.nil_append, List.append_nil, List.length_cons, List.length_nil, List.getElem?_cons_zero, List.getElem?_cons_succ, Nat.reduceAdd, Nat.reduceSub, Nat.zero_add, List.replicate_succ, List.replicate_zero, List.any_cons, List.any_nil, Bool.or_false, Bool.false_or, Bool.and_true, Bool.true_and, Bool.false_and, Bool.and_false, Bool.not_true, Bool.not_false, noList, noLists, leafys, Bool.false_eq_true, if_true, if_false, ite_true, ite_false, reduceIte, List.set_cons_zero, List.set_cons_succ, O.d, liftS, setN, doTg, doTgs, decide_true, decide_false, Nat.reduceLT, Nat.reduceBEq, Nat.reduceEqDiff, beq_self_eq_true, E_is_between_ps, E_is_between_io, seqD_tuple, he]
  repeat (first | with_reducible refine sat_seq ?_ | with_reducible refine sat_st ?_ | with_reducible refine sat_bind ?_ | with_reducible refine sat_asBool ?_)
  refine sat_comp (fun e => ∃ x, e = [some (.v (Ti l)), x]) (fun _ => false) O.v ⟨_, rfl⟩ (by simp only [List.length_map, List.length_nil, Sz]; omega) ?_ ?_
  · rintro d hd e ⟨x, rfl⟩
    obtain ⟨z, hz, rfl⟩ := List.mem_map.1 hd
    refine ⟨_, rfl, ?_⟩
    simp only [exs, ex1, den, denPs, denP, denEs, denC, denO, denI, bind_ok, st_okq, seq_next, seq_ret, lift_some, look0, lookS, asBool_ok, lift_none, and_ok, or_ok, Tgt.slots, wipeE, backE, keepV, Tgt.put, setMany, ds_map_vq, ds_nilq, filter_ff, rev_mapq, mkTup_v, mkTupF_1, mkTupF_2, mkTupF_3, mkLst_1, seqD_list, seqD_tuple, seqD_own, all_isV, rsat_ok, ssat_next, ssat_ret, Function.comp_apply, addV_int, rdIdx, elems_own, elems_list, elems_tup, Bool.true_or, List.length_map, List.isEmpty_nil, List.isEmpty_cons, isiD_tuple, isiD_list, mkTupF_nil, mkLst_nil, shaped_int, shaped_none, shaped_bool, shaped_Li, shaped_Ti, shaped_LLi, shaped_Lnil, shaped_Tnil, eqv_int, eqv_Li, eqv_Ti, eqv_LLi, eqv_Lnil, eqv_Tnil, bool2, List.isEmpty_map, List.getElem_map, Int.reduceLT, Int.reduceLE, leafys_ints, leafys_lis, two_str, eqv_sstr, mkTupF_xo, mkTupF_ox, mkTupF_oxx, mkTupF_xox, mkTupF_xxo, mkTupF_xt, mkTupF_tx, mkTupF_txx, mkTupF_xtx, mkTupF_xxt, mkLst_2, mkLst_3, mkLst_4, elems_tupT, elems_ownT, Bool.or_true, List.contains_cons, List.contains_nil, res1, resAll, resAll_nil, Option.map_some, Option.map_none, pr, pr1, pr2, int1, int2, intOf, oI, oB, Ev.data2, isNone, rdVar, mvVar, argO, argOs, lent, Ev.borrowed, endCall, Ev.finish, outOf, doCall, leafy, leafyOut, List.map_cons, List.map_nil, List.cons_append, List.nil_append, List.append_nil, List.length_cons, List.length_nil, List.getElem?_cons_zero, List.getElem?_cons_succ, Nat.reduceAdd, Nat.reduceSub, Nat.zero_add, List.replicate_succ, List.replicate_zero, List.any_cons, List.any_nil, Bool.or_false, Bool.false_or, Bool.and_true, Bool.true_and, Bool.false_and, Bool.and_false, Bool.not_true, Bool.not_false, noList, noLists, leafys, Bool.false_eq_true, if_true, if_false, ite_true, ite_false, reduceIte, List.set_cons_zero, List.set_cons_succ, O.d, liftS, setN, doTg, doTgs, decide_true, decide_false, Nat.reduceLT, Nat.reduceBEq, Nat.reduceEqDiff, beq_self_eq_true, p_is_betweenN, hl z hz, rsat_ok]
    exact ⟨True.intro, _, rfl⟩
  · rintro e ⟨x, rfl⟩
    simp only [exs, ex1, den, denPs, denP, denEs, denC, denO, denI, bind_ok, st_okq, seq_next, seq_ret, lift_some, look0, lookS, asBool_ok, lift_none, and_ok, or_ok, Tgt.slots, wipeE, backE, keepV, Tgt.put, setMany, ds_map_vq, ds_nilq, filter_ff, rev_mapq, mkTup_v, mkTupF_1, mkTupF_2, mkTupF_3, mkLst_1, seqD_list, seqD_tuple, seqD_own, all_isV, rsat_ok, ssat_next, ssat_ret, Function.comp_apply, addV_int, rdIdx, elems_own, elems_list, elems_tup, Bool.true_or, List.length_map, List.isEmpty_nil, List.isEmpty_cons, isiD_tuple, isiD_list, mkTupF_nil, mkLst_nil, shaped_int, shaped_none, shaped_bool, shaped_Li, shaped_Ti, shaped_LLi, shaped_Lnil, shaped_Tnil, eqv_int, eqv_Li, eqv_Ti, eqv_LLi, eqv_Lnil, eqv_Tnil, bool2, List.isEmpty_map, List.getElem_map, Int.reduceLT, Int.reduceLE, leafys_ints, leafys_lis, two_str, eqv_sstr, mkTupF_xo, mkTupF_ox, mkTupF_oxx, mkTupF_xox, mkTupF_xxo, mkTupF_xt, mkTupF_tx, mkTupF_txx, mkTupF_xtx, mkTupF_xxt, mkLst_2, mkLst_3, mkLst_4, elems_tupT, elems_ownT, Bool.or_true, List.contains_cons, List.contains_nil, res1, resAll, resAll_nil, Option.map_some, Option.map_none, pr, pr1, pr2, int1, int2, intOf, oI, oB, Ev.data2, isNone, rdVar, mvVar, argO, argOs, lent, Ev.borrowed, endCall, Ev.finish, outOf, doCall, leafy, leafyOut, List.map_cons, List.map_nil, List.cons_append, List.nil_append, List.append_nil, List.length_cons, List.length_nil, List.getElem?_cons_zero, List.getElem?_cons_succ, Nat.reduceAdd, Nat.reduceSub, Nat.zero_add, List.replicate_succ, List.replicate_zero, List.any_cons, List.any_nil, Bool.or_false, Bool.false_or, Bool.and_true, Bool.true_and, Bool.false_and, Bool.and_false, Bool.not_true, Bool.not_false, noList, noLists, leafys, Bool.false_eq_true, if_true, if_false, ite_true, ite_false, reduceIte, List.set_cons_zero, List.set_cons_succ, O.d, liftS, setN, doTg, doTgs, decide_true, decide_false, Nat.reduceLT, Nat.reduceBEq, Nat.reduceEqDiff, beq_self_eq_true, rsat_ok, ssat_ret, and_self]
def Ords (l : List Int) : Prop := l ≠ [] ∧ l.length < 1000 ∧ ∀ z ∈ l, 2 ≤ z ∧ z < 1000000
theorem Ords.sm {l : List Int} (h : Ords l) : Sm l := fun z hz => by have := h.2.2 z hz; omega
theorem p_figures_of (l : List Int) (h : Ords l) (m : Int) : E_figures_of.sem [.v (Ti l), .v (.int m)] = .ok (.v (Ti (figs l m))) none := by
  show S_figures_of _ = _
  refine sat_fin ?_
  simp only [S_figures_of, I_figures_of, L_figures_of, runDef, exs, ex1, den, denPs, denP, denEs, denC, denO, denI, bind_ok, st_okq, seq_next, seq_ret, lift_some, look0, lookS, asBool_ok, lift_none, and_ok, or_ok, Tgt.slots, wipeE, backE, keepV, Tgt.put, setMany, ds_map_vq, ds_nilq, filter_ff, rev_mapq, mkTup_v, mkTupF_1, mkTupF_2, mkTupF_3, mkLst_1, seqD_list, seqD_tuple, seqD_own, all_isV, rsat_ok, ssat_next, ssat_ret, Function.comp_apply, addV_int, rdIdx, elems_own, elems_list, elems_tup, Bool.true_or, List.length_map, List.isEmpty_nil, List.isEmpty_cons, isiD_tuple, isiD_list, mkTupF_nil, mkLst_nil, shaped_int, shaped_none, shaped_bool, shaped_Li, shaped_Ti, shaped_LLi, shaped_Lnil, shaped_Tnil, eqv_int, eqv_Li, eqv_Ti, eqv_LLi, eqv_Lnil, eqv_Tnil, bool2, List.isEmpty_map, List.getElem_map, Int.reduceLT, Int.reduceLE, leafys_ints, leafys_lis, two_str, eqv_sstr, mkTupF_xo, mkTupF_ox, mkTupF_oxx, mkTupF_xox, mkTupF_xxo, mkTupF_xt, mkTupF_tx, mkTupF_txx, mkTupF_xtx, mkTupF_xxt, mkLst_2, mkLst_3, mkLst_4, elems_tupT, elems_ownT, Bool.or_true, List.contains_cons, List.contains_nil, res1, resAll, resAll_nil, Option.map_some, Option.map_none, pr, pr1, pr2, int1, int2, intOf, oI, oB, Ev.data2, isNone, rdVar, mvVar, argO, argOs, lent, Ev.borrowed, endCall, Ev.finish, outOf, doCall, leafy, leafyOut, List.map_cons, List.map_nil, List.cons_append, List.nil_append, List.append_nil, List.length_cons, List.length_nil, List.getElem?_cons_zero, List.getElem?_cons_succ, Nat.reduceAdd, Nat.reduceSub, Nat.zero_add, List.replicate_succ, List.replicate_zero, List.any_cons, List.any_nil, Bool.or_false, Bool.false_or, Bool.and_true, Bool.true_and, Bool.false_and, Bool.and_false, Bool.not_true, Bool.not_false, noList, noLists, leafys, Bool.false_eq_true, if_true, if_false, ite_true, ite_false, reduceIte, List.set_cons_zero, List.set_cons_succ, O.d, liftS, setN, doTg, doTgs, decide_true, decide_false, Nat.reduceLT, Nat.reduceBEq, Nat.reduceEqDiff, beq_self_eq_true, seqO]
  repeat (first | with_reducible refine sat_seq ?_ | with_reducible refine sat_st ?_ | with_reducible refine sat_bind ?_ | with_reducible refine sat_asBool ?_)
  have hlen := h.2.1
  refine sat_for (fun k e => ∃ x y, e = [some (.v (Ti l)), some (.v (.int (remR (l.reverse.take k) m))), some (.v (Ti (figR (l.reverse.take k) m).reverse)), x, y]) ⟨_, _, rfl⟩ ?_ ?_
  · rintro k hk e ⟨x, y, rfl⟩
    have hk' : k < l.reverse.length := by simpa using hk
    have ho := h.2.2 l.reverse[k] (List.mem_reverse.1 (List.getElem_mem hk'))
    have hd : divOk l.reverse[k] = true := divOk_q (by omega) (by omega)
    have hln : (figR (l.reverse.take k) m).reverse.length ≤ 1000 := by
      rw [List.length_reverse, figR_len]
      exact Nat.le_trans (List.length_take_le' _ _) (by rw [List.length_reverse]; omega)
    have hA : ∀ s t i, addV s (.v (.tuple [.int i])) t (.v (Ti (figR (l.reverse.take k) m).reverse)) = some (.v (Ti (i :: (figR (l.reverse.take k) m).reverse))) := fun s t i =>
      addV_tup _ _ _ _ (by simp only [List.length_map, List.length_cons, List.length_nil, Sz]; omega)
    refine ⟨_, putT_one _ _ _ (by simp), ?_⟩
    simp only [exs, ex1, den, denPs, denP, denEs, denC, denO, denI, bind_ok, st_okq, seq_next, seq_ret, lift_some, look0, lookS, asBool_ok, lift_none, and_ok, or_ok, Tgt.slots, wipeE, backE, keepV, Tgt.put, setMany, ds_map_vq, ds_nilq, filter_ff, rev_mapq, mkTup_v, mkTupF_1, mkTupF_2, mkTupF_3, mkLst_1, seqD_list, seqD_tuple, seqD_own, all_isV, rsat_ok, ssat_next, ssat_ret, Function.comp_apply, addV_int, rdIdx, elems_own, elems_list, elems_tup, Bool.true_or, List.length_map, List.isEmpty_nil, List.isEmpty_cons, isiD_tuple, isiD_list, mkTupF_nil, mkLst_nil, shaped_int, shaped_none, shaped_bool, shaped_Li, shaped_Ti, shaped_LLi, shaped_Lnil, shaped_Tnil, eqv_int, eqv_Li, eqv_Ti, eqv_LLi, eqv_Lnil, eqv_Tnil, bool2, List.isEmpty_map, List.getElem_map, Int.reduceLT, Int.reduceLE, leafys_ints, leafys_lis, two_str, eqv_sstr, mkTupF_xo, mkTupF_ox, mkTupF_oxx, mkTupF_xox, mkTupF_xxo, mkTupF_xt, mkTupF_tx, mkTupF_txx, mkTupF_xtx, mkTupF_xxt, mkLst_2, mkLst_3, mkLst_4, elems_tupT, elems_ownT, Bool.or_true, List.contains_cons, List.contains_nil, res1, resAll, resAll_nil, Option.map_some, Option.map_none, pr, pr1, pr2, int1, int2, intOf, oI, oB, Ev.data2, isNone, rdVar, mvVar, argO, argOs, lent, Ev.borrowed, endCall, Ev.finish, outOf, doCall, leafy, leafyOut, List.map_cons, List.map_nil, List.cons_append, List.nil_append, List.append_nil, List.length_cons, List.length_nil, List.getElem?_cons_zero, List.getElem?_cons_succ, Nat.reduceAdd, Nat.reduceSub, Nat.zero_add, List.replicate_succ, List.replicate_zero, List.any_cons, List.any_nil, Bool.or_false, Bool.false_or, Bool.and_true, Bool.true_and, Bool.false_and, Bool.and_false, Bool.not_true, Bool.not_false, noList, noLists, leafys, Bool.false_eq_true, if_true, if_false, ite_true, ite_false, reduceIte, List.set_cons_zero, List.set_cons_succ, O.d, liftS, setN, doTg, doTgs, decide_true, decide_false, Nat.reduceLT, Nat.reduceBEq, Nat.reduceEqDiff, beq_self_eq_true, List.getElem_map, hd, hA, ssat_next, List.take_succ_eq_append_getElem hk', figR_snoc, remR_snoc, List.reverse_append, List.reverse_cons, List.reverse_nil]
    exact ⟨_, _, rfl⟩
  · rintro e ⟨x, y, rfl⟩
    simp only [exs, ex1, den, denPs, denP, denEs, denC, denO, denI, bind_ok, st_okq, seq_next, seq_ret, lift_some, look0, lookS, asBool_ok, lift_none, and_ok, or_ok, Tgt.slots, wipeE, backE, keepV, Tgt.put, setMany, ds_map_vq, ds_nilq, filter_ff, rev_mapq, mkTup_v, mkTupF_1, mkTupF_2, mkTupF_3, mkLst_1, seqD_list, seqD_tuple, seqD_own, all_isV, rsat_ok, ssat_next, ssat_ret, Function.comp_apply, addV_int, rdIdx, elems_own, elems_list, elems_tup, Bool.true_or, List.length_map, List.isEmpty_nil, List.isEmpty_cons, isiD_tuple, isiD_list, mkTupF_nil, mkLst_nil, shaped_int, shaped_none, shaped_bool, shaped_Li, shaped_Ti, shaped_LLi, shaped_Lnil, shaped_Tnil, eqv_int, eqv_Li, eqv_Ti, eqv_LLi, eqv_Lnil, eqv_Tnil, bool2, List.isEmpty_map, List.getElem_map, Int.reduceLT, Int.reduceLE, leafys_ints, leafys_lis, two_str, eqv_sstr, mkTupF_xo, mkTupF_ox, mkTupF_oxx, mkTupF_xox, mkTupF_xxo, mkTupF_xt, mkTupF_tx, mkTupF_txx, mkTupF_xtx, mkTupF_xxt, mkLst_2, mkLst_3, mkLst_4, elems_tupT, elems_ownT, Bool.or_true, List.contains_cons, List.contains_nil, res1, resAll, resAll_nil, Option.map_some, Option.map_none, pr, pr1, pr2, int1, int2, intOf, oI, oB, Ev.data2, isNone, rdVar, mvVar, argO, argOs, lent, Ev.borrowed, endCall, Ev.finish, outOf, doCall, leafy, leafyOut, List.map_cons, List.map_nil, List.cons_append, List.nil_append, List.append_nil, List.length_cons, List.length_nil, List.getElem?_cons_zero, List.getElem?_cons_succ, Nat.reduceAdd, Nat.reduceSub, Nat.zero_add, List.replicate_succ, List.replicate_zero, List.any_cons, List.any_nil, Bool.or_false, Bool.false_or, Bool.and_true, Bool.true_and, Bool.false_and, Bool.and_false, Bool.not_true, Bool.not_false, noList, noLists, leafys, Bool.false_eq_true, if_true, if_false, ite_true, ite_false, reduceIte, List.set_cons_zero, List.set_cons_succ, O.d, liftS, setN, doTg, doTgs, decide_true, decide_false, Nat.reduceLT, Nat.reduceBEq, Nat.reduceEqDiff, beq_self_eq_true, ssat_ret]
    refine ⟨?_, trivial⟩
    rw [List.take_of_length_le (by simp)]; rfl
theorem zipD_eq : ∀ xs ys : List D, zipD xs ys = (xs.zip ys).map fun p => .tuple [p.1, p.2]
  | [], _ => rfl
  | _ :: _, [] => rfl
  | x :: xs, y :: ys => by simp only [zipD, List.zip_cons_cons, List.map_cons, zipD_eq xs ys]
theorem zipD_ints (a b : List Int) : zipD (a.map .int) (b.map .int) = (a.zip b).map fun p => .tuple [.int p.1, .int p.2] := by
  rw [zipD_eq, List.zip_map, List.map_map]; rfl
theorem p_member_from (l : List Int) (h : Ords l) (xs : List Int) (hx : xs.length = l.length) : E_member_from.sem [.v (Ti l), .v (Li xs)] = .ok (.v (.int (mf l xs))) none := by
  show S_member_from _ = _
  refine sat_fin ?_
  simp only [S_member_from, I_member_from, L_member_from, runDef, exs, ex1, den, denPs, denP, denEs, denC, denO, denI, bind_ok, st_okq, seq_next, seq_ret, lift_some, look0, lookS, asBool_ok, lift_none, and_ok, or_ok, Tgt.slots, wipeE, backE, keepV, Tgt.put, setMany, ds_map_vq, ds_nilq, filter_ff, rev_mapq, mkTup_v, mkTupF_1, mkTupF_2, mkTupF_3, mkLst_1, seqD_list, seqD_tuple, seqD_own, all_isV, rsat_ok, ssat_next, ssat_ret, Function.comp_apply, addV_int, rdIdx, elems_own, elems_list, elems_tup, Bool.true_or, List.length_map, List.isEmpty_nil, List.isEmpty_cons, isiD_tuple, isiD_list, mkTupF_nil, mkLst_nil, shaped_int, shaped_none, shaped_bool, shaped_Li, shaped_Ti, shaped_LLi, shaped_Lnil, shaped_Tnil, eqv_int, eqv_Li, eqv_Ti, eqv_LLi, eqv_Lnil, eqv_Tnil, bool2, List.isEmpty_map, List.getElem_map, Int.reduceLT, Int.reduceLE, leafys_ints, leafys_lis, two_str, eqv_sstr, mkTupF_xo, mkTupF_ox, mkTupF_oxx, mkTupF_xox, mkTupF_xxo, mkTupF_xt, mkTupF_tx, mkTupF_txx, mkTupF_xtx, mkTupF_xxt, mkLst_2, mkLst_3, mkLst_4, elems_tupT, elems_ownT, Bool.or_true, List.contains_cons, List.contains_nil, res1, resAll, resAll_nil, Option.map_some, Option.map_none, pr, pr1, pr2, int1, int2, intOf, oI, oB, Ev.data2, isNone, rdVar, mvVar, argO, argOs, lent, Ev.borrowed, endCall, Ev.finish, outOf, doCall, leafy, leafyOut, List.map_cons, List.map_nil, List.cons_append, List.nil_append, List.append_nil, List.length_cons, List.length_nil, List.getElem?_cons_zero, List.getElem?_cons_succ, Nat.reduceAdd, Nat.reduceSub, Nat.zero_add, List.replicate_succ, List.replicate_zero, List.any_cons, List.any_nil, Bool.or_false, Bool.false_or, Bool.and_true, Bool.true_and, Bool.false_and, Bool.and_false, Bool.not_true, Bool.not_false, noList, noLists, leafys, Bool.false_eq_true, if_true, if_false, ite_true, ite_false, reduceIte, List.set_cons_zero, List.set_cons_succ, O.d, liftS, setN, doTg, doTgs, decide_true, decide_false, Nat.reduceLT, Nat.reduceBEq, Nat.reduceEqDiff, beq_self_eq_true, zipD_ints, hx, bne_self_eq_false]
  repeat (first | with_reducible refine sat_seq ?_ | with_reducible refine sat_st ?_ | with_reducible refine sat_bind ?_ | with_reducible refine sat_asBool ?_)
  refine sat_for (fun k e => ∃ x y, e = [some (.v (Ti l)), some (.v (Li xs)), some (.v (.int (((l.zip xs).take k).foldl (fun a p => a * p.1 + p.2) 0))), x, y]) ⟨_, _, rfl⟩ ?_ ?_
  · rintro k hk e ⟨x, y, rfl⟩
    have hk' : k < (l.zip xs).length := by simpa using hk
    have ho := h.sm (l.zip xs)[k].1 (List.of_mem_zip (List.getElem_mem hk')).1
    refine ⟨_, by simp only [List.getElem_map]; rfl, ?_⟩
    simp only [exs, ex1, den, denPs, denP, denEs, denC, denO, denI, bind_ok, st_okq, seq_next, seq_ret, lift_some, look0, lookS, asBool_ok, lift_none, and_ok, or_ok, Tgt.slots, wipeE, backE, keepV, Tgt.put, setMany, ds_map_vq, ds_nilq, filter_ff, rev_mapq, mkTup_v, mkTupF_1, mkTupF_2, mkTupF_3, mkLst_1, seqD_list, seqD_tuple, seqD_own, all_isV, rsat_ok, ssat_next, ssat_ret, Function.comp_apply, addV_int, rdIdx, elems_own, elems_list, elems_tup, Bool.true_or, List.length_map, List.isEmpty_nil, List.isEmpty_cons, isiD_tuple, isiD_list, mkTupF_nil, mkLst_nil, shaped_int, shaped_none, shaped_bool, shaped_Li, shaped_Ti, shaped_LLi, shaped_Lnil, shaped_Tnil, eqv_int, eqv_Li, eqv_Ti, eqv_LLi, eqv_Lnil, eqv_Tnil, bool2, List.isEmpty_map, List.getElem_map, Int.reduceLT, Int.reduceLE, leafys_ints, leafys_lis, two_str, eqv_sstr, mkTupF_xo, mkTupF_ox, mkTupF_oxx, mkTupF_xox, mkTupF_xxo, mkTupF_xt, mkTupF_tx, mkTupF_txx, mkTupF_xtx, mkTupF_xxt, mkLst_2, mkLst_3, mkLst_4, elems_tupT, elems_ownT, Bool.or_true, List.contains_cons, List.contains_nil, res1, resAll, resAll_nil, Option.map_some, Option.map_none, pr, pr1, pr2, int1, int2, intOf, oI, oB, Ev.data2, isNone, rdVar, mvVar, argO, argOs, lent, Ev.borrowed, endCall, Ev.finish, outOf, doCall, leafy, leafyOut, List.map_cons, List.map_nil, List.cons_append, List.nil_append, List.append_nil, List.length_cons, List.length_nil, List.getElem?_cons_zero, List.getElem?_cons_succ, Nat.reduceAdd, Nat.reduceSub, Nat.zero_add, List.replicate_succ, List.replicate_zero, List.any_cons, List.any_nil, Bool.or_false, Bool.false_or, Bool.and_true, Bool.true_and, Bool.false_and, Bool.and_false, Bool.not_true, Bool.not_false, noList, noLists, leafys, Bool.false_eq_true, if_true, if_false, ite_true, ite_false, reduceIte, List.set_cons_zero, List.set_cons_succ, O.d, liftS, setN, doTg, doTgs, decide_true, decide_false, Nat.reduceLT, Nat.reduceBEq, Nat.reduceEqDiff, beq_self_eq_true, mulV, addV_int, List.getElem_map, mulOk_r ho, ssat_next, foldl_take _ _ _ _ hk']
    exact ⟨_, _, rfl⟩
  · rintro e ⟨x, y, rfl⟩
    simp only [exs, ex1, den, denPs, denP, denEs, denC, denO, denI, bind_ok, st_okq, seq_next, seq_ret, lift_some, look0, lookS, asBool_ok, lift_none, and_ok, or_ok, Tgt.slots, wipeE, backE, keepV, Tgt.put, setMany, ds_map_vq, ds_nilq, filter_ff, rev_mapq, mkTup_v, mkTupF_1, mkTupF_2, mkTupF_3, mkLst_1, seqD_list, seqD_tuple, seqD_own, all_isV, rsat_ok, ssat_next, ssat_ret, Function.comp_apply, addV_int, rdIdx, elems_own, elems_list, elems_tup, Bool.true_or, List.length_map, List.isEmpty_nil, List.isEmpty_cons, isiD_tuple, isiD_list, mkTupF_nil, mkLst_nil, shaped_int, shaped_none, shaped_bool, shaped_Li, shaped_Ti, shaped_LLi, shaped_Lnil, shaped_Tnil, eqv_int, eqv_Li, eqv_Ti, eqv_LLi, eqv_Lnil, eqv_Tnil, bool2, List.isEmpty_map, List.getElem_map, Int.reduceLT, Int.reduceLE, leafys_ints, leafys_lis, two_str, eqv_sstr, mkTupF_xo, mkTupF_ox, mkTupF_oxx, mkTupF_xox, mkTupF_xxo, mkTupF_xt, mkTupF_tx, mkTupF_txx, mkTupF_xtx, mkTupF_xxt, mkLst_2, mkLst_3, mkLst_4, elems_tupT, elems_ownT, Bool.or_true, List.contains_cons, List.contains_nil, res1, resAll, resAll_nil, Option.map_some, Option.map_none, pr, pr1, pr2, int1, int2, intOf, oI, oB, Ev.data2, isNone, rdVar, mvVar, argO, argOs, lent, Ev.borrowed, endCall, Ev.finish, outOf, doCall, leafy, leafyOut, List.map_cons, List.map_nil, List.cons_append, List.nil_append, List.append_nil, List.length_cons, List.length_nil, List.getElem?_cons_zero, List.getElem?_cons_succ, Nat.reduceAdd, Nat.reduceSub, Nat.zero_add, List.replicate_succ, List.replicate_zero, List.any_cons, List.any_nil, Bool.or_false, Bool.false_or, Bool.and_true, Bool.true_and, Bool.false_and, Bool.and_false, Bool.not_true, Bool.not_false, noList, noLists, leafys, Bool.false_eq_true, if_true, if_false, ite_true, ite_false, reduceIte, List.set_cons_zero, List.set_cons_succ, O.d, liftS, setN, doTg, doTgs, decide_true, decide_false, Nat.reduceLT, Nat.reduceBEq, Nat.reduceEqDiff, beq_self_eq_true, ssat_ret]
    refine ⟨?_, trivial⟩
    rw [List.take_of_length_le (by simp)]; rfl
theorem enumD_len (n : Nat) (ds : List D) : (enumD n ds).length = ds.length := by
  induction ds generalizing n with
  | nil => rfl
  | cons d ds ih => simp only [enumD, List.length_cons, ih]
theorem enumD_get (n : Nat) (ds : List D) (k : Nat) (h : k < (enumD n ds).length) (h' : k < ds.length) : (enumD n ds)[k] = .tuple [.int ((n + k : Nat) : Int), ds[k]] := by
  induction ds generalizing n k with
  | nil => simp at h'
  | cons d ds ih =>
    cases k with
    | zero => rfl
    | succ k =>
      simp only [enumD, List.getElem_cons_succ]
      rw [ih (n + 1) k (by simpa [enumD] using h) (by simpa using h')]
      rw [show n + 1 + k = n + (k + 1) by omega]
theorem atI_v {α : Type} (xs : List α) (k : Nat) (h : k < xs.length) : atI xs (k : Int) = some xs[k] := by
  have : (k : Int) < (xs.length : Int) := by omega
  simp [atI, ixN, this, h]
theorem atI_map {α β : Type} (f : α → β) (xs : List α) (k : Nat) (h : k < xs.length) : atI (xs.map f) (k : Int) = some (f xs[k]) := by
  rw [atI_v _ _ (by simpa using h), List.getElem_map]
theorem p_sum_in (l : List Int) (h : Ords l) (a b : Int) : E_sum_in.sem [.v (Ti l), .v (.int a), .v (.int b)] = .ok (.v (.int (plus l a b))) none := by
  show S_sum_in _ = _
  refine sat_fin ?_
  have hlen := h.2.1
  have hr : (vmod l (List.zipWith (· + ·) (figs l a) (figs l b))).length = l.length := by simp [vmod, figs_len]
  simp only [S_sum_in, I_sum_in, L_sum_in, runDef, exs, ex1, den, denPs, denP, denEs, denC, denO, denI, bind_ok, st_okq, seq_next, seq_ret, lift_some, look0, lookS, asBool_ok, lift_none, and_ok, or_ok, Tgt.slots, wipeE, backE, keepV, Tgt.put, setMany, ds_map_vq, ds_nilq, filter_ff, rev_mapq, mkTup_v, mkTupF_1, mkTupF_2, mkTupF_3, mkLst_1, seqD_list, seqD_tuple, seqD_own, all_isV, rsat_ok, ssat_next, ssat_ret, Function.comp_apply, addV_int, rdIdx, elems_own, elems_list, elems_tup, Bool.true_or, List.length_map, List.isEmpty_nil, List.isEmpty_cons, isiD_tuple, isiD_list, mkTupF_nil, mkLst_nil, shaped_int, shaped_none, shaped_bool, shaped_Li, shaped_Ti, shaped_LLi, shaped_Lnil, shaped_Tnil, eqv_int, eqv_Li, eqv_Ti, eqv_LLi, eqv_Lnil, eqv_Tnil, bool2, List.isEmpty_map, List.getElem_map, Int.reduceLT, Int.reduceLE, leafys_ints, leafys_lis, two_str, eqv_sstr, mkTupF_xo, mkTupF_ox, mkTupF_oxx, mkTupF_xox, mkTupF_xxo, mkTupF_xt, mkTupF_tx, mkTupF_txx, mkTupF_xtx, mkTupF_xxt, mkLst_2, mkLst_3, mkLst_4, elems_tupT, elems_ownT, Bool.or_true, List.contains_cons, List.contains_nil, res1, resAll, resAll_nil, Option.map_some, Option.map_none, pr, pr1, pr2, int1, int2, intOf, oI, oB, Ev.data2, isNone, rdVar, mvVar, argO, argOs, lent, Ev.borrowed, endCall, Ev.finish, outOf, doCall, leafy, leafyOut, List.map_cons, List.map_nil, List.cons_append, List.nil_append, List.append_nil, List.length_cons, List.length_nil, List.getElem?_cons_zero, List.getElem?_cons_succ, Nat.reduceAdd, Nat.reduceSub, Nat.zero_add, List.replicate_succ, List.replicate_zero, List.any_cons, List.any_nil, Bool.or_false, Bool.false_or, Bool.and_true, Bool.true_and, Bool.false_and, Bool.and_false, Bool.not_true, Bool.not_false, noList, noLists, leafys, Bool.false_eq_true, if_true, if_false, ite_true, ite_false, reduceIte, List.set_cons_zero, List.set_cons_succ, O.d, liftS, setN, doTg, doTgs, decide_true, decide_false, Nat.reduceLT, Nat.reduceBEq, Nat.reduceEqDiff, beq_self_eq_true, E_figures_of_ps, E_figures_of_io, E_member_from_ps, E_member_from_io, p_figures_of l h]
  repeat (first | with_reducible refine sat_seq ?_ | with_reducible refine sat_st ?_ | with_reducible refine sat_bind ?_ | with_reducible refine sat_asBool ?_)
  refine sat_compI (fun k os e => os = (((vmod l (List.zipWith (· + ·) (figs l a) (figs l b))).take k).map .int).map .v ∧ ∃ x y, e = [some (.v (Ti l)), some (.v (.int a)), some (.v (.int b)), some (.v (Ti (figs l a))), some (.v (Ti (figs l b))), x, y]) ⟨rfl, _, _, rfl⟩ (by simp only [enumD_len, List.length_map, Sz]; omega) ?_ ?_
  · rintro k hk os e ⟨rfl, x, y, rfl⟩
    have hk' : k < l.length := by simpa [enumD_len] using hk
    have ho := h.2.2 l[k] (List.getElem_mem hk')
    refine ⟨_, by rw [enumD_get _ _ _ _ (by simpa using hk'), List.getElem_map]; rfl, ?_⟩
    have ha : k < (figs l a).length := by rw [figs_len]; exact hk'
    have hb : k < (figs l b).length := by rw [figs_len]; exact hk'
    have hq : k < (vmod l (List.zipWith (· + ·) (figs l a) (figs l b))).length := by rw [hr]; exact hk'
    have hv : (vmod l (List.zipWith (· + ·) (figs l a) (figs l b)))[k] = ((figs l a)[k] + (figs l b)[k]) % l[k] := by simp [vmod]
    have h0 : 0 < l[k] := by omega
    simp only [exs, ex1, den, denPs, denP, denEs, denC, denO, denI, bind_ok, st_okq, seq_next, seq_ret, lift_some, look0, lookS, asBool_ok, lift_none, and_ok, or_ok, Tgt.slots, wipeE, backE, keepV, Tgt.put, setMany, ds_map_vq, ds_nilq, filter_ff, rev_mapq, mkTup_v, mkTupF_1, mkTupF_2, mkTupF_3, mkLst_1, seqD_list, seqD_tuple, seqD_own, all_isV, rsat_ok, ssat_next, ssat_ret, Function.comp_apply, addV_int, rdIdx, elems_own, elems_list, elems_tup, Bool.true_or, List.length_map, List.isEmpty_nil, List.isEmpty_cons, isiD_tuple, isiD_list, mkTupF_nil, mkLst_nil, shaped_int, shaped_none, shaped_bool, shaped_Li, shaped_Ti, shaped_LLi, shaped_Lnil, shaped_Tnil, eqv_int, eqv_Li, eqv_Ti, eqv_LLi, eqv_Lnil, eqv_Tnil, bool2, List.isEmpty_map, List.getElem_map, Int.reduceLT, Int.reduceLE, leafys_ints, leafys_lis, two_str, eqv_sstr, mkTupF_xo, mkTupF_ox, mkTupF_oxx, mkTupF_xox, mkTupF_xxo, mkTupF_xt, mkTupF_tx, mkTupF_txx, mkTupF_xtx, mkTupF_xxt, mkLst_2, mkLst_3, mkLst_4, elems_tupT, elems_ownT, Bool.or_true, List.contains_cons, List.contains_nil, res1, resAll, resAll_nil, Option.map_some, Option.map_none, pr, pr1, pr2, int1, int2, intOf, oI, oB, Ev.data2, isNone, rdVar, mvVar, argO, argOs, lent, Ev.borrowed, endCall, Ev.finish, outOf, doCall, leafy, leafyOut, List.map_cons, List.map_nil, List.cons_append, List.nil_append, List.append_nil, List.length_cons, List.length_nil, List.getElem?_cons_zero, List.getElem?_cons_succ, Nat.reduceAdd, Nat.reduceSub, Nat.zero_add, List.replicate_succ, List.replicate_zero, List.any_cons, List.any_nil, Bool.or_false, Bool.false_or, Bool.and_true, Bool.true_and, Bool.false_and, Bool.and_false, Bool.not_true, Bool.not_false, noList, noLists, leafys, Bool.false_eq_true, if_true, if_false, ite_true, ite_false, reduceIte, List.set_cons_zero, List.set_cons_succ, O.d, liftS, setN, doTg, doTgs, decide_true, decide_false, Nat.reduceLT, Nat.reduceBEq, Nat.reduceEqDiff, beq_self_eq_true, atI_map, ha, hb, List.map_map, h0, List.take_succ_eq_append_getElem hq, hv, List.map_append, true_and]
    exact ⟨_, _, rfl⟩
  · rintro os e ⟨rfl, x, y, rfl⟩
    simp only [exs, ex1, den, denPs, denP, denEs, denC, denO, denI, bind_ok, st_okq, seq_next, seq_ret, lift_some, look0, lookS, asBool_ok, lift_none, and_ok, or_ok, Tgt.slots, wipeE, backE, keepV, Tgt.put, setMany, ds_map_vq, ds_nilq, filter_ff, rev_mapq, mkTup_v, mkTupF_1, mkTupF_2, mkTupF_3, mkLst_1, seqD_list, seqD_tuple, seqD_own, all_isV, rsat_ok, ssat_next, ssat_ret, Function.comp_apply, addV_int, rdIdx, elems_own, elems_list, elems_tup, Bool.true_or, List.length_map, List.isEmpty_nil, List.isEmpty_cons, isiD_tuple, isiD_list, mkTupF_nil, mkLst_nil, shaped_int, shaped_none, shaped_bool, shaped_Li, shaped_Ti, shaped_LLi, shaped_Lnil, shaped_Tnil, eqv_int, eqv_Li, eqv_Ti, eqv_LLi, eqv_Lnil, eqv_Tnil, bool2, List.isEmpty_map, List.getElem_map, Int.reduceLT, Int.reduceLE, leafys_ints, leafys_lis, two_str, eqv_sstr, mkTupF_xo, mkTupF_ox, mkTupF_oxx, mkTupF_xox, mkTupF_xxo, mkTupF_xt, mkTupF_tx, mkTupF_txx, mkTupF_xtx, mkTupF_xxt, mkLst_2, mkLst_3, mkLst_4, elems_tupT, elems_ownT, Bool.or_true, List.contains_cons, List.contains_nil, res1, resAll, resAll_nil, Option.map_some, Option.map_none, pr, pr1, pr2, int1, int2, intOf, oI, oB, Ev.data2, isNone, rdVar, mvVar, argO, argOs, lent, Ev.borrowed, endCall, Ev.finish, outOf, doCall, leafy, leafyOut, List.map_cons, List.map_nil, List.cons_append, List.nil_append, List.append_nil, List.length_cons, List.length_nil, List.getElem?_cons_zero, List.getElem?_cons_succ, Nat.reduceAdd, Nat.reduceSub, Nat.zero_add, List.replicate_succ, List.replicate_zero, List.any_cons, List.any_nil, Bool.or_false, Bool.false_or, Bool.and_true, Bool.true_and, Bool.false_and, Bool.and_false, Bool.not_true, Bool.not_false, noList, noLists, leafys, Bool.false_eq_true, if_true, if_false, ite_true, ite_false, reduceIte, List.set_cons_zero, List.set_cons_succ, O.d, liftS, setN, doTg, doTgs, decide_true, decide_false, Nat.reduceLT, Nat.reduceBEq, Nat.reduceEqDiff, beq_self_eq_true, enumD_len, ← hr, List.take_length, p_member_from l h _ hr]
    exact ⟨rfl, trivial⟩
theorem p_minus_in (l : List Int) (h : Ords l) (a : Int) : E_minus_in.sem [.v (Ti l), .v (.int a)] = .ok (.v (.int (neg l a))) none := by
  show S_minus_in _ = _
  refine sat_fin ?_
  have hlen := h.2.1
  have hr : (vmod l (List.zipWith (fun o t => o - t) l (figs l a))).length = l.length := by simp [vmod, figs_len]
  simp only [S_minus_in, I_minus_in, L_minus_in, runDef, exs, ex1, den, denPs, denP, denEs, denC, denO, denI, bind_ok, st_okq, seq_next, seq_ret, lift_some, look0, lookS, asBool_ok, lift_none, and_ok, or_ok, Tgt.slots, wipeE, backE, keepV, Tgt.put, setMany, ds_map_vq, ds_nilq, filter_ff, rev_mapq, mkTup_v, mkTupF_1, mkTupF_2, mkTupF_3, mkLst_1, seqD_list, seqD_tuple, seqD_own, all_isV, rsat_ok, ssat_next, ssat_ret, Function.comp_apply, addV_int, rdIdx, elems_own, elems_list, elems_tup, Bool.true_or, List.length_map, List.isEmpty_nil, List.isEmpty_cons, isiD_tuple, isiD_list, mkTupF_nil, mkLst_nil, shaped_int, shaped_none, shaped_bool, shaped_Li, shaped_Ti, shaped_LLi, shaped_Lnil, shaped_Tnil, eqv_int, eqv_Li, eqv_Ti, eqv_LLi, eqv_Lnil, eqv_Tnil, bool2, List.isEmpty_map, List.getElem_map, Int.reduceLT, Int.reduceLE, leafys_ints, leafys_lis, two_str, eqv_sstr, mkTupF_xo, mkTupF_ox, mkTupF_oxx, mkTupF_xox, mkTupF_xxo, mkTupF_xt, mkTupF_tx, mkTupF_txx, mkTupF_xtx, mkTupF_xxt, mkLst_2, mkLst_3, mkLst_4, elems_tupT, elems_ownT, Bool.or_true, List.contains_cons, List.contains_nil, res1, resAll, resAll_nil, Option.map_some, Option.map_none, pr, pr1, pr2, int1, int2, intOf, oI, oB, Ev.data2, isNone, rdVar, mvVar, argO, argOs, lent, Ev.borrowed, endCall, Ev.finish, outOf, doCall, leafy, leafyOut, List.map_cons, List.map_nil, List.cons_append, List.nil_append, List.append_nil, List.length_cons, List.length_nil, List.getElem?_cons_zero, List.getElem?_cons_succ, Nat.reduceAdd, Nat.reduceSub, Nat.zero_add, List.replicate_succ, List.replicate_zero, List.any_cons, List.any_nil, Bool.or_false, Bool.false_or, Bool.and_true, Bool.true_and, Bool.false_and, Bool.and_false, Bool.not_true, Bool.not_false, noList, noLists, leafys, Bool.false_eq_true, if_true, if_false, ite_true, ite_false, reduceIte, List.set_cons_zero, List.set_cons_succ, O.d, liftS, setN, doTg, doTgs, decide_true, decide_false, Nat.reduceLT, Nat.reduceBEq, Nat.reduceEqDiff, beq_self_eq_true, E_figures_of_ps, E_figures_of_io, E_member_from_ps, E_member_from_io, p_figures_of l h]
  repeat (first | with_reducible refine sat_seq ?_ | with_reducible refine sat_st ?_ | with_reducible refine sat_bind ?_ | with_reducible refine sat_asBool ?_)
  refine sat_compI (fun k os e => os = (((vmod l (List.zipWith (fun o t => o - t) l (figs l a))).take k).map .int).map .v ∧ ∃ x y, e = [some (.v (Ti l)), some (.v (.int a)), some (.v (Ti (figs l a))), x, y]) ⟨rfl, _, _, rfl⟩ (by simp only [enumD_len, List.length_map, Sz]; omega) ?_ ?_
  · rintro k hk os e ⟨rfl, x, y, rfl⟩
    have hk' : k < l.length := by simpa [enumD_len] using hk
    have ho := h.2.2 l[k] (List.getElem_mem hk')
    refine ⟨_, by rw [enumD_get _ _ _ _ (by simpa using hk'), List.getElem_map]; rfl, ?_⟩
    have ha : k < (figs l a).length := by rw [figs_len]; exact hk'
    have hq : k < (vmod l (List.zipWith (fun o t => o - t) l (figs l a))).length := by rw [hr]; exact hk'
    have hv : (vmod l (List.zipWith (fun o t => o - t) l (figs l a)))[k] = (l[k] - (figs l a)[k]) % l[k] := by simp [vmod]
    have h0 : 0 < l[k] := by omega
    simp only [exs, ex1, den, denPs, denP, denEs, denC, denO, denI, bind_ok, st_okq, seq_next, seq_ret, lift_some, look0, lookS, asBool_ok, lift_none, and_ok, or_ok, Tgt.slots, wipeE, backE, keepV, Tgt.put, setMany, ds_map_vq, ds_nilq, filter_ff, rev_mapq, mkTup_v, mkTupF_1, mkTupF_2, mkTupF_3, mkLst_1, seqD_list, seqD_tuple, seqD_own, all_isV, rsat_ok, ssat_next, ssat_ret, Function.comp_apply, addV_int, rdIdx, elems_own, elems_list, elems_tup, Bool.true_or, List.length_map, List.isEmpty_nil, List.isEmpty_cons, isiD_tuple, isiD_list, mkTupF_nil, mkLst_nil, shaped_int, shaped_none, shaped_bool, shaped_Li, shaped_Ti, shaped_LLi, shaped_Lnil, shaped_Tnil, eqv_int, eqv_Li, eqv_Ti, eqv_LLi, eqv_Lnil, eqv_Tnil, bool2, List.isEmpty_map, List.getElem_map, Int.reduceLT, Int.reduceLE, leafys_ints, leafys_lis, two_str, eqv_sstr, mkTupF_xo, mkTupF_ox, mkTupF_oxx, mkTupF_xox, mkTupF_xxo, mkTupF_xt, mkTupF_tx, mkTupF_txx, mkTupF_xtx, mkTupF_xxt, mkLst_2, mkLst_3, mkLst_4, elems_tupT, elems_ownT, Bool.or_true, List.contains_cons, List.contains_nil, res1, resAll, resAll_nil, Option.map_some, Option.map_none, pr, pr1, pr2, int1, int2, intOf, oI, oB, Ev.data2, isNone, rdVar, mvVar, argO, argOs, lent, Ev.borrowed, endCall, Ev.finish, outOf, doCall, leafy, leafyOut, List.map_cons, List.map_nil, List.cons_append, List.nil_append, List.append_nil, List.length_cons, List.length_nil, List.getElem?_cons_zero, List.getElem?_cons_succ, Nat.reduceAdd, Nat.reduceSub, Nat.zero_add, List.replicate_succ, List.replicate_zero, List.any_cons, List.any_nil, Bool.or_false, Bool.false_or, Bool.and_true, Bool.true_and, Bool.false_and, Bool.and_false, Bool.not_true, Bool.not_false, noList, noLists, leafys, Bool.false_eq_true, if_true, if_false, ite_true, ite_false, reduceIte, List.set_cons_zero, List.set_cons_succ, O.d, liftS, setN, doTg, doTgs, decide_true, decide_false, Nat.reduceLT, Nat.reduceBEq, Nat.reduceEqDiff, beq_self_eq_true, atI_map, ha, List.map_map, h0, List.take_succ_eq_append_getElem hq, hv, List.map_append, true_and]
    exact ⟨_, _, rfl⟩
  · rintro os e ⟨rfl, x, y, rfl⟩
    simp only [exs, ex1, den, denPs, denP, denEs, denC, denO, denI, bind_ok, st_okq, seq_next, seq_ret, lift_some, look0, lookS, asBool_ok, lift_none, and_ok, or_ok, Tgt.slots, wipeE, backE, keepV, Tgt.put, setMany, ds_map_vq, ds_nilq, filter_ff, rev_mapq, mkTup_v, mkTupF_1, mkTupF_2, mkTupF_3, mkLst_1, seqD_list, seqD_tuple, seqD_own, all_isV, rsat_ok, ssat_next, ssat_ret, Function.comp_apply, addV_int, rdIdx, elems_own, elems_list, elems_tup, Bool.true_or, List.length_map, List.isEmpty_nil, List.isEmpty_cons, isiD_tuple, isiD_list, mkTupF_nil, mkLst_nil, shaped_int, shaped_none, shaped_bool, shaped_Li, shaped_Ti, shaped_LLi, shaped_Lnil, shaped_Tnil, eqv_int, eqv_Li, eqv_Ti, eqv_LLi, eqv_Lnil, eqv_Tnil, bool2, List.isEmpty_map, List.getElem_map, Int.reduceLT, Int.reduceLE, leafys_ints, leafys_lis, two_str, eqv_sstr, mkTupF_xo, mkTupF_ox, mkTupF_oxx, mkTupF_xox, mkTupF_xxo, mkTupF_xt, mkTupF_tx, mkTupF_txx, mkTupF_xtx, mkTupF_xxt, mkLst_2, mkLst_3, mkLst_4, elems_tupT, elems_ownT, Bool.or_true, List.contains_cons, List.contains_nil, res1, resAll, resAll_nil, Option.map_some, Option.map_none, pr, pr1, pr2, int1, int2, intOf, oI, oB, Ev.data2, isNone, rdVar, mvVar, argO, argOs, lent, Ev.borrowed, endCall, Ev.finish, outOf, doCall, leafy, leafyOut, List.map_cons, List.map_nil, List.cons_append, List.nil_append, List.append_nil, List.length_cons, List.length_nil, List.getElem?_cons_zero, List.getElem?_cons_succ, Nat.reduceAdd, Nat.reduceSub, Nat.zero_add, List.replicate_succ, List.replicate_zero, List.any_cons, List.any_nil, Bool.or_false, Bool.false_or, Bool.and_true, Bool.true_and, Bool.false_and, Bool.and_false, Bool.not_true, Bool.not_false, noList, noLists, leafys, Bool.false_eq_true, if_true, if_false, ite_true, ite_false, reduceIte, List.set_cons_zero, List.set_cons_succ, O.d, liftS, setN, doTg, doTgs, decide_true, decide_false, Nat.reduceLT, Nat.reduceBEq, Nat.reduceEqDiff, beq_self_eq_true, enumD_len, ← hr, List.take_length, p_member_from l h _ hr]
    exact ⟨rfl, trivial⟩
theorem p_less_in (l : List Int) (h : Ords l) (a b : Int) : E_less_in.sem [.v (Ti l), .v (.int a), .v (.int b)] = .ok (.v (.int (less l a b))) none := by
  show S_less_in _ = _
  refine sat_fin ?_
  simp only [S_less_in, I_less_in, L_less_in, runDef, exs, ex1, den, denPs, denP, denEs, denC, denO, denI, bind_ok, st_okq, seq_next, seq_ret, lift_some, look0, lookS, asBool_ok, lift_none, and_ok, or_ok, Tgt.slots, wipeE, backE, keepV, Tgt.put, setMany, ds_map_vq, ds_nilq, filter_ff, rev_mapq, mkTup_v, mkTupF_1, mkTupF_2, mkTupF_3, mkLst_1, seqD_list, seqD_tuple, seqD_own, all_isV, rsat_ok, ssat_next, ssat_ret, Function.comp_apply, addV_int, rdIdx, elems_own, elems_list, elems_tup, Bool.true_or, List.length_map, List.isEmpty_nil, List.isEmpty_cons, isiD_tuple, isiD_list, mkTupF_nil, mkLst_nil, shaped_int, shaped_none, shaped_bool, shaped_Li, shaped_Ti, shaped_LLi, shaped_Lnil, shaped_Tnil, eqv_int, eqv_Li, eqv_Ti, eqv_LLi, eqv_Lnil, eqv_Tnil, bool2, List.isEmpty_map, List.getElem_map, Int.reduceLT, Int.reduceLE, leafys_ints, leafys_lis, two_str, eqv_sstr, mkTupF_xo, mkTupF_ox, mkTupF_oxx, mkTupF_xox, mkTupF_xxo, mkTupF_xt, mkTupF_tx, mkTupF_txx, mkTupF_xtx, mkTupF_xxt, mkLst_2, mkLst_3, mkLst_4, elems_tupT, elems_ownT, Bool.or_true, List.contains_cons, List.contains_nil, res1, resAll, resAll_nil, Option.map_some, Option.map_none, pr, pr1, pr2, int1, int2, intOf, oI, oB, Ev.data2, isNone, rdVar, mvVar, argO, argOs, lent, Ev.borrowed, endCall, Ev.finish, outOf, doCall, leafy, leafyOut, List.map_cons, List.map_nil, List.cons_append, List.nil_append, List.append_nil, List.length_cons, List.length_nil, List.getElem?_cons_zero, List.getElem?_cons_succ, Nat.reduceAdd, Nat.reduceSub, Nat.zero_add, List.replicate_succ, List.replicate_zero, List.any_cons, List.any_nil, Bool.or_false, Bool.false_or, Bool.and_true, Bool.true_and, Bool.false_and, Bool.and_false, Bool.not_true, Bool.not_false, noList, noLists, leafys, Bool.false_eq_true, if_true, if_false, ite_true, ite_false, reduceIte, List.set_cons_zero, List.set_cons_succ, O.d, liftS, setN, doTg, doTgs, decide_true, decide_false, Nat.reduceLT, Nat.reduceBEq, Nat.reduceEqDiff, beq_self_eq_true, E_sum_in_ps, E_sum_in_io, E_minus_in_ps, E_minus_in_io, p_sum_in l h, p_minus_in l h]
  exact ⟨rfl, trivial⟩
theorem p_total_in (l : List Int) (h : Ords l) (xs : List Int) : E_total_in.sem [.v (Ti l), .v (Li xs)] = .ok (.v (.int (tot l xs))) none := by
  show S_total_in _ = _
  refine sat_fin ?_
  simp only [S_total_in, I_total_in, L_total_in, runDef, exs, ex1, den, denPs, denP, denEs, denC, denO, denI, bind_ok, st_okq, seq_next, seq_ret, lift_some, look0, lookS, asBool_ok, lift_none, and_ok, or_ok, Tgt.slots, wipeE, backE, keepV, Tgt.put, setMany, ds_map_vq, ds_nilq, filter_ff, rev_mapq, mkTup_v, mkTupF_1, mkTupF_2, mkTupF_3, mkLst_1, seqD_list, seqD_tuple, seqD_own, all_isV, rsat_ok, ssat_next, ssat_ret, Function.comp_apply, addV_int, rdIdx, elems_own, elems_list, elems_tup, Bool.true_or, List.length_map, List.isEmpty_nil, List.isEmpty_cons, isiD_tuple, isiD_list, mkTupF_nil, mkLst_nil, shaped_int, shaped_none, shaped_bool, shaped_Li, shaped_Ti, shaped_LLi, shaped_Lnil, shaped_Tnil, eqv_int, eqv_Li, eqv_Ti, eqv_LLi, eqv_Lnil, eqv_Tnil, bool2, List.isEmpty_map, List.getElem_map, Int.reduceLT, Int.reduceLE, leafys_ints, leafys_lis, two_str, eqv_sstr, mkTupF_xo, mkTupF_ox, mkTupF_oxx, mkTupF_xox, mkTupF_xxo, mkTupF_xt, mkTupF_tx, mkTupF_txx, mkTupF_xtx, mkTupF_xxt, mkLst_2, mkLst_3, mkLst_4, elems_tupT, elems_ownT, Bool.or_true, List.contains_cons, List.contains_nil, res1, resAll, resAll_nil, Option.map_some, Option.map_none, pr, pr1, pr2, int1, int2, intOf, oI, oB, Ev.data2, isNone, rdVar, mvVar, argO, argOs, lent, Ev.borrowed, endCall, Ev.finish, outOf, doCall, leafy, leafyOut, List.map_cons, List.map_nil, List.cons_append, List.nil_append, List.append_nil, List.length_cons, List.length_nil, List.getElem?_cons_zero, List.getElem?_cons_succ, Nat.reduceAdd, Nat.reduceSub, Nat.zero_add, List.replicate_succ, List.replicate_zero, List.any_cons, List.any_nil, Bool.or_false, Bool.false_or, Bool.and_true, Bool.true_and, Bool.false_and, Bool.and_false, Bool.not_true, Bool.not_false, noList, noLists, leafys, Bool.false_eq_true, if_true, if_false, ite_true, ite_false, reduceIte, List.set_cons_zero, List.set_cons_succ, O.d, liftS, setN, doTg, doTgs, decide_true, decide_false, Nat.reduceLT, Nat.reduceBEq, Nat.reduceEqDiff, beq_self_eq_true, E_sum_in_ps, E_sum_in_io, p_sum_in l h]
  repeat (first | with_reducible refine sat_seq ?_ | with_reducible refine sat_st ?_ | with_reducible refine sat_bind ?_ | with_reducible refine sat_asBool ?_)
  refine sat_for (fun k e => ∃ x, e = [some (.v (Ti l)), some (.v (Li xs)), some (.v (.int (tot l (xs.take k)))), x]) ⟨_, rfl⟩ ?_ ?_
  · rintro k hk e ⟨x, rfl⟩
    have hk' : k < xs.length := by simpa using hk
    refine ⟨_, by simp only [List.getElem_map]; rfl, ?_⟩
    simp only [exs, ex1, den, denPs, denP, denEs, denC, denO, denI, bind_ok, st_okq, seq_next, seq_ret, lift_some, look0, lookS, asBool_ok, lift_none, and_ok, or_ok, Tgt.slots, wipeE, backE, keepV, Tgt.put, setMany, ds_map_vq, ds_nilq, filter_ff, rev_mapq, mkTup_v, mkTupF_1, mkTupF_2, mkTupF_3, mkLst_1, seqD_list, seqD_tuple, seqD_own, all_isV, rsat_ok, ssat_next, ssat_ret, Function.comp_apply, addV_int, rdIdx, elems_own, elems_list, elems_tup, Bool.true_or, List.length_map, List.isEmpty_nil, List.isEmpty_cons, isiD_tuple, isiD_list, mkTupF_nil, mkLst_nil, shaped_int, shaped_none, shaped_bool, shaped_Li, shaped_Ti, shaped_LLi, shaped_Lnil, shaped_Tnil, eqv_int, eqv_Li, eqv_Ti, eqv_LLi, eqv_Lnil, eqv_Tnil, bool2, List.isEmpty_map, List.getElem_map, Int.reduceLT, Int.reduceLE, leafys_ints, leafys_lis, two_str, eqv_sstr, mkTupF_xo, mkTupF_ox, mkTupF_oxx, mkTupF_xox, mkTupF_xxo, mkTupF_xt, mkTupF_tx, mkTupF_txx, mkTupF_xtx, mkTupF_xxt, mkLst_2, mkLst_3, mkLst_4, elems_tupT, elems_ownT, Bool.or_true, List.contains_cons, List.contains_nil, res1, resAll, resAll_nil, Option.map_some, Option.map_none, pr, pr1, pr2, int1, int2, intOf, oI, oB, Ev.data2, isNone, rdVar, mvVar, argO, argOs, lent, Ev.borrowed, endCall, Ev.finish, outOf, doCall, leafy, leafyOut, List.map_cons, List.map_nil, List.cons_append, List.nil_append, List.append_nil, List.length_cons, List.length_nil, List.getElem?_cons_zero, List.getElem?_cons_succ, Nat.reduceAdd, Nat.reduceSub, Nat.zero_add, List.replicate_succ, List.replicate_zero, List.any_cons, List.any_nil, Bool.or_false, Bool.false_or, Bool.and_true, Bool.true_and, Bool.false_and, Bool.and_false, Bool.not_true, Bool.not_false, noList, noLists, leafys, Bool.false_eq_true, if_true, if_false, ite_true, ite_false, reduceIte, List.set_cons_zero, List.set_cons_succ, O.d, liftS, setN, doTg, doTgs, decide_true, decide_false, Nat.reduceLT, Nat.reduceBEq, Nat.reduceEqDiff, beq_self_eq_true, E_sum_in_ps, E_sum_in_io, p_sum_in l h, tot, foldl_take _ _ _ _ hk']
    exact ⟨_, rfl⟩
  · rintro e ⟨x, rfl⟩
    simp only [exs, ex1, den, denPs, denP, denEs, denC, denO, denI, bind_ok, st_okq, seq_next, seq_ret, lift_some, look0, lookS, asBool_ok, lift_none, and_ok, or_ok, Tgt.slots, wipeE, backE, keepV, Tgt.put, setMany, ds_map_vq, ds_nilq, filter_ff, rev_mapq, mkTup_v, mkTupF_1, mkTupF_2, mkTupF_3, mkLst_1, seqD_list, seqD_tuple, seqD_own, all_isV, rsat_ok, ssat_next, ssat_ret, Function.comp_apply, addV_int, rdIdx, elems_own, elems_list, elems_tup, Bool.true_or, List.length_map, List.isEmpty_nil, List.isEmpty_cons, isiD_tuple, isiD_list, mkTupF_nil, mkLst_nil, shaped_int, shaped_none, shaped_bool, shaped_Li, shaped_Ti, shaped_LLi, shaped_Lnil, shaped_Tnil, eqv_int, eqv_Li, eqv_Ti, eqv_LLi, eqv_Lnil, eqv_Tnil, bool2, List.isEmpty_map, List.getElem_map, Int.reduceLT, Int.reduceLE, leafys_ints, leafys_lis, two_str, eqv_sstr, mkTupF_xo, mkTupF_ox, mkTupF_oxx, mkTupF_xox, mkTupF_xxo, mkTupF_xt, mkTupF_tx, mkTupF_txx, mkTupF_xtx, mkTupF_xxt, mkLst_2, mkLst_3, mkLst_4, elems_tupT, elems_ownT, Bool.or_true, List.contains_cons, List.contains_nil, res1, resAll, resAll_nil, Option.map_some, Option.map_none, pr, pr1, pr2, int1, int2, intOf, oI, oB, Ev.data2, isNone, rdVar, mvVar, argO, argOs, lent, Ev.borrowed, endCall, Ev.finish, outOf, doCall, leafy, leafyOut, List.map_cons, List.map_nil, List.cons_append, List.nil_append, List.append_nil, List.length_cons, List.length_nil, List.getElem?_cons_zero, List.getElem?_cons_succ, Nat.reduceAdd, Nat.reduceSub, Nat.zero_add, List.replicate_succ, List.replicate_zero, List.any_cons, List.any_nil, Bool.or_false, Bool.false_or, Bool.and_true, Bool.true_and, Bool.false_and, Bool.and_false, Bool.not_true, Bool.not_false, noList, noLists, leafys, Bool.false_eq_true, if_true, if_false, ite_true, ite_false, reduceIte, List.set_cons_zero, List.set_cons_succ, O.d, liftS, setN, doTg, doTgs, decide_true, decide_false, Nat.reduceLT, Nat.reduceBEq, Nat.reduceEqDiff, beq_self_eq_true]
    exact ⟨by rw [List.take_of_length_le (by simp)], trivial⟩
theorem p__law_parts (l : List Int) (h : Ords l) (m : Int) : E__law_parts.sem [.v (Ti l), .v (.int m)] = .ok (.own (((figs l m).map .int).map .v)) none := by
  show S__law_parts _ = _
  refine sat_fin ?_
  simp only [S__law_parts, I__law_parts, L__law_parts, runDef, exs, ex1, den, denPs, denP, denEs, denC, denO, denI, bind_ok, st_okq, seq_next, seq_ret, lift_some, look0, lookS, asBool_ok, lift_none, and_ok, or_ok, Tgt.slots, wipeE, backE, keepV, Tgt.put, setMany, ds_map_vq, ds_nilq, filter_ff, rev_mapq, mkTup_v, mkTupF_1, mkTupF_2, mkTupF_3, mkLst_1, seqD_list, seqD_tuple, seqD_own, all_isV, rsat_ok, ssat_next, ssat_ret, Function.comp_apply, addV_int, rdIdx, elems_own, elems_list, elems_tup, Bool.true_or, List.length_map, List.isEmpty_nil, List.isEmpty_cons, isiD_tuple, isiD_list, mkTupF_nil, mkLst_nil, shaped_int, shaped_none, shaped_bool, shaped_Li, shaped_Ti, shaped_LLi, shaped_Lnil, shaped_Tnil, eqv_int, eqv_Li, eqv_Ti, eqv_LLi, eqv_Lnil, eqv_Tnil, bool2, List.isEmpty_map, List.getElem_map, Int.reduceLT, Int.reduceLE, leafys_ints, leafys_lis, two_str, eqv_sstr, mkTupF_xo, mkTupF_ox, mkTupF_oxx, mkTupF_xox, mkTupF_xxo, mkTupF_xt, mkTupF_tx, mkTupF_txx, mkTupF_xtx, mkTupF_xxt, mkLst_2, mkLst_3, mkLst_4, elems_tupT, elems_ownT, Bool.or_true, List.contains_cons, List.contains_nil, res1, resAll, resAll_nil, Option.map_some, Option.map_none, pr, pr1, pr2, int1, int2, intOf, oI, oB, Ev.data2, isNone, rdVar, mvVar, argO, argOs, lent, Ev.borrowed, endCall, Ev.finish, outOf, doCall, leafy, leafyOut, List.map_cons, List.map_nil, List.cons_append, List.nil_append, List.append_nil, List.length_cons, List.length_nil, List.getElem?_cons_zero, List.getElem?_cons_succ, Nat.reduceAdd, Nat.reduceSub, Nat.zero_add, List.replicate_succ, List.replicate_zero, List.any_cons, List.any_nil, Bool.or_false, Bool.false_or, Bool.and_true, Bool.true_and, Bool.false_and, Bool.and_false, Bool.not_true, Bool.not_false, noList, noLists, leafys, Bool.false_eq_true, if_true, if_false, ite_true, ite_false, reduceIte, List.set_cons_zero, List.set_cons_succ, O.d, liftS, setN, doTg, doTgs, decide_true, decide_false, Nat.reduceLT, Nat.reduceBEq, Nat.reduceEqDiff, beq_self_eq_true, seqO]
  repeat (first | with_reducible refine sat_seq ?_ | with_reducible refine sat_st ?_ | with_reducible refine sat_bind ?_ | with_reducible refine sat_asBool ?_)
  have hlen := h.2.1
  refine sat_for (fun k e => ∃ x, e = [some (.v (Ti l)), some (.v (.int (remR (l.reverse.take k) m))), some (.own (((figR (l.reverse.take k) m).reverse.map .int).map .v)), x]) ⟨_, rfl⟩ ?_ ?_
  · rintro k hk e ⟨x, rfl⟩
    have hk' : k < l.reverse.length := by simpa using hk
    have ho := h.2.2 l.reverse[k] (List.mem_reverse.1 (List.getElem_mem hk'))
    have hd : divOk l.reverse[k] = true := divOk_q (by omega) (by omega)
    have h0 : 0 < l.reverse[k] := by omega
    have hln : (figR (l.reverse.take k) m).reverse.length ≤ 1000 := by
      rw [List.length_reverse, figR_len]
      exact Nat.le_trans (List.length_take_le' _ _) (by rw [List.length_reverse]; omega)
    have hA : ∀ s t i, addV s (.own [.v (.int i)]) t (.own (((figR (l.reverse.take k) m).reverse.map .int).map .v)) = some (.own (((i :: (figR (l.reverse.take k) m).reverse).map .int).map .v)) := fun s t i =>
      addV_oo _ _ [.int i] _ (by simp only [List.length_map, List.length_cons, List.length_nil, Sz]; omega)
    refine ⟨_, putT_one _ _ _ (by simp), ?_⟩
    simp only [exs, ex1, den, denPs, denP, denEs, denC, denO, denI, bind_ok, st_okq, seq_next, seq_ret, lift_some, look0, lookS, asBool_ok, lift_none, and_ok, or_ok, Tgt.slots, wipeE, backE, keepV, Tgt.put, setMany, ds_map_vq, ds_nilq, filter_ff, rev_mapq, mkTup_v, mkTupF_1, mkTupF_2, mkTupF_3, mkLst_1, seqD_list, seqD_tuple, seqD_own, all_isV, rsat_ok, ssat_next, ssat_ret, Function.comp_apply, addV_int, rdIdx, elems_own, elems_list, elems_tup, Bool.true_or, List.length_map, List.isEmpty_nil, List.isEmpty_cons, isiD_tuple, isiD_list, mkTupF_nil, mkLst_nil, shaped_int, shaped_none, shaped_bool, shaped_Li, shaped_Ti, shaped_LLi, shaped_Lnil, shaped_Tnil, eqv_int, eqv_Li, eqv_Ti, eqv_LLi, eqv_Lnil, eqv_Tnil, bool2, List.isEmpty_map, List.getElem_map, Int.reduceLT, Int.reduceLE, leafys_ints, leafys_lis, two_str, eqv_sstr, mkTupF_xo, mkTupF_ox, mkTupF_oxx, mkTupF_xox, mkTupF_xxo, mkTupF_xt, mkTupF_tx, mkTupF_txx, mkTupF_xtx, mkTupF_xxt, mkLst_2, mkLst_3, mkLst_4, elems_tupT, elems_ownT, Bool.or_true, List.contains_cons, List.contains_nil, res1, resAll, resAll_nil, Option.map_some, Option.map_none, pr, pr1, pr2, int1, int2, intOf, oI, oB, Ev.data2, isNone, rdVar, mvVar, argO, argOs, lent, Ev.borrowed, endCall, Ev.finish, outOf, doCall, leafy, leafyOut, List.map_cons, List.map_nil, List.cons_append, List.nil_append, List.append_nil, List.length_cons, List.length_nil, List.getElem?_cons_zero, List.getElem?_cons_succ, Nat.reduceAdd, Nat.reduceSub, Nat.zero_add, List.replicate_succ, List.replicate_zero, List.any_cons, List.any_nil, Bool.or_false, Bool.false_or, Bool.and_true, Bool.true_and, Bool.false_and, Bool.and_false, Bool.not_true, Bool.not_false, noList, noLists, leafys, Bool.false_eq_true, if_true, if_false, ite_true, ite_false, reduceIte, List.set_cons_zero, List.set_cons_succ, O.d, liftS, setN, doTg, doTgs, decide_true, decide_false, Nat.reduceLT, Nat.reduceBEq, Nat.reduceEqDiff, beq_self_eq_true, List.getElem_map, hd, h0, hA, List.take_succ_eq_append_getElem hk', figR_snoc, remR_snoc, List.reverse_append, List.reverse_cons, List.reverse_nil]
    exact ⟨_, rfl⟩
  · rintro e ⟨x, rfl⟩
    simp only [exs, ex1, den, denPs, denP, denEs, denC, denO, denI, bind_ok, st_okq, seq_next, seq_ret, lift_some, look0, lookS, asBool_ok, lift_none, and_ok, or_ok, Tgt.slots, wipeE, backE, keepV, Tgt.put, setMany, ds_map_vq, ds_nilq, filter_ff, rev_mapq, mkTup_v, mkTupF_1, mkTupF_2, mkTupF_3, mkLst_1, seqD_list, seqD_tuple, seqD_own, all_isV, rsat_ok, ssat_next, ssat_ret, Function.comp_apply, addV_int, rdIdx, elems_own, elems_list, elems_tup, Bool.true_or, List.length_map, List.isEmpty_nil, List.isEmpty_cons, isiD_tuple, isiD_list, mkTupF_nil, mkLst_nil, shaped_int, shaped_none, shaped_bool, shaped_Li, shaped_Ti, shaped_LLi, shaped_Lnil, shaped_Tnil, eqv_int, eqv_Li, eqv_Ti, eqv_LLi, eqv_Lnil, eqv_Tnil, bool2, List.isEmpty_map, List.getElem_map, Int.reduceLT, Int.reduceLE, leafys_ints, leafys_lis, two_str, eqv_sstr, mkTupF_xo, mkTupF_ox, mkTupF_oxx, mkTupF_xox, mkTupF_xxo, mkTupF_xt, mkTupF_tx, mkTupF_txx, mkTupF_xtx, mkTupF_xxt, mkLst_2, mkLst_3, mkLst_4, elems_tupT, elems_ownT, Bool.or_true, List.contains_cons, List.contains_nil, res1, resAll, resAll_nil, Option.map_some, Option.map_none, pr, pr1, pr2, int1, int2, intOf, oI, oB, Ev.data2, isNone, rdVar, mvVar, argO, argOs, lent, Ev.borrowed, endCall, Ev.finish, outOf, doCall, leafy, leafyOut, List.map_cons, List.map_nil, List.cons_append, List.nil_append, List.append_nil, List.length_cons, List.length_nil, List.getElem?_cons_zero, List.getElem?_cons_succ, Nat.reduceAdd, Nat.reduceSub, Nat.zero_add, List.replicate_succ, List.replicate_zero, List.any_cons, List.any_nil, Bool.or_false, Bool.false_or, Bool.and_true, Bool.true_and, Bool.false_and, Bool.and_false, Bool.not_true, Bool.not_false, noList, noLists, leafys, Bool.false_eq_true, if_true, if_false, ite_true, ite_false, reduceIte, List.set_cons_zero, List.set_cons_succ, O.d, liftS, setN, doTg, doTgs, decide_true, decide_false, Nat.reduceLT, Nat.reduceBEq, Nat.reduceEqDiff, beq_self_eq_true]
    refine ⟨?_, trivial⟩
    rw [List.take_of_length_le (by simp)]; rfl
theorem p__law_from (l : List Int) (h : Ords l) (xs : List Int) : E__law_from.sem [.v (Ti l), .v (Li xs)] = .ok (.v (.int (mf l (vmod l xs)))) none := by
  show S__law_from _ = _
  refine sat_fin ?_
  simp only [S__law_from, I__law_from, L__law_from, runDef, exs, ex1, den, denPs, denP, denEs, denC, denO, denI, bind_ok, st_okq, seq_next, seq_ret, lift_some, look0, lookS, asBool_ok, lift_none, and_ok, or_ok, Tgt.slots, wipeE, backE, keepV, Tgt.put, setMany, ds_map_vq, ds_nilq, filter_ff, rev_mapq, mkTup_v, mkTupF_1, mkTupF_2, mkTupF_3, mkLst_1, seqD_list, seqD_tuple, seqD_own, all_isV, rsat_ok, ssat_next, ssat_ret, Function.comp_apply, addV_int, rdIdx, elems_own, elems_list, elems_tup, Bool.true_or, List.length_map, List.isEmpty_nil, List.isEmpty_cons, isiD_tuple, isiD_list, mkTupF_nil, mkLst_nil, shaped_int, shaped_none, shaped_bool, shaped_Li, shaped_Ti, shaped_LLi, shaped_Lnil, shaped_Tnil, eqv_int, eqv_Li, eqv_Ti, eqv_LLi, eqv_Lnil, eqv_Tnil, bool2, List.isEmpty_map, List.getElem_map, Int.reduceLT, Int.reduceLE, leafys_ints, leafys_lis, two_str, eqv_sstr, mkTupF_xo, mkTupF_ox, mkTupF_oxx, mkTupF_xox, mkTupF_xxo, mkTupF_xt, mkTupF_tx, mkTupF_txx, mkTupF_xtx, mkTupF_xxt, mkLst_2, mkLst_3, mkLst_4, elems_tupT, elems_ownT, Bool.or_true, List.contains_cons, List.contains_nil, res1, resAll, resAll_nil, Option.map_some, Option.map_none, pr, pr1, pr2, int1, int2, intOf, oI, oB, Ev.data2, isNone, rdVar, mvVar, argO, argOs, lent, Ev.borrowed, endCall, Ev.finish, outOf, doCall, leafy, leafyOut, List.map_cons, List.map_nil, List.cons_append, List.nil_append, List.append_nil, List.length_cons, List.length_nil, List.getElem?_cons_zero, List.getElem?_cons_succ, Nat.reduceAdd, Nat.reduceSub, Nat.zero_add, List.replicate_succ, List.replicate_zero, List.any_cons, List.any_nil, Bool.or_false, Bool.false_or, Bool.and_true, Bool.true_and, Bool.false_and, Bool.and_false, Bool.not_true, Bool.not_false, noList, noLists, leafys, Bool.false_eq_true, if_true, if_false, ite_true, ite_false, reduceIte, List.set_cons_zero, List.set_cons_succ, O.d, liftS, setN, doTg, doTgs, decide_true, decide_false, Nat.reduceLT, Nat.reduceBEq, Nat.reduceEqDiff, beq_self_eq_true, zipD_ints]
  repeat (first | with_reducible refine sat_seq ?_ | with_reducible refine sat_st ?_ | with_reducible refine sat_bind ?_ | with_reducible refine sat_asBool ?_)
  refine sat_for (fun k e => ∃ x y, e = [some (.v (Ti l)), some (.v (Li xs)), some (.v (.int (((l.zip xs).take k).foldl (fun a p => a * p.1 + p.2 % p.1) 0))), x, y]) ⟨_, _, rfl⟩ ?_ ?_
  · rintro k hk e ⟨x, y, rfl⟩
    have hk' : k < (l.zip xs).length := by simpa using hk
    have ho := h.sm (l.zip xs)[k].1 (List.of_mem_zip (List.getElem_mem hk')).1
    have h0 := (h.2.2 (l.zip xs)[k].1 (List.of_mem_zip (List.getElem_mem hk')).1).1
    have h1 : 0 < (l.zip xs)[k].1 := by omega
    refine ⟨_, by simp only [List.getElem_map]; rfl, ?_⟩
    simp only [exs, ex1, den, denPs, denP, denEs, denC, denO, denI, bind_ok, st_okq, seq_next, seq_ret, lift_some, look0, lookS, asBool_ok, lift_none, and_ok, or_ok, Tgt.slots, wipeE, backE, keepV, Tgt.put, setMany, ds_map_vq, ds_nilq, filter_ff, rev_mapq, mkTup_v, mkTupF_1, mkTupF_2, mkTupF_3, mkLst_1, seqD_list, seqD_tuple, seqD_own, all_isV, rsat_ok, ssat_next, ssat_ret, Function.comp_apply, addV_int, rdIdx, elems_own, elems_list, elems_tup, Bool.true_or, List.length_map, List.isEmpty_nil, List.isEmpty_cons, isiD_tuple, isiD_list, mkTupF_nil, mkLst_nil, shaped_int, shaped_none, shaped_bool, shaped_Li, shaped_Ti, shaped_LLi, shaped_Lnil, shaped_Tnil, eqv_int, eqv_Li, eqv_Ti, eqv_LLi, eqv_Lnil, eqv_Tnil, bool2, List.isEmpty_map, List.getElem_map, Int.reduceLT, Int.reduceLE, leafys_ints, leafys_lis, two_str, eqv_sstr, mkTupF_xo, mkTupF_ox, mkTupF_oxx, mkTupF_xox, mkTupF_xxo, mkTupF_xt, mkTupF_tx, mkTupF_txx, mkTupF_xtx, mkTupF_xxt, mkLst_2, mkLst_3, mkLst_4, elems_tupT, elems_ownT, Bool.or_true, List.contains_cons, List.contains_nil, res1, resAll, resAll_nil, Option.map_some, Option.map_none, pr, pr1, pr2, int1, int2, intOf, oI, oB, Ev.data2, isNone, rdVar, mvVar, argO, argOs, lent, Ev.borrowed, endCall, Ev.finish, outOf, doCall, leafy, leafyOut, List.map_cons, List.map_nil, List.cons_append, List.nil_append, List.append_nil, List.length_cons, List.length_nil, List.getElem?_cons_zero, List.getElem?_cons_succ, Nat.reduceAdd, Nat.reduceSub, Nat.zero_add, List.replicate_succ, List.replicate_zero, List.any_cons, List.any_nil, Bool.or_false, Bool.false_or, Bool.and_true, Bool.true_and, Bool.false_and, Bool.and_false, Bool.not_true, Bool.not_false, noList, noLists, leafys, Bool.false_eq_true, if_true, if_false, ite_true, ite_false, reduceIte, List.set_cons_zero, List.set_cons_succ, O.d, liftS, setN, doTg, doTgs, decide_true, decide_false, Nat.reduceLT, Nat.reduceBEq, Nat.reduceEqDiff, beq_self_eq_true, mulV, List.getElem_map, mulOk_r ho, h1, foldl_take _ _ _ _ hk']
    exact ⟨_, _, rfl⟩
  · rintro e ⟨x, y, rfl⟩
    simp only [exs, ex1, den, denPs, denP, denEs, denC, denO, denI, bind_ok, st_okq, seq_next, seq_ret, lift_some, look0, lookS, asBool_ok, lift_none, and_ok, or_ok, Tgt.slots, wipeE, backE, keepV, Tgt.put, setMany, ds_map_vq, ds_nilq, filter_ff, rev_mapq, mkTup_v, mkTupF_1, mkTupF_2, mkTupF_3, mkLst_1, seqD_list, seqD_tuple, seqD_own, all_isV, rsat_ok, ssat_next, ssat_ret, Function.comp_apply, addV_int, rdIdx, elems_own, elems_list, elems_tup, Bool.true_or, List.length_map, List.isEmpty_nil, List.isEmpty_cons, isiD_tuple, isiD_list, mkTupF_nil, mkLst_nil, shaped_int, shaped_none, shaped_bool, shaped_Li, shaped_Ti, shaped_LLi, shaped_Lnil, shaped_Tnil, eqv_int, eqv_Li, eqv_Ti, eqv_LLi, eqv_Lnil, eqv_Tnil, bool2, List.isEmpty_map, List.getElem_map, Int.reduceLT, Int.reduceLE, leafys_ints, leafys_lis, two_str, eqv_sstr, mkTupF_xo, mkTupF_ox, mkTupF_oxx, mkTupF_xox, mkTupF_xxo, mkTupF_xt, mkTupF_tx, mkTupF_txx, mkTupF_xtx, mkTupF_xxt, mkLst_2, mkLst_3, mkLst_4, elems_tupT, elems_ownT, Bool.or_true, List.contains_cons, List.contains_nil, res1, resAll, resAll_nil, Option.map_some, Option.map_none, pr, pr1, pr2, int1, int2, intOf, oI, oB, Ev.data2, isNone, rdVar, mvVar, argO, argOs, lent, Ev.borrowed, endCall, Ev.finish, outOf, doCall, leafy, leafyOut, List.map_cons, List.map_nil, List.cons_append, List.nil_append, List.append_nil, List.length_cons, List.length_nil, List.getElem?_cons_zero, List.getElem?_cons_succ, Nat.reduceAdd, Nat.reduceSub, Nat.zero_add, List.replicate_succ, List.replicate_zero, List.any_cons, List.any_nil, Bool.or_false, Bool.false_or, Bool.and_true, Bool.true_and, Bool.false_and, Bool.and_false, Bool.not_true, Bool.not_false, noList, noLists, leafys, Bool.false_eq_true, if_true, if_false, ite_true, ite_false, reduceIte, List.set_cons_zero, List.set_cons_succ, O.d, liftS, setN, doTg, doTgs, decide_true, decide_false, Nat.reduceLT, Nat.reduceBEq, Nat.reduceEqDiff, beq_self_eq_true]
    refine ⟨?_, trivial⟩
    rw [List.take_of_length_le (by simp), mf, zip_vmod]
theorem p__law_plus (l : List Int) (h : Ords l) (a b : Int) : E__law_plus.sem [.v (Ti l), .v (.int a), .v (.int b)] = .ok (.v (.int (plus l a b))) none := by
  show S__law_plus _ = _
  refine sat_fin ?_
  have hlen := h.2.1
  have hr : (List.zipWith (· + ·) (figs l a) (figs l b)).length = l.length := by simp [figs_len]
  simp only [S__law_plus, I__law_plus, L__law_plus, runDef, exs, ex1, den, denPs, denP, denEs, denC, denO, denI, bind_ok, st_okq, seq_next, seq_ret, lift_some, look0, lookS, asBool_ok, lift_none, and_ok, or_ok, Tgt.slots, wipeE, backE, keepV, Tgt.put, setMany, ds_map_vq, ds_nilq, filter_ff, rev_mapq, mkTup_v, mkTupF_1, mkTupF_2, mkTupF_3, mkLst_1, seqD_list, seqD_tuple, seqD_own, all_isV, rsat_ok, ssat_next, ssat_ret, Function.comp_apply, addV_int, rdIdx, elems_own, elems_list, elems_tup, Bool.true_or, List.length_map, List.isEmpty_nil, List.isEmpty_cons, isiD_tuple, isiD_list, mkTupF_nil, mkLst_nil, shaped_int, shaped_none, shaped_bool, shaped_Li, shaped_Ti, shaped_LLi, shaped_Lnil, shaped_Tnil, eqv_int, eqv_Li, eqv_Ti, eqv_LLi, eqv_Lnil, eqv_Tnil, bool2, List.isEmpty_map, List.getElem_map, Int.reduceLT, Int.reduceLE, leafys_ints, leafys_lis, two_str, eqv_sstr, mkTupF_xo, mkTupF_ox, mkTupF_oxx, mkTupF_xox, mkTupF_xxo, mkTupF_xt, mkTupF_tx, mkTupF_txx, mkTupF_xtx, mkTupF_xxt, mkLst_2, mkLst_3, mkLst_4, elems_tupT, elems_ownT, Bool.or_true, List.contains_cons, List.contains_nil, res1, resAll, resAll_nil, Option.map_some, Option.map_none, pr, pr1, pr2, int1, int2, intOf, oI, oB, Ev.data2, isNone, rdVar, mvVar, argO, argOs, lent, Ev.borrowed, endCall, Ev.finish, outOf, doCall, leafy, leafyOut, List.map_cons, List.map_nil, List.cons_append, List.nil_append, List.append_nil, List.length_cons, List.length_nil, List.getElem?_cons_zero, List.getElem?_cons_succ, Nat.reduceAdd, Nat.reduceSub, Nat.zero_add, List.replicate_succ, List.replicate_zero, List.any_cons, List.any_nil, Bool.or_false, Bool.false_or, Bool.and_true, Bool.true_and, Bool.false_and, Bool.and_false, Bool.not_true, Bool.not_false, noList, noLists, leafys, Bool.false_eq_true, if_true, if_false, ite_true, ite_false, reduceIte, List.set_cons_zero, List.set_cons_succ, O.d, liftS, setN, doTg, doTgs, decide_true, decide_false, Nat.reduceLT, Nat.reduceBEq, Nat.reduceEqDiff, beq_self_eq_true, E__law_from_ps, E__law_from_io, E__law_parts_ps, E__law_parts_io, p__law_parts l h, zipD_ints]
  repeat (first | with_reducible refine sat_seq ?_ | with_reducible refine sat_st ?_ | with_reducible refine sat_bind ?_ | with_reducible refine sat_asBool ?_)
  refine sat_compI (fun k os e => os = (((List.zipWith (· + ·) (figs l a) (figs l b)).take k).map .int).map .v ∧ ∃ x y, e = [some (.v (Ti l)), some (.v (.int a)), some (.v (.int b)), x, y]) ⟨rfl, _, _, rfl⟩ ?_ ?_ ?_
  · simp only [List.length_map, List.length_zip, figs_len, Sz]; omega
  · rintro k hk os e ⟨rfl, x, y, rfl⟩
    have hk' : k < ((figs l a).zip (figs l b)).length := by simpa using hk
    refine ⟨_, by simp only [List.getElem_map]; rfl, ?_⟩
    simp only [exs, ex1, den, denPs, denP, denEs, denC, denO, denI, bind_ok, st_okq, seq_next, seq_ret, lift_some, look0, lookS, asBool_ok, lift_none, and_ok, or_ok, Tgt.slots, wipeE, backE, keepV, Tgt.put, setMany, ds_map_vq, ds_nilq, filter_ff, rev_mapq, mkTup_v, mkTupF_1, mkTupF_2, mkTupF_3, mkLst_1, seqD_list, seqD_tuple, seqD_own, all_isV, rsat_ok, ssat_next, ssat_ret, Function.comp_apply, addV_int, rdIdx, elems_own, elems_list, elems_tup, Bool.true_or, List.length_map, List.isEmpty_nil, List.isEmpty_cons, isiD_tuple, isiD_list, mkTupF_nil, mkLst_nil, shaped_int, shaped_none, shaped_bool, shaped_Li, shaped_Ti, shaped_LLi, shaped_Lnil, shaped_Tnil, eqv_int, eqv_Li, eqv_Ti, eqv_LLi, eqv_Lnil, eqv_Tnil, bool2, List.isEmpty_map, List.getElem_map, Int.reduceLT, Int.reduceLE, leafys_ints, leafys_lis, two_str, eqv_sstr, mkTupF_xo, mkTupF_ox, mkTupF_oxx, mkTupF_xox, mkTupF_xxo, mkTupF_xt, mkTupF_tx, mkTupF_txx, mkTupF_xtx, mkTupF_xxt, mkLst_2, mkLst_3, mkLst_4, elems_tupT, elems_ownT, Bool.or_true, List.contains_cons, List.contains_nil, res1, resAll, resAll_nil, Option.map_some, Option.map_none, pr, pr1, pr2, int1, int2, intOf, oI, oB, Ev.data2, isNone, rdVar, mvVar, argO, argOs, lent, Ev.borrowed, endCall, Ev.finish, outOf, doCall, leafy, leafyOut, List.map_cons, List.map_nil, List.cons_append, List.nil_append, List.append_nil, List.length_cons, List.length_nil, List.getElem?_cons_zero, List.getElem?_cons_succ, Nat.reduceAdd, Nat.reduceSub, Nat.zero_add, List.replicate_succ, List.replicate_zero, List.any_cons, List.any_nil, Bool.or_false, Bool.false_or, Bool.and_true, Bool.true_and, Bool.false_and, Bool.and_false, Bool.not_true, Bool.not_false, noList, noLists, leafys, Bool.false_eq_true, if_true, if_false, ite_true, ite_false, reduceIte, List.set_cons_zero, List.set_cons_succ, O.d, liftS, setN, doTg, doTgs, decide_true, decide_false, Nat.reduceLT, Nat.reduceBEq, Nat.reduceEqDiff, beq_self_eq_true, zipWith_take _ _ _ _ hk', List.map_append, true_and]
    exact ⟨_, _, rfl⟩
  · rintro os e ⟨rfl, x, y, rfl⟩
    have hz : ((figs l a).zip (figs l b)).length = (List.zipWith (· + ·) (figs l a) (figs l b)).length := by simp
    simp only [exs, ex1, den, denPs, denP, denEs, denC, denO, denI, bind_ok, st_okq, seq_next, seq_ret, lift_some, look0, lookS, asBool_ok, lift_none, and_ok, or_ok, Tgt.slots, wipeE, backE, keepV, Tgt.put, setMany, ds_map_vq, ds_nilq, filter_ff, rev_mapq, mkTup_v, mkTupF_1, mkTupF_2, mkTupF_3, mkLst_1, seqD_list, seqD_tuple, seqD_own, all_isV, rsat_ok, ssat_next, ssat_ret, Function.comp_apply, addV_int, rdIdx, elems_own, elems_list, elems_tup, Bool.true_or, List.length_map, List.isEmpty_nil, List.isEmpty_cons, isiD_tuple, isiD_list, mkTupF_nil, mkLst_nil, shaped_int, shaped_none, shaped_bool, shaped_Li, shaped_Ti, shaped_LLi, shaped_Lnil, shaped_Tnil, eqv_int, eqv_Li, eqv_Ti, eqv_LLi, eqv_Lnil, eqv_Tnil, bool2, List.isEmpty_map, List.getElem_map, Int.reduceLT, Int.reduceLE, leafys_ints, leafys_lis, two_str, eqv_sstr, mkTupF_xo, mkTupF_ox, mkTupF_oxx, mkTupF_xox, mkTupF_xxo, mkTupF_xt, mkTupF_tx, mkTupF_txx, mkTupF_xtx, mkTupF_xxt, mkLst_2, mkLst_3, mkLst_4, elems_tupT, elems_ownT, Bool.or_true, List.contains_cons, List.contains_nil, res1, resAll, resAll_nil, Option.map_some, Option.map_none, pr, pr1, pr2, int1, int2, intOf, oI, oB, Ev.data2, isNone, rdVar, mvVar, argO, argOs, lent, Ev.borrowed, endCall, Ev.finish, outOf, doCall, leafy, leafyOut, List.map_cons, List.map_nil, List.cons_append, List.nil_append, List.append_nil, List.length_cons, List.length_nil, List.getElem?_cons_zero, List.getElem?_cons_succ, Nat.reduceAdd, Nat.reduceSub, Nat.zero_add, List.replicate_succ, List.replicate_zero, List.any_cons, List.any_nil, Bool.or_false, Bool.false_or, Bool.and_true, Bool.true_and, Bool.false_and, Bool.and_false, Bool.not_true, Bool.not_false, noList, noLists, leafys, Bool.false_eq_true, if_true, if_false, ite_true, ite_false, reduceIte, List.set_cons_zero, List.set_cons_succ, O.d, liftS, setN, doTg, doTgs, decide_true, decide_false, Nat.reduceLT, Nat.reduceBEq, Nat.reduceEqDiff, beq_self_eq_true, hz, List.take_length, p__law_from l h, plus, and_self]
theorem p__law_less0 (l : List Int) (h : Ords l) (a b : Int) : E__law_less.sem [.v (Ti l), .v (.int a), .v (.int b)] = .ok (.v (.int (mf l (vmod l (List.zipWith (· - ·) (figs l a) (figs l b)))))) none := by
  show S__law_less _ = _
  refine sat_fin ?_
  have hlen := h.2.1
  have hr : (List.zipWith (· - ·) (figs l a) (figs l b)).length = l.length := by simp [figs_len]
  simp only [S__law_less, I__law_less, L__law_less, runDef, exs, ex1, den, denPs, denP, denEs, denC, denO, denI, bind_ok, st_okq, seq_next, seq_ret, lift_some, look0, lookS, asBool_ok, lift_none, and_ok, or_ok, Tgt.slots, wipeE, backE, keepV, Tgt.put, setMany, ds_map_vq, ds_nilq, filter_ff, rev_mapq, mkTup_v, mkTupF_1, mkTupF_2, mkTupF_3, mkLst_1, seqD_list, seqD_tuple, seqD_own, all_isV, rsat_ok, ssat_next, ssat_ret, Function.comp_apply, addV_int, rdIdx, elems_own, elems_list, elems_tup, Bool.true_or, List.length_map, List.isEmpty_nil, List.isEmpty_cons, isiD_tuple, isiD_list, mkTupF_nil, mkLst_nil, shaped_int, shaped_none, shaped_bool, shaped_Li, shaped_Ti, shaped_LLi, shaped_Lnil, shaped_Tnil, eqv_int, eqv_Li, eqv_Ti, eqv_LLi, eqv_Lnil, eqv_Tnil, bool2, List.isEmpty_map, List.getElem_map, Int.reduceLT, Int.reduceLE, leafys_ints, leafys_lis, two_str, eqv_sstr, mkTupF_xo, mkTupF_ox, mkTupF_oxx, mkTupF_xox, mkTupF_xxo, mkTupF_xt, mkTupF_tx, mkTupF_txx, mkTupF_xtx, mkTupF_xxt, mkLst_2, mkLst_3, mkLst_4, elems_tupT, elems_ownT, Bool.or_true, List.contains_cons, List.contains_nil, res1, resAll, resAll_nil, Option.map_some, Option.map_none, pr, pr1, pr2, int1, int2, intOf, oI, oB, Ev.data2, isNone, rdVar, mvVar, argO, argOs, lent, Ev.borrowed, endCall, Ev.finish, outOf, doCall, leafy, leafyOut, List.map_cons, List.map_nil, List.cons_append, List.nil_append, List.append_nil, List.length_cons, List.length_nil, List.getElem?_cons_zero, List.getElem?_cons_succ, Nat.reduceAdd, Nat.reduceSub, Nat.zero_add, List.replicate_succ, List.replicate_zero, List.any_cons, List.any_nil, Bool.or_false, Bool.false_or, Bool.and_true, Bool.true_and, Bool.false_and, Bool.and_false, Bool.not_true, Bool.not_false, noList, noLists, leafys, Bool.false_eq_true, if_true, if_false, ite_true, ite_false, reduceIte, List.set_cons_zero, List.set_cons_succ, O.d, liftS, setN, doTg, doTgs, decide_true, decide_false, Nat.reduceLT, Nat.reduceBEq, Nat.reduceEqDiff, beq_self_eq_true, E__law_from_ps, E__law_from_io, E__law_parts_ps, E__law_parts_io, p__law_parts l h, zipD_ints]
  repeat (first | with_reducible refine sat_seq ?_ | with_reducible refine sat_st ?_ | with_reducible refine sat_bind ?_ | with_reducible refine sat_asBool ?_)
  refine sat_compI (fun k os e => os = (((List.zipWith (· - ·) (figs l a) (figs l b)).take k).map .int).map .v ∧ ∃ x y, e = [some (.v (Ti l)), some (.v (.int a)), some (.v (.int b)), x, y]) ⟨rfl, _, _, rfl⟩ ?_ ?_ ?_
  · simp only [List.length_map, List.length_zip, figs_len, Sz]; omega
  · rintro k hk os e ⟨rfl, x, y, rfl⟩
    have hk' : k < ((figs l a).zip (figs l b)).length := by simpa using hk
    refine ⟨_, by simp only [List.getElem_map]; rfl, ?_⟩
    simp only [exs, ex1, den, denPs, denP, denEs, denC, denO, denI, bind_ok, st_okq, seq_next, seq_ret, lift_some, look0, lookS, asBool_ok, lift_none, and_ok, or_ok, Tgt.slots, wipeE, backE, keepV, Tgt.put, setMany, ds_map_vq, ds_nilq, filter_ff, rev_mapq, mkTup_v, mkTupF_1, mkTupF_2, mkTupF_3, mkLst_1, seqD_list, seqD_tuple, seqD_own, all_isV, rsat_ok, ssat_next, ssat_ret, Function.comp_apply, addV_int, rdIdx, elems_own, elems_list, elems_tup, Bool.true_or, List.length_map, List.isEmpty_nil, List.isEmpty_cons, isiD_tuple, isiD_list, mkTupF_nil, mkLst_nil, shaped_int, shaped_none, shaped_bool, shaped_Li, shaped_Ti, shaped_LLi, shaped_Lnil, shaped_Tnil, eqv_int, eqv_Li, eqv_Ti, eqv_LLi, eqv_Lnil, eqv_Tnil, bool2, List.isEmpty_map, List.getElem_map, Int.reduceLT, Int.reduceLE, leafys_ints, leafys_lis, two_str, eqv_sstr, mkTupF_xo, mkTupF_ox, mkTupF_oxx, mkTupF_xox, mkTupF_xxo, mkTupF_xt, mkTupF_tx, mkTupF_txx, mkTupF_xtx, mkTupF_xxt, mkLst_2, mkLst_3, mkLst_4, elems_tupT, elems_ownT, Bool.or_true, List.contains_cons, List.contains_nil, res1, resAll, resAll_nil, Option.map_some, Option.map_none, pr, pr1, pr2, int1, int2, intOf, oI, oB, Ev.data2, isNone, rdVar, mvVar, argO, argOs, lent, Ev.borrowed, endCall, Ev.finish, outOf, doCall, leafy, leafyOut, List.map_cons, List.map_nil, List.cons_append, List.nil_append, List.append_nil, List.length_cons, List.length_nil, List.getElem?_cons_zero, List.getElem?_cons_succ, Nat.reduceAdd, Nat.reduceSub, Nat.zero_add, List.replicate_succ, List.replicate_zero, List.any_cons, List.any_nil, Bool.or_false, Bool.false_or, Bool.and_true, Bool.true_and, Bool.false_and, Bool.and_false, Bool.not_true, Bool.not_false, noList, noLists, leafys, Bool.false_eq_true, if_true, if_false, ite_true, ite_false, reduceIte, List.set_cons_zero, List.set_cons_succ, O.d, liftS, setN, doTg, doTgs, decide_true, decide_false, Nat.reduceLT, Nat.reduceBEq, Nat.reduceEqDiff, beq_self_eq_true, zipWith_take _ _ _ _ hk', List.map_append, true_and]
    exact ⟨_, _, rfl⟩
  · rintro os e ⟨rfl, x, y, rfl⟩
    have hz : ((figs l a).zip (figs l b)).length = (List.zipWith (· - ·) (figs l a) (figs l b)).length := by simp
    simp only [exs, ex1, den, denPs, denP, denEs, denC, denO, denI, bind_ok, st_okq, seq_next, seq_ret, lift_some, look0, lookS, asBool_ok, lift_none, and_ok, or_ok, Tgt.slots, wipeE, backE, keepV, Tgt.put, setMany, ds_map_vq, ds_nilq, filter_ff, rev_mapq, mkTup_v, mkTupF_1, mkTupF_2, mkTupF_3, mkLst_1, seqD_list, seqD_tuple, seqD_own, all_isV, rsat_ok, ssat_next, ssat_ret, Function.comp_apply, addV_int, rdIdx, elems_own, elems_list, elems_tup, Bool.true_or, List.length_map, List.isEmpty_nil, List.isEmpty_cons, isiD_tuple, isiD_list, mkTupF_nil, mkLst_nil, shaped_int, shaped_none, shaped_bool, shaped_Li, shaped_Ti, shaped_LLi, shaped_Lnil, shaped_Tnil, eqv_int, eqv_Li, eqv_Ti, eqv_LLi, eqv_Lnil, eqv_Tnil, bool2, List.isEmpty_map, List.getElem_map, Int.reduceLT, Int.reduceLE, leafys_ints, leafys_lis, two_str, eqv_sstr, mkTupF_xo, mkTupF_ox, mkTupF_oxx, mkTupF_xox, mkTupF_xxo, mkTupF_xt, mkTupF_tx, mkTupF_txx, mkTupF_xtx, mkTupF_xxt, mkLst_2, mkLst_3, mkLst_4, elems_tupT, elems_ownT, Bool.or_true, List.contains_cons, List.contains_nil, res1, resAll, resAll_nil, Option.map_some, Option.map_none, pr, pr1, pr2, int1, int2, intOf, oI, oB, Ev.data2, isNone, rdVar, mvVar, argO, argOs, lent, Ev.borrowed, endCall, Ev.finish, outOf, doCall, leafy, leafyOut, List.map_cons, List.map_nil, List.cons_append, List.nil_append, List.append_nil, List.length_cons, List.length_nil, List.getElem?_cons_zero, List.getElem?_cons_succ, Nat.reduceAdd, Nat.reduceSub, Nat.zero_add, List.replicate_succ, List.replicate_zero, List.any_cons, List.any_nil, Bool.or_false, Bool.false_or, Bool.and_true, Bool.true_and, Bool.false_and, Bool.and_false, Bool.not_true, Bool.not_false, noList, noLists, leafys, Bool.false_eq_true, if_true, if_false, ite_true, ite_false, reduceIte, List.set_cons_zero, List.set_cons_succ, O.d, liftS, setN, doTg, doTgs, decide_true, decide_false, Nat.reduceLT, Nat.reduceBEq, Nat.reduceEqDiff, beq_self_eq_true, hz, List.take_length, p__law_from l h, plus, and_self]
end Lw
set_option Elab.async false
set_option linter.all false
set_option maxRecDepth 100000
namespace Lw
open PySem PySem.Spec PyProof.Rows L2 Ev
theorem Ords.pos {l : List Int} (h : Ords l) : Pos l := fun o ho => (h.2.2 o ho).1
theorem p__law_less (l : List Int) (h : Ords l) (a b : Int) : E__law_less.sem [.v (Ti l), .v (.int a), .v (.int b)] = .ok (.v (.int (less l a b))) none := by
  rw [p__law_less0 l h, less_law l a b h.pos]
/-- a system, a code -/
abbrev Lli (ts : List (List Int)) : D := .list (ts.map fun r => .list (r.map .int))
abbrev Sy (l : List Int) (ts : List (List Int)) (t : Int) : D := .tuple [Ti l, Lli ts, .int t]
structure Sys (l : List Int) (ts : List (List Int)) (t : Int) : Prop where
  o : Ords l
  w : ts.length < 1000
  w2 : 2 ≤ ts.length
  p : l.prod < 1000
  rp : ∀ r ∈ ts, r.Perm (rng l.prod.toNat)
  t0 : 0 ≤ t
  t1 : t < l.prod
theorem Sys.r {l : List Int} {ts : List (List Int)} {t : Int} (h : Sys l ts t) : ∀ r ∈ ts, r.length = l.prod.toNat ∧ ∀ x ∈ r, 0 ≤ x ∧ x < l.prod := fun r hr => by
  have hp := h.rp r hr
  refine ⟨by rw [hp.length_eq]; simp [rng], fun x hx => ?_⟩
  obtain ⟨n, hn, rfl⟩ := List.mem_map.1 (hp.mem_iff.1 hx)
  have := List.mem_range.1 hn
  have := h.t0; have := h.t1
  simp only [Int.ofNat_eq_natCast]; omega
def Code (l : List Int) (ts : List (List Int)) (c : List Int) : Prop := c.length = ts.length ∧ ∀ x ∈ c, 0 ≤ x ∧ x < l.prod
theorem atI_lit0 {α : Type} (a : α) (r : List α) : atI (a :: r) 0 = some a := atI_v (a :: r) 0 (by simp)
theorem atI_lit1 {α : Type} (a b : α) (r : List α) : atI (a :: b :: r) 1 = some b := atI_v (a :: b :: r) 1 (by simp)
theorem atI_lit2 {α : Type} (a b c : α) (r : List α) : atI (a :: b :: c :: r) 2 = some c := atI_v (a :: b :: c :: r) 2 (by simp)
theorem p_members_of (l : List Int) (ts : List (List Int)) (t : Int) (h : Sys l ts t) (c : List Int) (hc : Code l ts c) : E_members_of.sem [.v (Sy l ts t), .v (Li c)] = .ok (.own (((mems ts c).map .int).map .v)) none := by
  show S_members_of _ = _
  refine sat_fin ?_
  have hr : (mems ts c).length = c.length := by simp [mems, hc.1]
  simp only [S_members_of, I_members_of, L_members_of, runDef, exs, ex1, den, denPs, denP, denEs, denC, denO, denI, bind_ok, st_okq, seq_next, seq_ret, lift_some, look0, lookS, asBool_ok, lift_none, and_ok, or_ok, Tgt.slots, wipeE, backE, keepV, Tgt.put, setMany, ds_map_vq, ds_nilq, filter_ff, rev_mapq, mkTup_v, mkTupF_1, mkTupF_2, mkTupF_3, mkLst_1, seqD_list, seqD_tuple, seqD_own, all_isV, rsat_ok, ssat_next, ssat_ret, Function.comp_apply, addV_int, rdIdx, elems_own, elems_list, elems_tup, Bool.true_or, List.length_map, List.isEmpty_nil, List.isEmpty_cons, isiD_tuple, isiD_list, mkTupF_nil, mkLst_nil, shaped_int, shaped_none, shaped_bool, shaped_Li, shaped_Ti, shaped_LLi, shaped_Lnil, shaped_Tnil, eqv_int, eqv_Li, eqv_Ti, eqv_LLi, eqv_Lnil, eqv_Tnil, bool2, List.isEmpty_map, List.getElem_map, Int.reduceLT, Int.reduceLE, leafys_ints, leafys_lis, two_str, eqv_sstr, mkTupF_xo, mkTupF_ox, mkTupF_oxx, mkTupF_xox, mkTupF_xxo, mkTupF_xt, mkTupF_tx, mkTupF_txx, mkTupF_xtx, mkTupF_xxt, mkLst_2, mkLst_3, mkLst_4, elems_tupT, elems_ownT, Bool.or_true, List.contains_cons, List.contains_nil, res1, resAll, resAll_nil, Option.map_some, Option.map_none, pr, pr1, pr2, int1, int2, intOf, oI, oB, Ev.data2, isNone, rdVar, mvVar, argO, argOs, lent, Ev.borrowed, endCall, Ev.finish, outOf, doCall, leafy, leafyOut, List.map_cons, List.map_nil, List.cons_append, List.nil_append, List.append_nil, List.length_cons, List.length_nil, List.getElem?_cons_zero, List.getElem?_cons_succ, Nat.reduceAdd, Nat.reduceSub, Nat.zero_add, List.replicate_succ, List.replicate_zero, List.any_cons, List.any_nil, Bool.or_false, Bool.false_or, Bool.and_true, Bool.true_and, Bool.false_and, Bool.and_false, Bool.not_true, Bool.not_false, noList, noLists, leafys, Bool.false_eq_true, if_true, if_false, ite_true, ite_false, reduceIte, List.set_cons_zero, List.set_cons_succ, O.d, liftS, setN, doTg, doTgs, decide_true, decide_false, Nat.reduceLT, Nat.reduceBEq, Nat.reduceEqDiff, beq_self_eq_true]
  repeat (first | with_reducible refine sat_seq ?_ | with_reducible refine sat_st ?_ | with_reducible refine sat_bind ?_ | with_reducible refine sat_asBool ?_)
  refine sat_compI (fun k os e => os = (((mems ts c).take k).map .int).map .v ∧ ∃ x y, e = [some (.v (Sy l ts t)), some (.v (Li c)), x, y]) ⟨rfl, _, _, rfl⟩ ?_ ?_ ?_
  · have := h.w; have := hc.1; simp only [enumD_len, List.length_map, Sz]; omega
  · rintro k hk os e ⟨rfl, x, y, rfl⟩
    have hk' : k < c.length := by simpa [enumD_len] using hk
    refine ⟨_, by rw [enumD_get _ _ _ _ (by simpa using hk'), List.getElem_map]; rfl, ?_⟩
    have hkt : k < ts.length := by rw [← hc.1]; exact hk'
    have hck := hc.2 c[k] (List.getElem_mem hk')
    obtain ⟨n, hn⟩ := Int.eq_ofNat_of_zero_le hck.1
    have hrow := (h.r ts[k] (List.getElem_mem hkt)).1
    have hn' : n < ts[k].length := by rw [hrow]; omega
    have hq : k < (mems ts c).length := by rw [hr]; exact hk'
    have hv : (mems ts c)[k] = ts[k][n] := by simp [mems, hn, hn']
    simp only [exs, ex1, den, denPs, denP, denEs, denC, denO, denI, bind_ok, st_okq, seq_next, seq_ret, lift_some, look0, lookS, asBool_ok, lift_none, and_ok, or_ok, Tgt.slots, wipeE, backE, keepV, Tgt.put, setMany, ds_map_vq, ds_nilq, filter_ff, rev_mapq, mkTup_v, mkTupF_1, mkTupF_2, mkTupF_3, mkLst_1, seqD_list, seqD_tuple, seqD_own, all_isV, rsat_ok, ssat_next, ssat_ret, Function.comp_apply, addV_int, rdIdx, elems_own, elems_list, elems_tup, Bool.true_or, List.length_map, List.isEmpty_nil, List.isEmpty_cons, isiD_tuple, isiD_list, mkTupF_nil, mkLst_nil, shaped_int, shaped_none, shaped_bool, shaped_Li, shaped_Ti, shaped_LLi, shaped_Lnil, shaped_Tnil, eqv_int, eqv_Li, eqv_Ti, eqv_LLi, eqv_Lnil, eqv_Tnil, bool2, List.isEmpty_map, List.getElem_map, Int.reduceLT, Int.reduceLE, leafys_ints, leafys_lis, two_str, eqv_sstr, mkTupF_xo, mkTupF_ox, mkTupF_oxx, mkTupF_xox, mkTupF_xxo, mkTupF_xt, mkTupF_tx, mkTupF_txx, mkTupF_xtx, mkTupF_xxt, mkLst_2, mkLst_3, mkLst_4, elems_tupT, elems_ownT, Bool.or_true, List.contains_cons, List.contains_nil, res1, resAll, resAll_nil, Option.map_some, Option.map_none, pr, pr1, pr2, int1, int2, intOf, oI, oB, Ev.data2, isNone, rdVar, mvVar, argO, argOs, lent, Ev.borrowed, endCall, Ev.finish, outOf, doCall, leafy, leafyOut, List.map_cons, List.map_nil, List.cons_append, List.nil_append, List.append_nil, List.length_cons, List.length_nil, List.getElem?_cons_zero, List.getElem?_cons_succ, Nat.reduceAdd, Nat.reduceSub, Nat.zero_add, List.replicate_succ, List.replicate_zero, List.any_cons, List.any_nil, Bool.or_false, Bool.false_or, Bool.and_true, Bool.true_and, Bool.false_and, Bool.and_false, Bool.not_true, Bool.not_false, noList, noLists, leafys, Bool.false_eq_true, if_true, if_false, ite_true, ite_false, reduceIte, List.set_cons_zero, List.set_cons_succ, O.d, liftS, setN, doTg, doTgs, decide_true, decide_false, Nat.reduceLT, Nat.reduceBEq, Nat.reduceEqDiff, beq_self_eq_true, atI_lit1, hn, atI_map, hkt, hn', List.map_map, List.take_succ_eq_append_getElem hq, hv, List.map_append, true_and]
    exact ⟨_, _, rfl⟩
  · rintro os e ⟨rfl, x, y, rfl⟩
    simp only [exs, ex1, den, denPs, denP, denEs, denC, denO, denI, bind_ok, st_okq, seq_next, seq_ret, lift_some, look0, lookS, asBool_ok, lift_none, and_ok, or_ok, Tgt.slots, wipeE, backE, keepV, Tgt.put, setMany, ds_map_vq, ds_nilq, filter_ff, rev_mapq, mkTup_v, mkTupF_1, mkTupF_2, mkTupF_3, mkLst_1, seqD_list, seqD_tuple, seqD_own, all_isV, rsat_ok, ssat_next, ssat_ret, Function.comp_apply, addV_int, rdIdx, elems_own, elems_list, elems_tup, Bool.true_or, List.length_map, List.isEmpty_nil, List.isEmpty_cons, isiD_tuple, isiD_list, mkTupF_nil, mkLst_nil, shaped_int, shaped_none, shaped_bool, shaped_Li, shaped_Ti, shaped_LLi, shaped_Lnil, shaped_Tnil, eqv_int, eqv_Li, eqv_Ti, eqv_LLi, eqv_Lnil, eqv_Tnil, bool2, List.isEmpty_map, List.getElem_map, Int.reduceLT, Int.reduceLE, leafys_ints, leafys_lis, two_str, eqv_sstr, mkTupF_xo, mkTupF_ox, mkTupF_oxx, mkTupF_xox, mkTupF_xxo, mkTupF_xt, mkTupF_tx, mkTupF_txx, mkTupF_xtx, mkTupF_xxt, mkLst_2, mkLst_3, mkLst_4, elems_tupT, elems_ownT, Bool.or_true, List.contains_cons, List.contains_nil, res1, resAll, resAll_nil, Option.map_some, Option.map_none, pr, pr1, pr2, int1, int2, intOf, oI, oB, Ev.data2, isNone, rdVar, mvVar, argO, argOs, lent, Ev.borrowed, endCall, Ev.finish, outOf, doCall, leafy, leafyOut, List.map_cons, List.map_nil, List.cons_append, List.nil_append, List.append_nil, List.length_cons, List.length_nil, List.getElem?_cons_zero, List.getElem?_cons_succ, Nat.reduceAdd, Nat.reduceSub, Nat.zero_add, List.replicate_succ, List.replicate_zero, List.any_cons, List.any_nil, Bool.or_false, Bool.false_or, Bool.and_true, Bool.true_and, Bool.false_and, Bool.and_false, Bool.not_true, Bool.not_false, noList, noLists, leafys, Bool.false_eq_true, if_true, if_false, ite_true, ite_false, reduceIte, List.set_cons_zero, List.set_cons_succ, O.d, liftS, setN, doTg, doTgs, decide_true, decide_false, Nat.reduceLT, Nat.reduceBEq, Nat.reduceEqDiff, beq_self_eq_true, enumD_len, ← hr, List.take_length, and_self]
theorem p_sum_of_code (l : List Int) (ts : List (List Int)) (t : Int) (h : Sys l ts t) (c : List Int) (hc : Code l ts c) : E_sum_of_code.sem [.v (Sy l ts t), .v (Li c)] = .ok (.v (.int (tot l (mems ts c)))) none := by
  show S_sum_of_code _ = _
  refine sat_fin ?_
  simp only [S_sum_of_code, I_sum_of_code, L_sum_of_code, runDef, exs, ex1, den, denPs, denP, denEs, denC, denO, denI, bind_ok, st_okq, seq_next, seq_ret, lift_some, look0, lookS, asBool_ok, lift_none, and_ok, or_ok, Tgt.slots, wipeE, backE, keepV, Tgt.put, setMany, ds_map_vq, ds_nilq, filter_ff, rev_mapq, mkTup_v, mkTupF_1, mkTupF_2, mkTupF_3, mkLst_1, seqD_list, seqD_tuple, seqD_own, all_isV, rsat_ok, ssat_next, ssat_ret, Function.comp_apply, addV_int, rdIdx, elems_own, elems_list, elems_tup, Bool.true_or, List.length_map, List.isEmpty_nil, List.isEmpty_cons, isiD_tuple, isiD_list, mkTupF_nil, mkLst_nil, shaped_int, shaped_none, shaped_bool, shaped_Li, shaped_Ti, shaped_LLi, shaped_Lnil, shaped_Tnil, eqv_int, eqv_Li, eqv_Ti, eqv_LLi, eqv_Lnil, eqv_Tnil, bool2, List.isEmpty_map, List.getElem_map, Int.reduceLT, Int.reduceLE, leafys_ints, leafys_lis, two_str, eqv_sstr, mkTupF_xo, mkTupF_ox, mkTupF_oxx, mkTupF_xox, mkTupF_xxo, mkTupF_xt, mkTupF_tx, mkTupF_txx, mkTupF_xtx, mkTupF_xxt, mkLst_2, mkLst_3, mkLst_4, elems_tupT, elems_ownT, Bool.or_true, List.contains_cons, List.contains_nil, res1, resAll, resAll_nil, Option.map_some, Option.map_none, pr, pr1, pr2, int1, int2, intOf, oI, oB, Ev.data2, isNone, rdVar, mvVar, argO, argOs, lent, Ev.borrowed, endCall, Ev.finish, outOf, doCall, leafy, leafyOut, List.map_cons, List.map_nil, List.cons_append, List.nil_append, List.append_nil, List.length_cons, List.length_nil, List.getElem?_cons_zero, List.getElem?_cons_succ, Nat.reduceAdd, Nat.reduceSub, Nat.zero_add, List.replicate_succ, List.replicate_zero, List.any_cons, List.any_nil, Bool.or_false, Bool.false_or, Bool.and_true, Bool.true_and, Bool.false_and, Bool.and_false, Bool.not_true, Bool.not_false, noList, noLists, leafys, Bool.false_eq_true, if_true, if_false, ite_true, ite_false, reduceIte, List.set_cons_zero, List.set_cons_succ, O.d, liftS, setN, doTg, doTgs, decide_true, decide_false, Nat.reduceLT, Nat.reduceBEq, Nat.reduceEqDiff, beq_self_eq_true, E_total_in_ps, E_total_in_io, E_members_of_ps, E_members_of_io, p_members_of l ts t h c hc, atI_lit0, p_total_in l h.o, and_self]
def off (l : List Int) (ts : List (List Int)) (t : Int) (c : List Int) : Int := less l (tot l (mems ts c)) t
theorem p_off_in (l : List Int) (ts : List (List Int)) (t : Int) (h : Sys l ts t) (c : List Int) (hc : Code l ts c) : E_off_in.sem [.v (Sy l ts t), .v (Li c)] = .ok (.v (.int (off l ts t c))) none := by
  show S_off_in _ = _
  refine sat_fin ?_
  simp only [S_off_in, I_off_in, L_off_in, runDef, exs, ex1, den, denPs, denP, denEs, denC, denO, denI, bind_ok, st_okq, seq_next, seq_ret, lift_some, look0, lookS, asBool_ok, lift_none, and_ok, or_ok, Tgt.slots, wipeE, backE, keepV, Tgt.put, setMany, ds_map_vq, ds_nilq, filter_ff, rev_mapq, mkTup_v, mkTupF_1, mkTupF_2, mkTupF_3, mkLst_1, seqD_list, seqD_tuple, seqD_own, all_isV, rsat_ok, ssat_next, ssat_ret, Function.comp_apply, addV_int, rdIdx, elems_own, elems_list, elems_tup, Bool.true_or, List.length_map, List.isEmpty_nil, List.isEmpty_cons, isiD_tuple, isiD_list, mkTupF_nil, mkLst_nil, shaped_int, shaped_none, shaped_bool, shaped_Li, shaped_Ti, shaped_LLi, shaped_Lnil, shaped_Tnil, eqv_int, eqv_Li, eqv_Ti, eqv_LLi, eqv_Lnil, eqv_Tnil, bool2, List.isEmpty_map, List.getElem_map, Int.reduceLT, Int.reduceLE, leafys_ints, leafys_lis, two_str, eqv_sstr, mkTupF_xo, mkTupF_ox, mkTupF_oxx, mkTupF_xox, mkTupF_xxo, mkTupF_xt, mkTupF_tx, mkTupF_txx, mkTupF_xtx, mkTupF_xxt, mkLst_2, mkLst_3, mkLst_4, elems_tupT, elems_ownT, Bool.or_true, List.contains_cons, List.contains_nil, res1, resAll, resAll_nil, Option.map_some, Option.map_none, pr, pr1, pr2, int1, int2, intOf, oI, oB, Ev.data2, isNone, rdVar, mvVar, argO, argOs, lent, Ev.borrowed, endCall, Ev.finish, outOf, doCall, leafy, leafyOut, List.map_cons, List.map_nil, List.cons_append, List.nil_append, List.append_nil, List.length_cons, List.length_nil, List.getElem?_cons_zero, List.getElem?_cons_succ, Nat.reduceAdd, Nat.reduceSub, Nat.zero_add, List.replicate_succ, List.replicate_zero, List.any_cons, List.any_nil, Bool.or_false, Bool.false_or, Bool.and_true, Bool.true_and, Bool.false_and, Bool.and_false, Bool.not_true, Bool.not_false, noList, noLists, leafys, Bool.false_eq_true, if_true, if_false, ite_true, ite_false, reduceIte, List.set_cons_zero, List.set_cons_succ, O.d, liftS, setN, doTg, doTgs, decide_true, decide_false, Nat.reduceLT, Nat.reduceBEq, Nat.reduceEqDiff, beq_self_eq_true, E_less_in_ps, E_less_in_io, E_sum_of_code_ps, E_sum_of_code_io, p_sum_of_code l ts t h c hc, atI_lit0, atI_lit2, p_less_in l h.o, off, and_self]
theorem zipD_li (ts : List (List Int)) (c : List Int) : zipD (ts.map fun r => PyData.list (r.map .int)) (c.map .int) = (ts.zip c).map fun p => .tuple [Li p.1, .int p.2] := by
  rw [zipD_eq, List.zip_map, List.map_map]; rfl
theorem p__law_off (l : List Int) (ts : List (List Int)) (t : Int) (h : Sys l ts t) (c : List Int) (hc : Code l ts c) : E__law_off.sem [.v (Sy l ts t), .v (Li c)] = .ok (.v (.int (off l ts t c))) none := by
  show S__law_off _ = _
  refine sat_fin ?_
  simp only [S__law_off, I__law_off, L__law_off, runDef, exs, ex1, den, denPs, denP, denEs, denC, denO, denI, bind_ok, st_okq, seq_next, seq_ret, lift_some, look0, lookS, asBool_ok, lift_none, and_ok, or_ok, Tgt.slots, wipeE, backE, keepV, Tgt.put, setMany, ds_map_vq, ds_nilq, filter_ff, rev_mapq, mkTup_v, mkTupF_1, mkTupF_2, mkTupF_3, mkLst_1, seqD_list, seqD_tuple, seqD_own, all_isV, rsat_ok, ssat_next, ssat_ret, Function.comp_apply, addV_int, rdIdx, elems_own, elems_list, elems_tup, Bool.true_or, List.length_map, List.isEmpty_nil, List.isEmpty_cons, isiD_tuple, isiD_list, mkTupF_nil, mkLst_nil, shaped_int, shaped_none, shaped_bool, shaped_Li, shaped_Ti, shaped_LLi, shaped_Lnil, shaped_Tnil, eqv_int, eqv_Li, eqv_Ti, eqv_LLi, eqv_Lnil, eqv_Tnil, bool2, List.isEmpty_map, List.getElem_map, Int.reduceLT, Int.reduceLE, leafys_ints, leafys_lis, two_str, eqv_sstr, mkTupF_xo, mkTupF_ox, mkTupF_oxx, mkTupF_xox, mkTupF_xxo, mkTupF_xt, mkTupF_tx, mkTupF_txx, mkTupF_xtx, mkTupF_xxt, mkLst_2, mkLst_3, mkLst_4, elems_tupT, elems_ownT, Bool.or_true, List.contains_cons, List.contains_nil, res1, resAll, resAll_nil, Option.map_some, Option.map_none, pr, pr1, pr2, int1, int2, intOf, oI, oB, Ev.data2, isNone, rdVar, mvVar, argO, argOs, lent, Ev.borrowed, endCall, Ev.finish, outOf, doCall, leafy, leafyOut, List.map_cons, List.map_nil, List.cons_append, List.nil_append, List.append_nil, List.length_cons, List.length_nil, List.getElem?_cons_zero, List.getElem?_cons_succ, Nat.reduceAdd, Nat.reduceSub, Nat.zero_add, List.replicate_succ, List.replicate_zero, List.any_cons, List.any_nil, Bool.or_false, Bool.false_or, Bool.and_true, Bool.true_and, Bool.false_and, Bool.and_false, Bool.not_true, Bool.not_false, noList, noLists, leafys, Bool.false_eq_true, if_true, if_false, ite_true, ite_false, reduceIte, List.set_cons_zero, List.set_cons_succ, O.d, liftS, setN, doTg, doTgs, decide_true, decide_false, Nat.reduceLT, Nat.reduceBEq, Nat.reduceEqDiff, beq_self_eq_true, atI_lit0, atI_lit1, atI_lit2, zipD_li]
  repeat (first | with_reducible refine sat_seq ?_ | with_reducible refine sat_st ?_ | with_reducible refine sat_bind ?_ | with_reducible refine sat_asBool ?_)
  refine sat_for (fun k e => ∃ x y, e = [some (.v (Sy l ts t)), some (.v (Li c)), some (.v (.int (((mems ts c).take k).foldl (plus l) 0))), x, y]) ⟨_, _, rfl⟩ ?_ ?_
  · rintro k hk e ⟨x, y, rfl⟩
    have hk' : k < (ts.zip c).length := by simpa using hk
    have hkt : k < ts.length := by simp at hk'; omega
    have hkc : k < c.length := by simp at hk'; omega
    have hck := hc.2 c[k] (List.getElem_mem hkc)
    obtain ⟨n, hn⟩ := Int.eq_ofNat_of_zero_le hck.1
    have hrow := (h.r ts[k] (List.getElem_mem hkt)).1
    have hn' : n < ts[k].length := by rw [hrow]; omega
    have hq : k < (mems ts c).length := by simpa [mems] using hk'
    have hv : (mems ts c)[k] = ts[k][n] := by simp [mems, hn, hn']
    refine ⟨_, by simp only [List.getElem_map, List.getElem_zip]; rfl, ?_⟩
    simp only [exs, ex1, den, denPs, denP, denEs, denC, denO, denI, bind_ok, st_okq, seq_next, seq_ret, lift_some, look0, lookS, asBool_ok, lift_none, and_ok, or_ok, Tgt.slots, wipeE, backE, keepV, Tgt.put, setMany, ds_map_vq, ds_nilq, filter_ff, rev_mapq, mkTup_v, mkTupF_1, mkTupF_2, mkTupF_3, mkLst_1, seqD_list, seqD_tuple, seqD_own, all_isV, rsat_ok, ssat_next, ssat_ret, Function.comp_apply, addV_int, rdIdx, elems_own, elems_list, elems_tup, Bool.true_or, List.length_map, List.isEmpty_nil, List.isEmpty_cons, isiD_tuple, isiD_list, mkTupF_nil, mkLst_nil, shaped_int, shaped_none, shaped_bool, shaped_Li, shaped_Ti, shaped_LLi, shaped_Lnil, shaped_Tnil, eqv_int, eqv_Li, eqv_Ti, eqv_LLi, eqv_Lnil, eqv_Tnil, bool2, List.isEmpty_map, List.getElem_map, Int.reduceLT, Int.reduceLE, leafys_ints, leafys_lis, two_str, eqv_sstr, mkTupF_xo, mkTupF_ox, mkTupF_oxx, mkTupF_xox, mkTupF_xxo, mkTupF_xt, mkTupF_tx, mkTupF_txx, mkTupF_xtx, mkTupF_xxt, mkLst_2, mkLst_3, mkLst_4, elems_tupT, elems_ownT, Bool.or_true, List.contains_cons, List.contains_nil, res1, resAll, resAll_nil, Option.map_some, Option.map_none, pr, pr1, pr2, int1, int2, intOf, oI, oB, Ev.data2, isNone, rdVar, mvVar, argO, argOs, lent, Ev.borrowed, endCall, Ev.finish, outOf, doCall, leafy, leafyOut, List.map_cons, List.map_nil, List.cons_append, List.nil_append, List.append_nil, List.length_cons, List.length_nil, List.getElem?_cons_zero, List.getElem?_cons_succ, Nat.reduceAdd, Nat.reduceSub, Nat.zero_add, List.replicate_succ, List.replicate_zero, List.any_cons, List.any_nil, Bool.or_false, Bool.false_or, Bool.and_true, Bool.true_and, Bool.false_and, Bool.and_false, Bool.not_true, Bool.not_false, noList, noLists, leafys, Bool.false_eq_true, if_true, if_false, ite_true, ite_false, reduceIte, List.set_cons_zero, List.set_cons_succ, O.d, liftS, setN, doTg, doTgs, decide_true, decide_false, Nat.reduceLT, Nat.reduceBEq, Nat.reduceEqDiff, beq_self_eq_true, E__law_plus_ps, E__law_plus_io, atI_lit0, hn, atI_map, hn', List.map_map, p__law_plus l h.o, foldl_take _ _ _ _ hq, hv]
    exact ⟨_, _, rfl⟩
  · rintro e ⟨x, y, rfl⟩
    have hl : ((ts.zip c).length) = (mems ts c).length := by simp [mems]
    simp only [exs, ex1, den, denPs, denP, denEs, denC, denO, denI, bind_ok, st_okq, seq_next, seq_ret, lift_some, look0, lookS, asBool_ok, lift_none, and_ok, or_ok, Tgt.slots, wipeE, backE, keepV, Tgt.put, setMany, ds_map_vq, ds_nilq, filter_ff, rev_mapq, mkTup_v, mkTupF_1, mkTupF_2, mkTupF_3, mkLst_1, seqD_list, seqD_tuple, seqD_own, all_isV, rsat_ok, ssat_next, ssat_ret, Function.comp_apply, addV_int, rdIdx, elems_own, elems_list, elems_tup, Bool.true_or, List.length_map, List.isEmpty_nil, List.isEmpty_cons, isiD_tuple, isiD_list, mkTupF_nil, mkLst_nil, shaped_int, shaped_none, shaped_bool, shaped_Li, shaped_Ti, shaped_LLi, shaped_Lnil, shaped_Tnil, eqv_int, eqv_Li, eqv_Ti, eqv_LLi, eqv_Lnil, eqv_Tnil, bool2, List.isEmpty_map, List.getElem_map, Int.reduceLT, Int.reduceLE, leafys_ints, leafys_lis, two_str, eqv_sstr, mkTupF_xo, mkTupF_ox, mkTupF_oxx, mkTupF_xox, mkTupF_xxo, mkTupF_xt, mkTupF_tx, mkTupF_txx, mkTupF_xtx, mkTupF_xxt, mkLst_2, mkLst_3, mkLst_4, elems_tupT, elems_ownT, Bool.or_true, List.contains_cons, List.contains_nil, res1, resAll, resAll_nil, Option.map_some, Option.map_none, pr, pr1, pr2, int1, int2, intOf, oI, oB, Ev.data2, isNone, rdVar, mvVar, argO, argOs, lent, Ev.borrowed, endCall, Ev.finish, outOf, doCall, leafy, leafyOut, List.map_cons, List.map_nil, List.cons_append, List.nil_append, List.append_nil, List.length_cons, List.length_nil, List.getElem?_cons_zero, List.getElem?_cons_succ, Nat.reduceAdd, Nat.reduceSub, Nat.zero_add, List.replicate_succ, List.replicate_zero, List.any_cons, List.any_nil, Bool.or_false, Bool.false_or, Bool.and_true, Bool.true_and, Bool.false_and, Bool.and_false, Bool.not_true, Bool.not_false, noList, noLists, leafys, Bool.false_eq_true, if_true, if_false, ite_true, ite_false, reduceIte, List.set_cons_zero, List.set_cons_succ, O.d, liftS, setN, doTg, doTgs, decide_true, decide_false, Nat.reduceLT, Nat.reduceBEq, Nat.reduceEqDiff, beq_self_eq_true, E__law_less_ps, E__law_less_io, atI_lit0, atI_lit2, hl, List.take_length, p__law_less l h.o, off, tot, and_self]
end Lw
set_option Elab.async false
set_option linter.all false
set_option maxRecDepth 100000
namespace Lw
open PySem PySem.Spec PyProof.Rows L2 Ev
theorem p_row_fits (n : Int) (r : List Int) (hl : r.length = n.toNat) (h0 : 0 ≤ n) (hs : r.length < 1000000) (hr : ∀ x ∈ r, 0 ≤ x ∧ x < n) : E_row_fits.sem [.v (.int n), .v (Li r)] = .ok (.v (.bool true)) none := by
  show S_row_fits _ = _
  refine sat_fin ?_
  have hn : ((r.length : Nat) : Int) = n := by omega
  simp only [S_row_fits, I_row_fits, L_row_fits, runDef, exs, ex1, den, denPs, denP, denEs, denC, denO, denI, bind_ok, st_okq, seq_next, seq_ret, lift_some, look0, lookS, asBool_ok, lift_none, and_ok, or_ok, Tgt.slots, wipeE, backE, keepV, Tgt.put, setMany, ds_map_vq, ds_nilq, filter_ff, rev_mapq, mkTup_v, mkTupF_1, mkTupF_2, mkTupF_3, mkLst_1, seqD_list, seqD_tuple, seqD_own, all_isV, rsat_ok, ssat_next, ssat_ret, Function.comp_apply, addV_int, rdIdx, elems_own, elems_list, elems_tup, Bool.true_or, List.length_map, List.isEmpty_nil, List.isEmpty_cons, isiD_tuple, isiD_list, mkTupF_nil, mkLst_nil, shaped_int, shaped_none, shaped_bool, shaped_Li, shaped_Ti, shaped_LLi, shaped_Lnil, shaped_Tnil, eqv_int, eqv_Li, eqv_Ti, eqv_LLi, eqv_Lnil, eqv_Tnil, bool2, List.isEmpty_map, List.getElem_map, Int.reduceLT, Int.reduceLE, leafys_ints, leafys_lis, two_str, eqv_sstr, mkTupF_xo, mkTupF_ox, mkTupF_oxx, mkTupF_xox, mkTupF_xxo, mkTupF_xt, mkTupF_tx, mkTupF_txx, mkTupF_xtx, mkTupF_xxt, mkLst_2, mkLst_3, mkLst_4, elems_tupT, elems_ownT, Bool.or_true, List.contains_cons, List.contains_nil, res1, resAll, resAll_nil, Option.map_some, Option.map_none, pr, pr1, pr2, int1, int2, intOf, oI, oB, Ev.data2, isNone, rdVar, mvVar, argO, argOs, lent, Ev.borrowed, endCall, Ev.finish, outOf, doCall, leafy, leafyOut, List.map_cons, List.map_nil, List.cons_append, List.nil_append, List.append_nil, List.length_cons, List.length_nil, List.getElem?_cons_zero, List.getElem?_cons_succ, Nat.reduceAdd, Nat.reduceSub, Nat.zero_add, List.replicate_succ, List.replicate_zero, List.any_cons, List.any_nil, Bool.or_false, Bool.false_or, Bool.and_true, Bool.true_and, Bool.false_and, Bool.and_false, Bool.not_true, Bool.not_false, noList, noLists, leafys, Bool.false_eq_true, if_true, if_false, ite_true, ite_false, reduceIte, List.set_cons_zero, List.set_cons_succ, O.d, liftS, setN, doTg, doTgs, decide_true, decide_false, Nat.reduceLT, Nat.reduceBEq, Nat.reduceEqDiff, beq_self_eq_true, lenV, hn, decide_true]
  repeat (first | with_reducible refine sat_seq ?_ | with_reducible refine sat_st ?_ | with_reducible refine sat_bind ?_ | with_reducible refine sat_asBool ?_)
  refine sat_comp (fun e => ∃ x, e = [some (.v (.int n)), some (.v (Li r)), x]) (fun _ => false) O.v ⟨_, rfl⟩ (by simp only [List.length_map, List.length_nil, Sz]; omega) ?_ ?_
  · rintro d hd e ⟨x, rfl⟩
    obtain ⟨z, hz, rfl⟩ := List.mem_map.1 hd
    refine ⟨_, rfl, ?_⟩
    have hz1 := (hr z hz).1
    have hz2 : z ≤ n - 1 := by have := (hr z hz).2; omega
    simp only [exs, ex1, den, denPs, denP, denEs, denC, denO, denI, bind_ok, st_okq, seq_next, seq_ret, lift_some, look0, lookS, asBool_ok, lift_none, and_ok, or_ok, Tgt.slots, wipeE, backE, keepV, Tgt.put, setMany, ds_map_vq, ds_nilq, filter_ff, rev_mapq, mkTup_v, mkTupF_1, mkTupF_2, mkTupF_3, mkLst_1, seqD_list, seqD_tuple, seqD_own, all_isV, rsat_ok, ssat_next, ssat_ret, Function.comp_apply, addV_int, rdIdx, elems_own, elems_list, elems_tup, Bool.true_or, List.length_map, List.isEmpty_nil, List.isEmpty_cons, isiD_tuple, isiD_list, mkTupF_nil, mkLst_nil, shaped_int, shaped_none, shaped_bool, shaped_Li, shaped_Ti, shaped_LLi, shaped_Lnil, shaped_Tnil, eqv_int, eqv_Li, eqv_Ti, eqv_LLi, eqv_Lnil, eqv_Tnil, bool2, List.isEmpty_map, List.getElem_map, Int.reduceLT, Int.reduceLE, leafys_ints, leafys_lis, two_str, eqv_sstr, mkTupF_xo, mkTupF_ox, mkTupF_oxx, mkTupF_xox, mkTupF_xxo, mkTupF_xt, mkTupF_tx, mkTupF_txx, mkTupF_xtx, mkTupF_xxt, mkLst_2, mkLst_3, mkLst_4, elems_tupT, elems_ownT, Bool.or_true, List.contains_cons, List.contains_nil, res1, resAll, resAll_nil, Option.map_some, Option.map_none, pr, pr1, pr2, int1, int2, intOf, oI, oB, Ev.data2, isNone, rdVar, mvVar, argO, argOs, lent, Ev.borrowed, endCall, Ev.finish, outOf, doCall, leafy, leafyOut, List.map_cons, List.map_nil, List.cons_append, List.nil_append, List.append_nil, List.length_cons, List.length_nil, List.getElem?_cons_zero, List.getElem?_cons_succ, Nat.reduceAdd, Nat.reduceSub, Nat.zero_add, List.replicate_succ, List.replicate_zero, List.any_cons, List.any_nil, Bool.or_false, Bool.false_or, Bool.and_true, Bool.true_and, Bool.false_and, Bool.and_false, Bool.not_true, Bool.not_false, noList, noLists, leafys, Bool.false_eq_true, if_true, if_false, ite_true, ite_false, reduceIte, List.set_cons_zero, List.set_cons_succ, O.d, liftS, setN, doTg, doTgs, decide_true, decide_false, Nat.reduceLT, Nat.reduceBEq, Nat.reduceEqDiff, beq_self_eq_true, E_is_between_ps, E_is_between_io, p_is_between, hz1, hz2]
    exact ⟨True.intro, _, rfl⟩
  · rintro e ⟨x, rfl⟩
    simp only [exs, ex1, den, denPs, denP, denEs, denC, denO, denI, bind_ok, st_okq, seq_next, seq_ret, lift_some, look0, lookS, asBool_ok, lift_none, and_ok, or_ok, Tgt.slots, wipeE, backE, keepV, Tgt.put, setMany, ds_map_vq, ds_nilq, filter_ff, rev_mapq, mkTup_v, mkTupF_1, mkTupF_2, mkTupF_3, mkLst_1, seqD_list, seqD_tuple, seqD_own, all_isV, rsat_ok, ssat_next, ssat_ret, Function.comp_apply, addV_int, rdIdx, elems_own, elems_list, elems_tup, Bool.true_or, List.length_map, List.isEmpty_nil, List.isEmpty_cons, isiD_tuple, isiD_list, mkTupF_nil, mkLst_nil, shaped_int, shaped_none, shaped_bool, shaped_Li, shaped_Ti, shaped_LLi, shaped_Lnil, shaped_Tnil, eqv_int, eqv_Li, eqv_Ti, eqv_LLi, eqv_Lnil, eqv_Tnil, bool2, List.isEmpty_map, List.getElem_map, Int.reduceLT, Int.reduceLE, leafys_ints, leafys_lis, two_str, eqv_sstr, mkTupF_xo, mkTupF_ox, mkTupF_oxx, mkTupF_xox, mkTupF_xxo, mkTupF_xt, mkTupF_tx, mkTupF_txx, mkTupF_xtx, mkTupF_xxt, mkLst_2, mkLst_3, mkLst_4, elems_tupT, elems_ownT, Bool.or_true, List.contains_cons, List.contains_nil, res1, resAll, resAll_nil, Option.map_some, Option.map_none, pr, pr1, pr2, int1, int2, intOf, oI, oB, Ev.data2, isNone, rdVar, mvVar, argO, argOs, lent, Ev.borrowed, endCall, Ev.finish, outOf, doCall, leafy, leafyOut, List.map_cons, List.map_nil, List.cons_append, List.nil_append, List.append_nil, List.length_cons, List.length_nil, List.getElem?_cons_zero, List.getElem?_cons_succ, Nat.reduceAdd, Nat.reduceSub, Nat.zero_add, List.replicate_succ, List.replicate_zero, List.any_cons, List.any_nil, Bool.or_false, Bool.false_or, Bool.and_true, Bool.true_and, Bool.false_and, Bool.and_false, Bool.not_true, Bool.not_false, noList, noLists, leafys, Bool.false_eq_true, if_true, if_false, ite_true, ite_false, reduceIte, List.set_cons_zero, List.set_cons_succ, O.d, liftS, setN, doTg, doTgs, decide_true, decide_false, Nat.reduceLT, Nat.reduceBEq, Nat.reduceEqDiff, beq_self_eq_true, and_self]
theorem p_code_fits (l : List Int) (ts : List (List Int)) (t : Int) (h : Sys l ts t) (c : List Int) (hc : Code l ts c) : E_code_fits.sem [.v (Sy l ts t), .v (Li c)] = .ok (.v (.bool true)) none := by
  show S_code_fits _ = _
  refine sat_fin ?_
  have hn : ((c.length : Nat) : Int) = ts.length := by rw [hc.1]
  simp only [S_code_fits, I_code_fits, L_code_fits, runDef, exs, ex1, den, denPs, denP, denEs, denC, denO, denI, bind_ok, st_okq, seq_next, seq_ret, lift_some, look0, lookS, asBool_ok, lift_none, and_ok, or_ok, Tgt.slots, wipeE, backE, keepV, Tgt.put, setMany, ds_map_vq, ds_nilq, filter_ff, rev_mapq, mkTup_v, mkTupF_1, mkTupF_2, mkTupF_3, mkLst_1, seqD_list, seqD_tuple, seqD_own, all_isV, rsat_ok, ssat_next, ssat_ret, Function.comp_apply, addV_int, rdIdx, elems_own, elems_list, elems_tup, Bool.true_or, List.length_map, List.isEmpty_nil, List.isEmpty_cons, isiD_tuple, isiD_list, mkTupF_nil, mkLst_nil, shaped_int, shaped_none, shaped_bool, shaped_Li, shaped_Ti, shaped_LLi, shaped_Lnil, shaped_Tnil, eqv_int, eqv_Li, eqv_Ti, eqv_LLi, eqv_Lnil, eqv_Tnil, bool2, List.isEmpty_map, List.getElem_map, Int.reduceLT, Int.reduceLE, leafys_ints, leafys_lis, two_str, eqv_sstr, mkTupF_xo, mkTupF_ox, mkTupF_oxx, mkTupF_xox, mkTupF_xxo, mkTupF_xt, mkTupF_tx, mkTupF_txx, mkTupF_xtx, mkTupF_xxt, mkLst_2, mkLst_3, mkLst_4, elems_tupT, elems_ownT, Bool.or_true, List.contains_cons, List.contains_nil, res1, resAll, resAll_nil, Option.map_some, Option.map_none, pr, pr1, pr2, int1, int2, intOf, oI, oB, Ev.data2, isNone, rdVar, mvVar, argO, argOs, lent, Ev.borrowed, endCall, Ev.finish, outOf, doCall, leafy, leafyOut, List.map_cons, List.map_nil, List.cons_append, List.nil_append, List.append_nil, List.length_cons, List.length_nil, List.getElem?_cons_zero, List.getElem?_cons_succ, Nat.reduceAdd, Nat.reduceSub, Nat.zero_add, List.replicate_succ, List.replicate_zero, List.any_cons, List.any_nil, Bool.or_false, Bool.false_or, Bool.and_true, Bool.true_and, Bool.false_and, Bool.and_false, Bool.not_true, Bool.not_false, noList, noLists, leafys, Bool.false_eq_true, if_true, if_false, ite_true, ite_false, reduceIte, List.set_cons_zero, List.set_cons_succ, O.d, liftS, setN, doTg, doTgs, decide_true, decide_false, Nat.reduceLT, Nat.reduceBEq, Nat.reduceEqDiff, beq_self_eq_true, lenV, hn, atI_lit1, decide_true]
  repeat (first | with_reducible refine sat_seq ?_ | with_reducible refine sat_st ?_ | with_reducible refine sat_bind ?_ | with_reducible refine sat_asBool ?_)
  refine sat_comp (fun e => ∃ x, e = [some (.v (Sy l ts t)), some (.v (Li c)), x]) (fun _ => false) O.v ⟨_, rfl⟩ (by have := hc.1; have := h.w; simp only [List.length_map, List.length_nil, Sz]; omega) ?_ ?_
  · rintro d hd e ⟨x, rfl⟩
    obtain ⟨z, hz, rfl⟩ := List.mem_map.1 hd
    refine ⟨_, rfl, ?_⟩
    have hz1 := (hc.2 z hz).1
    have hz2 : z ≤ l.prod - 1 := by have := (hc.2 z hz).2; omega
    simp only [exs, ex1, den, denPs, denP, denEs, denC, denO, denI, bind_ok, st_okq, seq_next, seq_ret, lift_some, look0, lookS, asBool_ok, lift_none, and_ok, or_ok, Tgt.slots, wipeE, backE, keepV, Tgt.put, setMany, ds_map_vq, ds_nilq, filter_ff, rev_mapq, mkTup_v, mkTupF_1, mkTupF_2, mkTupF_3, mkLst_1, seqD_list, seqD_tuple, seqD_own, all_isV, rsat_ok, ssat_next, ssat_ret, Function.comp_apply, addV_int, rdIdx, elems_own, elems_list, elems_tup, Bool.true_or, List.length_map, List.isEmpty_nil, List.isEmpty_cons, isiD_tuple, isiD_list, mkTupF_nil, mkLst_nil, shaped_int, shaped_none, shaped_bool, shaped_Li, shaped_Ti, shaped_LLi, shaped_Lnil, shaped_Tnil, eqv_int, eqv_Li, eqv_Ti, eqv_LLi, eqv_Lnil, eqv_Tnil, bool2, List.isEmpty_map, List.getElem_map, Int.reduceLT, Int.reduceLE, leafys_ints, leafys_lis, two_str, eqv_sstr, mkTupF_xo, mkTupF_ox, mkTupF_oxx, mkTupF_xox, mkTupF_xxo, mkTupF_xt, mkTupF_tx, mkTupF_txx, mkTupF_xtx, mkTupF_xxt, mkLst_2, mkLst_3, mkLst_4, elems_tupT, elems_ownT, Bool.or_true, List.contains_cons, List.contains_nil, res1, resAll, resAll_nil, Option.map_some, Option.map_none, pr, pr1, pr2, int1, int2, intOf, oI, oB, Ev.data2, isNone, rdVar, mvVar, argO, argOs, lent, Ev.borrowed, endCall, Ev.finish, outOf, doCall, leafy, leafyOut, List.map_cons, List.map_nil, List.cons_append, List.nil_append, List.append_nil, List.length_cons, List.length_nil, List.getElem?_cons_zero, List.getElem?_cons_succ, Nat.reduceAdd, Nat.reduceSub, Nat.zero_add, List.replicate_succ, List.replicate_zero, List.any_cons, List.any_nil, Bool.or_false, Bool.false_or, Bool.and_true, Bool.true_and, Bool.false_and, Bool.and_false, Bool.not_true, Bool.not_false, noList, noLists, leafys, Bool.false_eq_true, if_true, if_false, ite_true, ite_false, reduceIte, List.set_cons_zero, List.set_cons_succ, O.d, liftS, setN, doTg, doTgs, decide_true, decide_false, Nat.reduceLT, Nat.reduceBEq, Nat.reduceEqDiff, beq_self_eq_true, E_member_fits_ps, E_member_fits_io, atI_lit0, p_member_fits l h.o.sm, hz1, hz2]
    exact ⟨True.intro, _, rfl⟩
  · rintro e ⟨x, rfl⟩
    simp only [exs, ex1, den, denPs, denP, denEs, denC, denO, denI, bind_ok, st_okq, seq_next, seq_ret, lift_some, look0, lookS, asBool_ok, lift_none, and_ok, or_ok, Tgt.slots, wipeE, backE, keepV, Tgt.put, setMany, ds_map_vq, ds_nilq, filter_ff, rev_mapq, mkTup_v, mkTupF_1, mkTupF_2, mkTupF_3, mkLst_1, seqD_list, seqD_tuple, seqD_own, all_isV, rsat_ok, ssat_next, ssat_ret, Function.comp_apply, addV_int, rdIdx, elems_own, elems_list, elems_tup, Bool.true_or, List.length_map, List.isEmpty_nil, List.isEmpty_cons, isiD_tuple, isiD_list, mkTupF_nil, mkLst_nil, shaped_int, shaped_none, shaped_bool, shaped_Li, shaped_Ti, shaped_LLi, shaped_Lnil, shaped_Tnil, eqv_int, eqv_Li, eqv_Ti, eqv_LLi, eqv_Lnil, eqv_Tnil, bool2, List.isEmpty_map, List.getElem_map, Int.reduceLT, Int.reduceLE, leafys_ints, leafys_lis, two_str, eqv_sstr, mkTupF_xo, mkTupF_ox, mkTupF_oxx, mkTupF_xox, mkTupF_xxo, mkTupF_xt, mkTupF_tx, mkTupF_txx, mkTupF_xtx, mkTupF_xxt, mkLst_2, mkLst_3, mkLst_4, elems_tupT, elems_ownT, Bool.or_true, List.contains_cons, List.contains_nil, res1, resAll, resAll_nil, Option.map_some, Option.map_none, pr, pr1, pr2, int1, int2, intOf, oI, oB, Ev.data2, isNone, rdVar, mvVar, argO, argOs, lent, Ev.borrowed, endCall, Ev.finish, outOf, doCall, leafy, leafyOut, List.map_cons, List.map_nil, List.cons_append, List.nil_append, List.append_nil, List.length_cons, List.length_nil, List.getElem?_cons_zero, List.getElem?_cons_succ, Nat.reduceAdd, Nat.reduceSub, Nat.zero_add, List.replicate_succ, List.replicate_zero, List.any_cons, List.any_nil, Bool.or_false, Bool.false_or, Bool.and_true, Bool.true_and, Bool.false_and, Bool.and_false, Bool.not_true, Bool.not_false, noList, noLists, leafys, Bool.false_eq_true, if_true, if_false, ite_true, ite_false, reduceIte, List.set_cons_zero, List.set_cons_succ, O.d, liftS, setN, doTg, doTgs, decide_true, decide_false, Nat.reduceLT, Nat.reduceBEq, Nat.reduceEqDiff, beq_self_eq_true, and_self]
theorem perm_sorted {a b : List Int} (h : a.Perm b) (ha : a.Pairwise (· ≤ ·)) (hb : b.Pairwise (· ≤ ·)) : a = b :=
  h.eq_of_pairwise (fun x y _ _ h1 h2 => by omega) ha hb
theorem rng_sorted (n : Nat) : (rng n).Pairwise (· ≤ ·) := by
  refine List.pairwise_map.2 (List.pairwise_lt_range.imp ?_)
  intro a b h; simp only [Int.ofNat_eq_natCast]; omega
theorem ofc_ints (r : List Int) : (r.map PyData.int).map O.v = r.map fun i => O.v (.int i) := by rw [List.map_map]; rfl
theorem shaped_all {ds : List D} (h : ∀ d ∈ ds, SeqAt.shaped d = true) : ds.all SeqAt.shaped = true := List.all_eq_true.2 h
theorem sortable_ints (r : List Int) : sortable (r.map .int) = true := by
  simp only [sortable, Bool.and_eq_true, Bool.or_eq_true, List.all_eq_true, List.mem_map]
  refine ⟨⟨?_, .inr ?_⟩, ?_⟩
  · rintro d ⟨i, _, rfl⟩ e ⟨j, _, rfl⟩; rfl
  · rintro d ⟨i, _, rfl⟩; rfl
  · rintro d ⟨i, _, rfl⟩; rfl
def sortI (r : List Int) : List Int := r.mergeSort fun a b => decide (a ≤ b)
theorem sortO_ints (r : List Int) : sortO ((r.map .int).map .v) = ((sortI r).map .int).map .v := by
  rw [ofc_ints, ofc_ints, sortO, sortI]
  refine (List.map_mergeSort (f := fun i => O.v (.int i)) (r := fun a b => decide (a ≤ b)) (s := PySem.W.dataLe false O.d) fun a _ b _ => ?_).symm
  have := congrFun (congrFun (PySem.W.dataLe_int (fun i : Int => i)) a) b
  exact this.symm
theorem sortI_perm (r : List Int) : (sortI r).Perm r := List.mergeSort_perm _ _
theorem sortI_sorted (r : List Int) : (sortI r).Pairwise (· ≤ ·) := by
  have := List.pairwise_mergeSort (le := fun a b : Int => decide (a ≤ b)) (fun a b c h1 h2 => by simp only [decide_eq_true_eq] at *; omega) (fun a b => by simp only [Bool.or_eq_true, decide_eq_true_eq]; omega) r
  exact this.imp fun h => by simpa using h
theorem sort_rng {r : List Int} {n : Nat} (h : r.Perm (rng n)) : sortO ((r.map .int).map .v) = ((rng n).map .int).map .v := by
  rw [sortO_ints, perm_sorted ((sortI_perm r).trans h) (sortI_sorted r) (rng_sorted n)]
theorem rangeO_rng (n : Int) : rangeO 0 n = ((rng n.toNat).map .int).map .v := by
  simp only [rangeO, rng, List.map_map, Int.sub_zero]
  congr 1; funext i; simp
theorem rgOk_0 {n : Int} (h0 : 0 ≤ n) (h1 : n < 1000000) : rgOk 0 n = true := by
  simp only [rgOk, Bool.and_eq_true]
  exact ⟨⟨mag_of (by omega), mag_of (by omega)⟩, Nat.ble_eq_true_of_le (by omega)⟩
theorem p_table_fits (n : Int) (h0 : 0 ≤ n) (h1 : n < 1000) (r : List Int) (hp : r.Perm (rng n.toNat)) : E_table_fits.sem [.v (.int n), .v (Li r)] = .ok (.v (.bool true)) none := by
  show S_table_fits _ = _
  refine sat_fin ?_
  have hl : r.length = n.toNat := by rw [hp.length_eq]; simp [rng]
  have hr : ∀ x ∈ r, 0 ≤ x ∧ x < n := fun x hx => by
    obtain ⟨k, hk, rfl⟩ := List.mem_map.1 (hp.mem_iff.1 hx)
    have := List.mem_range.1 hk
    simp only [Int.ofNat_eq_natCast]; omega
  simp only [S_table_fits, I_table_fits, L_table_fits, runDef, exs, ex1, den, denPs, denP, denEs, denC, denO, denI, bind_ok, st_okq, seq_next, seq_ret, lift_some, look0, lookS, asBool_ok, lift_none, and_ok, or_ok, Tgt.slots, wipeE, backE, keepV, Tgt.put, setMany, ds_map_vq, ds_nilq, filter_ff, rev_mapq, mkTup_v, mkTupF_1, mkTupF_2, mkTupF_3, mkLst_1, seqD_list, seqD_tuple, seqD_own, all_isV, rsat_ok, ssat_next, ssat_ret, Function.comp_apply, addV_int, rdIdx, elems_own, elems_list, elems_tup, Bool.true_or, List.length_map, List.isEmpty_nil, List.isEmpty_cons, isiD_tuple, isiD_list, mkTupF_nil, mkLst_nil, shaped_int, shaped_none, shaped_bool, shaped_Li, shaped_Ti, shaped_LLi, shaped_Lnil, shaped_Tnil, eqv_int, eqv_Li, eqv_Ti, eqv_LLi, eqv_Lnil, eqv_Tnil, bool2, List.isEmpty_map, List.getElem_map, Int.reduceLT, Int.reduceLE, leafys_ints, leafys_lis, two_str, eqv_sstr, mkTupF_xo, mkTupF_ox, mkTupF_oxx, mkTupF_xox, mkTupF_xxo, mkTupF_xt, mkTupF_tx, mkTupF_txx, mkTupF_xtx, mkTupF_xxt, mkLst_2, mkLst_3, mkLst_4, elems_tupT, elems_ownT, Bool.or_true, List.contains_cons, List.contains_nil, res1, resAll, resAll_nil, Option.map_some, Option.map_none, pr, pr1, pr2, int1, int2, intOf, oI, oB, Ev.data2, isNone, rdVar, mvVar, argO, argOs, lent, Ev.borrowed, endCall, Ev.finish, outOf, doCall, leafy, leafyOut, List.map_cons, List.map_nil, List.cons_append, List.nil_append, List.append_nil, List.length_cons, List.length_nil, List.getElem?_cons_zero, List.getElem?_cons_succ, Nat.reduceAdd, Nat.reduceSub, Nat.zero_add, List.replicate_succ, List.replicate_zero, List.any_cons, List.any_nil, Bool.or_false, Bool.false_or, Bool.and_true, Bool.true_and, Bool.false_and, Bool.and_false, Bool.not_true, Bool.not_false, noList, noLists, leafys, Bool.false_eq_true, if_true, if_false, ite_true, ite_false, reduceIte, List.set_cons_zero, List.set_cons_succ, O.d, liftS, setN, doTg, doTgs, decide_true, decide_false, Nat.reduceLT, Nat.reduceBEq, Nat.reduceEqDiff, beq_self_eq_true, E_row_fits_ps, E_row_fits_io, p_row_fits n r hl h0 (by omega) hr, sortable_ints, sort_rng hp, rangeO_rng, rgOk_0 h0 (show n < 1000000 by omega), and_self]
theorem shaped_Sy (l : List Int) (ts : List (List Int)) (t : Int) : SeqAt.shaped (Sy l ts t) = true := by
  have h1 := depAll_lis ts
  simp only [SeqAt.shaped, PyData.canLay0, PyData.canLayAll0, PyData.depth, PyData.depthAll, layAll_ints, layAll_lis, depAll_ints, Bool.true_and, Bool.and_true]
  exact decide_eq_true (by omega)
theorem p_system_fits (l : List Int) (ts : List (List Int)) (t : Int) (h : Sys l ts t) : E_system_fits.sem [.v (Sy l ts t)] = .ok (.v (.bool true)) none := by
  show S_system_fits _ = _
  refine sat_fin ?_
  have hw : ¬ ((ts.length : Nat) : Int) < 2 := by have := h.w2; omega
  have h3 : ((3 : Nat) : Int) = 3 := rfl
  have ht : t ≤ l.prod - 1 := by have := h.t1; omega
  simp only [S_system_fits, I_system_fits, L_system_fits, runDef, exs, ex1, den, denPs, denP, denEs, denC, denO, denI, bind_ok, st_okq, seq_next, seq_ret, lift_some, look0, lookS, asBool_ok, lift_none, and_ok, or_ok, Tgt.slots, wipeE, backE, keepV, Tgt.put, setMany, ds_map_vq, ds_nilq, filter_ff, rev_mapq, mkTup_v, mkTupF_1, mkTupF_2, mkTupF_3, mkLst_1, seqD_list, seqD_tuple, seqD_own, all_isV, rsat_ok, ssat_next, ssat_ret, Function.comp_apply, addV_int, rdIdx, elems_own, elems_list, elems_tup, Bool.true_or, List.length_map, List.isEmpty_nil, List.isEmpty_cons, isiD_tuple, isiD_list, mkTupF_nil, mkLst_nil, shaped_int, shaped_none, shaped_bool, shaped_Li, shaped_Ti, shaped_LLi, shaped_Lnil, shaped_Tnil, eqv_int, eqv_Li, eqv_Ti, eqv_LLi, eqv_Lnil, eqv_Tnil, bool2, List.isEmpty_map, List.getElem_map, Int.reduceLT, Int.reduceLE, leafys_ints, leafys_lis, two_str, eqv_sstr, mkTupF_xo, mkTupF_ox, mkTupF_oxx, mkTupF_xox, mkTupF_xxo, mkTupF_xt, mkTupF_tx, mkTupF_txx, mkTupF_xtx, mkTupF_xxt, mkLst_2, mkLst_3, mkLst_4, elems_tupT, elems_ownT, Bool.or_true, List.contains_cons, List.contains_nil, res1, resAll, resAll_nil, Option.map_some, Option.map_none, pr, pr1, pr2, int1, int2, intOf, oI, oB, Ev.data2, isNone, rdVar, mvVar, argO, argOs, lent, Ev.borrowed, endCall, Ev.finish, outOf, doCall, leafy, leafyOut, List.map_cons, List.map_nil, List.cons_append, List.nil_append, List.append_nil, List.length_cons, List.length_nil, List.getElem?_cons_zero, List.getElem?_cons_succ, Nat.reduceAdd, Nat.reduceSub, Nat.zero_add, List.replicate_succ, List.replicate_zero, List.any_cons, List.any_nil, Bool.or_false, Bool.false_or, Bool.and_true, Bool.true_and, Bool.false_and, Bool.and_false, Bool.not_true, Bool.not_false, noList, noLists, leafys, Bool.false_eq_true, if_true, if_false, ite_true, ite_false, reduceIte, List.set_cons_zero, List.set_cons_succ, O.d, liftS, setN, doTg, doTgs, decide_true, decide_false, Nat.reduceLT, Nat.reduceBEq, Nat.reduceEqDiff, beq_self_eq_true, E_orders_fit_ps, E_orders_fit_io, E_member_fits_ps, E_member_fits_io, lenV, atI_lit0, p_orders_fit l h.o.1 (fun z hz => (h.o.2.2 z hz).1) h.o.2.1, hw, h3, p_member_fits l h.o.sm, h.t0, ht]
  repeat (first | with_reducible refine sat_seq ?_ | with_reducible refine sat_st ?_ | with_reducible refine sat_bind ?_ | with_reducible refine sat_asBool ?_)
  refine sat_comp (fun e => ∃ x, e = [some (.v (Sy l ts t)), some (.v (Ti l)), some (.v (Lli ts)), some (.v (.int t)), x]) (fun _ => false) O.v ⟨_, rfl⟩ (by have := h.w; simp only [List.length_map, List.length_nil, Sz]; omega) ?_ ?_
  · rintro d hd e ⟨x, rfl⟩
    obtain ⟨z, hz, rfl⟩ := List.mem_map.1 hd
    refine ⟨_, rfl, ?_⟩
    have hp0 : 0 ≤ l.prod := by have := h.t0; have := h.t1; omega
    simp only [exs, ex1, den, denPs, denP, denEs, denC, denO, denI, bind_ok, st_okq, seq_next, seq_ret, lift_some, look0, lookS, asBool_ok, lift_none, and_ok, or_ok, Tgt.slots, wipeE, backE, keepV, Tgt.put, setMany, ds_map_vq, ds_nilq, filter_ff, rev_mapq, mkTup_v, mkTupF_1, mkTupF_2, mkTupF_3, mkLst_1, seqD_list, seqD_tuple, seqD_own, all_isV, rsat_ok, ssat_next, ssat_ret, Function.comp_apply, addV_int, rdIdx, elems_own, elems_list, elems_tup, Bool.true_or, List.length_map, List.isEmpty_nil, List.isEmpty_cons, isiD_tuple, isiD_list, mkTupF_nil, mkLst_nil, shaped_int, shaped_none, shaped_bool, shaped_Li, shaped_Ti, shaped_LLi, shaped_Lnil, shaped_Tnil, eqv_int, eqv_Li, eqv_Ti, eqv_LLi, eqv_Lnil, eqv_Tnil, bool2, List.isEmpty_map, List.getElem_map, Int.reduceLT, Int.reduceLE, leafys_ints, leafys_lis, two_str, eqv_sstr, mkTupF_xo, mkTupF_ox, mkTupF_oxx, mkTupF_xox, mkTupF_xxo, mkTupF_xt, mkTupF_tx, mkTupF_txx, mkTupF_xtx, mkTupF_xxt, mkLst_2, mkLst_3, mkLst_4, elems_tupT, elems_ownT, Bool.or_true, List.contains_cons, List.contains_nil, res1, resAll, resAll_nil, Option.map_some, Option.map_none, pr, pr1, pr2, int1, int2, intOf, oI, oB, Ev.data2, isNone, rdVar, mvVar, argO, argOs, lent, Ev.borrowed, endCall, Ev.finish, outOf, doCall, leafy, leafyOut, List.map_cons, List.map_nil, List.cons_append, List.nil_append, List.append_nil, List.length_cons, List.length_nil, List.getElem?_cons_zero, List.getElem?_cons_succ, Nat.reduceAdd, Nat.reduceSub, Nat.zero_add, List.replicate_succ, List.replicate_zero, List.any_cons, List.any_nil, Bool.or_false, Bool.false_or, Bool.and_true, Bool.true_and, Bool.false_and, Bool.and_false, Bool.not_true, Bool.not_false, noList, noLists, leafys, Bool.false_eq_true, if_true, if_false, ite_true, ite_false, reduceIte, List.set_cons_zero, List.set_cons_succ, O.d, liftS, setN, doTg, doTgs, decide_true, decide_false, Nat.reduceLT, Nat.reduceBEq, Nat.reduceEqDiff, beq_self_eq_true, E_size_of_ps, E_size_of_io, E_table_fits_ps, E_table_fits_io, p_size_of l h.o.sm, p_table_fits l.prod hp0 h.p z (h.rp z hz)]
    exact ⟨True.intro, _, rfl⟩
  · rintro e ⟨x, rfl⟩
    simp only [exs, ex1, den, denPs, denP, denEs, denC, denO, denI, bind_ok, st_okq, seq_next, seq_ret, lift_some, look0, lookS, asBool_ok, lift_none, and_ok, or_ok, Tgt.slots, wipeE, backE, keepV, Tgt.put, setMany, ds_map_vq, ds_nilq, filter_ff, rev_mapq, mkTup_v, mkTupF_1, mkTupF_2, mkTupF_3, mkLst_1, seqD_list, seqD_tuple, seqD_own, all_isV, rsat_ok, ssat_next, ssat_ret, Function.comp_apply, addV_int, rdIdx, elems_own, elems_list, elems_tup, Bool.true_or, List.length_map, List.isEmpty_nil, List.isEmpty_cons, isiD_tuple, isiD_list, mkTupF_nil, mkLst_nil, shaped_int, shaped_none, shaped_bool, shaped_Li, shaped_Ti, shaped_LLi, shaped_Lnil, shaped_Tnil, eqv_int, eqv_Li, eqv_Ti, eqv_LLi, eqv_Lnil, eqv_Tnil, bool2, List.isEmpty_map, List.getElem_map, Int.reduceLT, Int.reduceLE, leafys_ints, leafys_lis, two_str, eqv_sstr, mkTupF_xo, mkTupF_ox, mkTupF_oxx, mkTupF_xox, mkTupF_xxo, mkTupF_xt, mkTupF_tx, mkTupF_txx, mkTupF_xtx, mkTupF_xxt, mkLst_2, mkLst_3, mkLst_4, elems_tupT, elems_ownT, Bool.or_true, List.contains_cons, List.contains_nil, res1, resAll, resAll_nil, Option.map_some, Option.map_none, pr, pr1, pr2, int1, int2, intOf, oI, oB, Ev.data2, isNone, rdVar, mvVar, argO, argOs, lent, Ev.borrowed, endCall, Ev.finish, outOf, doCall, leafy, leafyOut, List.map_cons, List.map_nil, List.cons_append, List.nil_append, List.append_nil, List.length_cons, List.length_nil, List.getElem?_cons_zero, List.getElem?_cons_succ, Nat.reduceAdd, Nat.reduceSub, Nat.zero_add, List.replicate_succ, List.replicate_zero, List.any_cons, List.any_nil, Bool.or_false, Bool.false_or, Bool.and_true, Bool.true_and, Bool.false_and, Bool.and_false, Bool.not_true, Bool.not_false, noList, noLists, leafys, Bool.false_eq_true, if_true, if_false, ite_true, ite_false, reduceIte, List.set_cons_zero, List.set_cons_succ, O.d, liftS, setN, doTg, doTgs, decide_true, decide_false, Nat.reduceLT, Nat.reduceBEq, Nat.reduceEqDiff, beq_self_eq_true, and_self]
theorem p_check_system (l : List Int) (ts : List (List Int)) (t : Int) (h : Sys l ts t) : E_check_system.sem [.v (Sy l ts t)] = .ok (.v .none) none := by
  show S_check_system _ = _
  refine sat_fin ?_
  simp only [S_check_system, I_check_system, L_check_system, runDef, exs, ex1, den, denPs, denP, denEs, denC, denO, denI, bind_ok, st_okq, seq_next, seq_ret, lift_some, look0, lookS, asBool_ok, lift_none, and_ok, or_ok, Tgt.slots, wipeE, backE, keepV, Tgt.put, setMany, ds_map_vq, ds_nilq, filter_ff, rev_mapq, mkTup_v, mkTupF_1, mkTupF_2, mkTupF_3, mkLst_1, seqD_list, seqD_tuple, seqD_own, all_isV, rsat_ok, ssat_next, ssat_ret, Function.comp_apply, addV_int, rdIdx, elems_own, elems_list, elems_tup, Bool.true_or, List.length_map, List.isEmpty_nil, List.isEmpty_cons, isiD_tuple, isiD_list, mkTupF_nil, mkLst_nil, shaped_int, shaped_none, shaped_bool, shaped_Li, shaped_Ti, shaped_LLi, shaped_Lnil, shaped_Tnil, eqv_int, eqv_Li, eqv_Ti, eqv_LLi, eqv_Lnil, eqv_Tnil, bool2, List.isEmpty_map, List.getElem_map, Int.reduceLT, Int.reduceLE, leafys_ints, leafys_lis, two_str, eqv_sstr, mkTupF_xo, mkTupF_ox, mkTupF_oxx, mkTupF_xox, mkTupF_xxo, mkTupF_xt, mkTupF_tx, mkTupF_txx, mkTupF_xtx, mkTupF_xxt, mkLst_2, mkLst_3, mkLst_4, elems_tupT, elems_ownT, Bool.or_true, List.contains_cons, List.contains_nil, res1, resAll, resAll_nil, Option.map_some, Option.map_none, pr, pr1, pr2, int1, int2, intOf, oI, oB, Ev.data2, isNone, rdVar, mvVar, argO, argOs, lent, Ev.borrowed, endCall, Ev.finish, outOf, doCall, leafy, leafyOut, List.map_cons, List.map_nil, List.cons_append, List.nil_append, List.append_nil, List.length_cons, List.length_nil, List.getElem?_cons_zero, List.getElem?_cons_succ, Nat.reduceAdd, Nat.reduceSub, Nat.zero_add, List.replicate_succ, List.replicate_zero, List.any_cons, List.any_nil, Bool.or_false, Bool.false_or, Bool.and_true, Bool.true_and, Bool.false_and, Bool.and_false, Bool.not_true, Bool.not_false, noList, noLists, leafys, Bool.false_eq_true, if_true, if_false, ite_true, ite_false, reduceIte, List.set_cons_zero, List.set_cons_succ, O.d, liftS, setN, doTg, doTgs, decide_true, decide_false, Nat.reduceLT, Nat.reduceBEq, Nat.reduceEqDiff, beq_self_eq_true, E_system_fits_ps, E_system_fits_io, p_system_fits l ts t h, and_self]
theorem p_check_code (l : List Int) (ts : List (List Int)) (t : Int) (h : Sys l ts t) (c : List Int) (hc : Code l ts c) : E_check_code.sem [.v (Sy l ts t), .v (Li c)] = .ok (.v .none) none := by
  show S_check_code _ = _
  refine sat_fin ?_
  simp only [S_check_code, I_check_code, L_check_code, runDef, exs, ex1, den, denPs, denP, denEs, denC, denO, denI, bind_ok, st_okq, seq_next, seq_ret, lift_some, look0, lookS, asBool_ok, lift_none, and_ok, or_ok, Tgt.slots, wipeE, backE, keepV, Tgt.put, setMany, ds_map_vq, ds_nilq, filter_ff, rev_mapq, mkTup_v, mkTupF_1, mkTupF_2, mkTupF_3, mkLst_1, seqD_list, seqD_tuple, seqD_own, all_isV, rsat_ok, ssat_next, ssat_ret, Function.comp_apply, addV_int, rdIdx, elems_own, elems_list, elems_tup, Bool.true_or, List.length_map, List.isEmpty_nil, List.isEmpty_cons, isiD_tuple, isiD_list, mkTupF_nil, mkLst_nil, shaped_int, shaped_none, shaped_bool, shaped_Li, shaped_Ti, shaped_LLi, shaped_Lnil, shaped_Tnil, eqv_int, eqv_Li, eqv_Ti, eqv_LLi, eqv_Lnil, eqv_Tnil, bool2, List.isEmpty_map, List.getElem_map, Int.reduceLT, Int.reduceLE, leafys_ints, leafys_lis, two_str, eqv_sstr, mkTupF_xo, mkTupF_ox, mkTupF_oxx, mkTupF_xox, mkTupF_xxo, mkTupF_xt, mkTupF_tx, mkTupF_txx, mkTupF_xtx, mkTupF_xxt, mkLst_2, mkLst_3, mkLst_4, elems_tupT, elems_ownT, Bool.or_true, List.contains_cons, List.contains_nil, res1, resAll, resAll_nil, Option.map_some, Option.map_none, pr, pr1, pr2, int1, int2, intOf, oI, oB, Ev.data2, isNone, rdVar, mvVar, argO, argOs, lent, Ev.borrowed, endCall, Ev.finish, outOf, doCall, leafy, leafyOut, List.map_cons, List.map_nil, List.cons_append, List.nil_append, List.append_nil, List.length_cons, List.length_nil, List.getElem?_cons_zero, List.getElem?_cons_succ, Nat.reduceAdd, Nat.reduceSub, Nat.zero_add, List.replicate_succ, List.replicate_zero, List.any_cons, List.any_nil, Bool.or_false, Bool.false_or, Bool.and_true, Bool.true_and, Bool.false_and, Bool.and_false, Bool.not_true, Bool.not_false, noList, noLists, leafys, Bool.false_eq_true, if_true, if_false, ite_true, ite_false, reduceIte, List.set_cons_zero, List.set_cons_succ, O.d, liftS, setN, doTg, doTgs, decide_true, decide_false, Nat.reduceLT, Nat.reduceBEq, Nat.reduceEqDiff, beq_self_eq_true, E_check_system_ps, E_check_system_io, E_code_fits_ps, E_code_fits_io, p_check_system l ts t h, p_code_fits l ts t h c hc, and_self]
end Lw
set_option Elab.async false
set_option linter.all false
set_option maxRecDepth 100000
namespace Lw
open PySem PySem.Spec PyProof.Rows L2 Ev
theorem rangeIt1 (k : Nat) (hk : k < 1000000) : rangeIt [.v (.int k)] = some (rangeD 0 1 k) := by
  have h1 : mag (k : Int) = true := mag_of (by omega)
  simp only [rangeIt, h1, if_true, Int.toNat_natCast]
theorem rangeIt1i (k : Int) (h0 : 0 ≤ k) (hk : k < 1000000) : rangeIt [.v (.int k)] = some (rangeD 0 1 k.toNat) := by
  obtain ⟨n, rfl⟩ := Int.eq_ofNat_of_zero_le h0
  exact rangeIt1 n (by omega)
theorem rangeD_len (a c : Int) (n : Nat) : (rangeD a c n).length = n := by simp [rangeD]
theorem rangeD_get (n k : Nat) (h : k < (rangeD 0 1 n).length) : (rangeD 0 1 n)[k] = .int (k : Int) := by
  simp [rangeD]
theorem rangeD_rng (n : Nat) : rangeD 0 1 n = (rng n).map .int := by
  simp only [rangeD, rng, List.map_map]; congr 1; funext i; simp
theorem p_times_over (n : Int) (hn : n.natAbs < 1000000) (k : Nat) (hk : k < 1000000) : E_times_over.sem [.v (.int n), .v (.int k)] = .ok (.v (.int (n ^ k))) none := by
  (rw [show E_times_over.sem = S_times_over from rfl, S_times_over, runDef]; refine sat_fin ?_)
  simp only [S_times_over, I_times_over, L_times_over, runDef, exs, ex1, den, denPs, denP, denEs, denC, denO, denI, bind_ok, st_okq, seq_next, seq_ret, lift_some, look0, lookS, asBool_ok, lift_none, and_ok, or_ok, Tgt.slots, wipeE, backE, keepV, Tgt.put, setMany, ds_map_vq, ds_nilq, filter_ff, rev_mapq, mkTup_v, mkTupF_1, mkTupF_2, mkTupF_3, mkLst_1, seqD_list, seqD_tuple, seqD_own, all_isV, rsat_ok, ssat_next, ssat_ret, Function.comp_apply, addV_int, rdIdx, elems_own, elems_list, elems_tup, Bool.true_or, List.length_map, List.isEmpty_nil, List.isEmpty_cons, isiD_tuple, isiD_list, mkTupF_nil, mkLst_nil, shaped_int, shaped_none, shaped_bool, shaped_Li, shaped_Ti, shaped_LLi, shaped_Lnil, shaped_Tnil, eqv_int, eqv_Li, eqv_Ti, eqv_LLi, eqv_Lnil, eqv_Tnil, bool2, List.isEmpty_map, List.getElem_map, Int.reduceLT, Int.reduceLE, leafys_ints, leafys_lis, two_str, eqv_sstr, mkTupF_xo, mkTupF_ox, mkTupF_oxx, mkTupF_xox, mkTupF_xxo, mkTupF_xt, mkTupF_tx, mkTupF_txx, mkTupF_xtx, mkTupF_xxt, mkLst_2, mkLst_3, mkLst_4, elems_tupT, elems_ownT, Bool.or_true, List.contains_cons, List.contains_nil, res1, resAll, resAll_nil, Option.map_some, Option.map_none, pr, pr1, pr2, int1, int2, intOf, oI, oB, Ev.data2, isNone, rdVar, mvVar, argO, argOs, lent, Ev.borrowed, endCall, Ev.finish, outOf, doCall, leafy, leafyOut, List.map_cons, List.map_nil, List.cons_append, List.nil_append, List.append_nil, List.length_cons, List.length_nil, List.getElem?_cons_zero, List.getElem?_cons_succ, Nat.reduceAdd, Nat.reduceSub, Nat.zero_add, List.replicate_succ, List.replicate_zero, List.any_cons, List.any_nil, Bool.or_false, Bool.false_or, Bool.and_true, Bool.true_and, Bool.false_and, Bool.and_false, Bool.not_true, Bool.not_false, noList, noLists, leafys, Bool.false_eq_true, if_true, if_false, ite_true, ite_false, reduceIte, List.set_cons_zero, List.set_cons_succ, O.d, liftS, setN, doTg, doTgs, decide_true, decide_false, Nat.reduceLT, Nat.reduceBEq, Nat.reduceEqDiff, beq_self_eq_true, rangeIt1 k hk]
  repeat (first | with_reducible refine sat_seq ?_ | with_reducible refine sat_st ?_ | with_reducible refine sat_bind ?_ | with_reducible refine sat_asBool ?_)
  refine sat_for (fun j e => ∃ y, e = [some (.v (.int n)), some (.v (.int k)), some (.v (.int (n ^ j))), y]) ⟨_, by rw [Int.pow_zero]⟩ ?_ ?_
  · rintro j hj e ⟨y, rfl⟩
    refine ⟨_, putT_one _ _ _ (by simp), ?_⟩
    simp only [exs, ex1, den, denPs, denP, denEs, denC, denO, denI, bind_ok, st_okq, seq_next, seq_ret, lift_some, look0, lookS, asBool_ok, lift_none, and_ok, or_ok, Tgt.slots, wipeE, backE, keepV, Tgt.put, setMany, ds_map_vq, ds_nilq, filter_ff, rev_mapq, mkTup_v, mkTupF_1, mkTupF_2, mkTupF_3, mkLst_1, seqD_list, seqD_tuple, seqD_own, all_isV, rsat_ok, ssat_next, ssat_ret, Function.comp_apply, addV_int, rdIdx, elems_own, elems_list, elems_tup, Bool.true_or, List.length_map, List.isEmpty_nil, List.isEmpty_cons, isiD_tuple, isiD_list, mkTupF_nil, mkLst_nil, shaped_int, shaped_none, shaped_bool, shaped_Li, shaped_Ti, shaped_LLi, shaped_Lnil, shaped_Tnil, eqv_int, eqv_Li, eqv_Ti, eqv_LLi, eqv_Lnil, eqv_Tnil, bool2, List.isEmpty_map, List.getElem_map, Int.reduceLT, Int.reduceLE, leafys_ints, leafys_lis, two_str, eqv_sstr, mkTupF_xo, mkTupF_ox, mkTupF_oxx, mkTupF_xox, mkTupF_xxo, mkTupF_xt, mkTupF_tx, mkTupF_txx, mkTupF_xtx, mkTupF_xxt, mkLst_2, mkLst_3, mkLst_4, elems_tupT, elems_ownT, Bool.or_true, List.contains_cons, List.contains_nil, res1, resAll, resAll_nil, Option.map_some, Option.map_none, pr, pr1, pr2, int1, int2, intOf, oI, oB, Ev.data2, isNone, rdVar, mvVar, argO, argOs, lent, Ev.borrowed, endCall, Ev.finish, outOf, doCall, leafy, leafyOut, List.map_cons, List.map_nil, List.cons_append, List.nil_append, List.append_nil, List.length_cons, List.length_nil, List.getElem?_cons_zero, List.getElem?_cons_succ, Nat.reduceAdd, Nat.reduceSub, Nat.zero_add, List.replicate_succ, List.replicate_zero, List.any_cons, List.any_nil, Bool.or_false, Bool.false_or, Bool.and_true, Bool.true_and, Bool.false_and, Bool.and_false, Bool.not_true, Bool.not_false, noList, noLists, leafys, Bool.false_eq_true, if_true, if_false, ite_true, ite_false, reduceIte, List.set_cons_zero, List.set_cons_succ, O.d, liftS, setN, doTg, doTgs, decide_true, decide_false, Nat.reduceLT, Nat.reduceBEq, Nat.reduceEqDiff, beq_self_eq_true, mulV, mulOk_r (show n.natAbs < 18446744073709551616 by omega), Int.pow_succ]
    exact ⟨_, rfl⟩
  · rintro e ⟨y, rfl⟩
    simp only [exs, ex1, den, denPs, denP, denEs, denC, denO, denI, bind_ok, st_okq, seq_next, seq_ret, lift_some, look0, lookS, asBool_ok, lift_none, and_ok, or_ok, Tgt.slots, wipeE, backE, keepV, Tgt.put, setMany, ds_map_vq, ds_nilq, filter_ff, rev_mapq, mkTup_v, mkTupF_1, mkTupF_2, mkTupF_3, mkLst_1, seqD_list, seqD_tuple, seqD_own, all_isV, rsat_ok, ssat_next, ssat_ret, Function.comp_apply, addV_int, rdIdx, elems_own, elems_list, elems_tup, Bool.true_or, List.length_map, List.isEmpty_nil, List.isEmpty_cons, isiD_tuple, isiD_list, mkTupF_nil, mkLst_nil, shaped_int, shaped_none, shaped_bool, shaped_Li, shaped_Ti, shaped_LLi, shaped_Lnil, shaped_Tnil, eqv_int, eqv_Li, eqv_Ti, eqv_LLi, eqv_Lnil, eqv_Tnil, bool2, List.isEmpty_map, List.getElem_map, Int.reduceLT, Int.reduceLE, leafys_ints, leafys_lis, two_str, eqv_sstr, mkTupF_xo, mkTupF_ox, mkTupF_oxx, mkTupF_xox, mkTupF_xxo, mkTupF_xt, mkTupF_tx, mkTupF_txx, mkTupF_xtx, mkTupF_xxt, mkLst_2, mkLst_3, mkLst_4, elems_tupT, elems_ownT, Bool.or_true, List.contains_cons, List.contains_nil, res1, resAll, resAll_nil, Option.map_some, Option.map_none, pr, pr1, pr2, int1, int2, intOf, oI, oB, Ev.data2, isNone, rdVar, mvVar, argO, argOs, lent, Ev.borrowed, endCall, Ev.finish, outOf, doCall, leafy, leafyOut, List.map_cons, List.map_nil, List.cons_append, List.nil_append, List.append_nil, List.length_cons, List.length_nil, List.getElem?_cons_zero, List.getElem?_cons_succ, Nat.reduceAdd, Nat.reduceSub, Nat.zero_add, List.replicate_succ, List.replicate_zero, List.any_cons, List.any_nil, Bool.or_false, Bool.false_or, Bool.and_true, Bool.true_and, Bool.false_and, Bool.and_false, Bool.not_true, Bool.not_false, noList, noLists, leafys, Bool.false_eq_true, if_true, if_false, ite_true, ite_false, reduceIte, List.set_cons_zero, List.set_cons_succ, O.d, liftS, setN, doTg, doTgs, decide_true, decide_false, Nat.reduceLT, Nat.reduceBEq, Nat.reduceEqDiff, beq_self_eq_true, rangeD_len, and_self]
/-- cuts -/
theorem cut_lo (ds : List D) (k : Nat) : cutO (ds.map .v) none (some (k : Int)) = (ds.take k).map .v := by
  simp only [cutO, HT.sIx_none, HT.sIx_nat, List.drop_zero, Nat.sub_zero, List.length_map, ← List.map_take]
  congr 1
  rcases Nat.le_total k ds.length with h | h
  · rw [Nat.min_eq_left h]
  · rw [Nat.min_eq_right h, List.take_length, List.take_of_length_le h]
theorem cut_hi (ds : List D) (k : Nat) : cutO (ds.map .v) (some (k : Int)) none = (ds.drop k).map .v := by
  simp only [cutO, HT.sIx_none, HT.sIx_nat, List.length_map, ← List.map_drop, ← List.map_take]
  congr 1
  rcases Nat.le_total k ds.length with h | h
  · rw [Nat.min_eq_left h, List.take_of_length_le (by simp)]
  · rw [Nat.min_eq_right h, List.drop_length, List.drop_of_length_le h]; simp
theorem addV_ooO (s : Bool) (xs ys : List O) (h : xs.length + ys.length ≤ sizeLine) : addV true (.own xs) true (.own ys) = some (.own (xs ++ ys)) := by
  simp only [addV, addS, elems, Bool.true_or, if_true, mkLst, fits, List.length_append]
  rw [if_pos (by simpa using h)]
theorem put_eq (c : List Int) (k : Nat) (m : Int) (h : k < c.length) : c.take k ++ m :: c.drop (k + 1) = c.set k m := (List.set_eq_take_append_cons_drop.trans (if_pos h)).symm
/-- code[:k] + [m] + code[k + 1:] -/
theorem put_val (c : List Int) (k : Nat) (m : Int) (hk : k < c.length) (hl : c.length < 1000000) : (addV true (O.own (((c.map PyData.int).take k).map O.v)) true (O.own [O.v (.int m)])) = some (.own ((((c.take k) ++ [m]).map .int).map .v)) := by
  rw [show (O.own [O.v (.int m)]) = .own (([m].map .int).map .v) from rfl, addV_oo _ _ _ _ (by simp [Sz]; omega), ← List.map_take, ← List.map_append]
theorem put_val2 (c : List Int) (k : Nat) (m : Int) (hk : k < c.length) (hl : c.length < 1000000) : (addV true (.own ((((c.take k) ++ [m]).map .int).map .v)) true (O.own (((c.map PyData.int).drop (k + 1)).map O.v))) = some (.own (((c.set k m).map .int).map .v)) := by
  rw [addV_oo _ _ _ _ (by simp [Sz]; omega), ← List.map_drop, ← List.map_append, List.append_assoc, ← put_eq c k m hk]; rfl
theorem p_put_in (c : List Int) (k : Nat) (m : Int) (hk : k < c.length) (hl : c.length < 1000000) : E_put_in.sem [.v (Li c), .v (.int k), .v (.int m)] = .ok (.own (((c.set k m).map .int).map .v)) none := by
  (rw [show E_put_in.sem = S_put_in from rfl, S_put_in, runDef]; refine sat_fin ?_)
  have e1 : ((k : Int) + 1) = ((k + 1 : Nat) : Int) := rfl
  simp only [S_put_in, I_put_in, L_put_in, runDef, exs, ex1, den, denPs, denP, denEs, denC, denO, denI, bind_ok, st_okq, seq_next, seq_ret, lift_some, look0, lookS, asBool_ok, lift_none, and_ok, or_ok, Tgt.slots, wipeE, backE, keepV, Tgt.put, setMany, ds_map_vq, ds_nilq, filter_ff, rev_mapq, mkTup_v, mkTupF_1, mkTupF_2, mkTupF_3, mkLst_1, seqD_list, seqD_tuple, seqD_own, all_isV, rsat_ok, ssat_next, ssat_ret, Function.comp_apply, addV_int, rdIdx, elems_own, elems_list, elems_tup, Bool.true_or, List.length_map, List.isEmpty_nil, List.isEmpty_cons, isiD_tuple, isiD_list, mkTupF_nil, mkLst_nil, shaped_int, shaped_none, shaped_bool, shaped_Li, shaped_Ti, shaped_LLi, shaped_Lnil, shaped_Tnil, eqv_int, eqv_Li, eqv_Ti, eqv_LLi, eqv_Lnil, eqv_Tnil, bool2, List.isEmpty_map, List.getElem_map, Int.reduceLT, Int.reduceLE, leafys_ints, leafys_lis, two_str, eqv_sstr, mkTupF_xo, mkTupF_ox, mkTupF_oxx, mkTupF_xox, mkTupF_xxo, mkTupF_xt, mkTupF_tx, mkTupF_txx, mkTupF_xtx, mkTupF_xxt, mkLst_2, mkLst_3, mkLst_4, elems_tupT, elems_ownT, Bool.or_true, List.contains_cons, List.contains_nil, res1, resAll, resAll_nil, Option.map_some, Option.map_none, pr, pr1, pr2, int1, int2, intOf, oI, oB, Ev.data2, isNone, rdVar, mvVar, argO, argOs, lent, Ev.borrowed, endCall, Ev.finish, outOf, doCall, leafy, leafyOut, List.map_cons, List.map_nil, List.cons_append, List.nil_append, List.append_nil, List.length_cons, List.length_nil, List.getElem?_cons_zero, List.getElem?_cons_succ, Nat.reduceAdd, Nat.reduceSub, Nat.zero_add, List.replicate_succ, List.replicate_zero, List.any_cons, List.any_nil, Bool.or_false, Bool.false_or, Bool.and_true, Bool.true_and, Bool.false_and, Bool.and_false, Bool.not_true, Bool.not_false, noList, noLists, leafys, Bool.false_eq_true, if_true, if_false, ite_true, ite_false, reduceIte, List.set_cons_zero, List.set_cons_succ, O.d, liftS, setN, doTg, doTgs, decide_true, decide_false, Nat.reduceLT, Nat.reduceBEq, Nat.reduceEqDiff, beq_self_eq_true, seqO, cut_lo, cut_hi, e1, put_val c k m hk hl, put_val2 c k m hk hl, and_self]
theorem p__law_put (c : List Int) (k : Nat) (m : Int) (hk : k < c.length) (hl : c.length < 1000000) : E__law_put.sem [.v (Li c), .v (.int k), .v (.int m)] = .ok (.own (((c.set k m).map .int).map .v)) none := by
  (rw [show E__law_put.sem = S__law_put from rfl, S__law_put, runDef]; refine sat_fin ?_)
  have e1 : ((k : Int) + 1) = ((k + 1 : Nat) : Int) := rfl
  simp only [S__law_put, I__law_put, L__law_put, runDef, exs, ex1, den, denPs, denP, denEs, denC, denO, denI, bind_ok, st_okq, seq_next, seq_ret, lift_some, look0, lookS, asBool_ok, lift_none, and_ok, or_ok, Tgt.slots, wipeE, backE, keepV, Tgt.put, setMany, ds_map_vq, ds_nilq, filter_ff, rev_mapq, mkTup_v, mkTupF_1, mkTupF_2, mkTupF_3, mkLst_1, seqD_list, seqD_tuple, seqD_own, all_isV, rsat_ok, ssat_next, ssat_ret, Function.comp_apply, addV_int, rdIdx, elems_own, elems_list, elems_tup, Bool.true_or, List.length_map, List.isEmpty_nil, List.isEmpty_cons, isiD_tuple, isiD_list, mkTupF_nil, mkLst_nil, shaped_int, shaped_none, shaped_bool, shaped_Li, shaped_Ti, shaped_LLi, shaped_Lnil, shaped_Tnil, eqv_int, eqv_Li, eqv_Ti, eqv_LLi, eqv_Lnil, eqv_Tnil, bool2, List.isEmpty_map, List.getElem_map, Int.reduceLT, Int.reduceLE, leafys_ints, leafys_lis, two_str, eqv_sstr, mkTupF_xo, mkTupF_ox, mkTupF_oxx, mkTupF_xox, mkTupF_xxo, mkTupF_xt, mkTupF_tx, mkTupF_txx, mkTupF_xtx, mkTupF_xxt, mkLst_2, mkLst_3, mkLst_4, elems_tupT, elems_ownT, Bool.or_true, List.contains_cons, List.contains_nil, res1, resAll, resAll_nil, Option.map_some, Option.map_none, pr, pr1, pr2, int1, int2, intOf, oI, oB, Ev.data2, isNone, rdVar, mvVar, argO, argOs, lent, Ev.borrowed, endCall, Ev.finish, outOf, doCall, leafy, leafyOut, List.map_cons, List.map_nil, List.cons_append, List.nil_append, List.append_nil, List.length_cons, List.length_nil, List.getElem?_cons_zero, List.getElem?_cons_succ, Nat.reduceAdd, Nat.reduceSub, Nat.zero_add, List.replicate_succ, List.replicate_zero, List.any_cons, List.any_nil, Bool.or_false, Bool.false_or, Bool.and_true, Bool.true_and, Bool.false_and, Bool.and_false, Bool.not_true, Bool.not_false, noList, noLists, leafys, Bool.false_eq_true, if_true, if_false, ite_true, ite_false, reduceIte, List.set_cons_zero, List.set_cons_succ, O.d, liftS, setN, doTg, doTgs, decide_true, decide_false, Nat.reduceLT, Nat.reduceBEq, Nat.reduceEqDiff, beq_self_eq_true, seqO, cut_lo, cut_hi, e1, put_val c k m hk hl, put_val2 c k m hk hl, and_self]
/-- at how many places they differ -/
theorem apart_filter (x c : List Int) : ((x.zip c).filter fun p => decide (p.1 ≠ p.2)).length = apartN x c := by
  rw [apartN, List.countP_eq_length_filter]; congr 1
  congr 1; funext p; simp only [bne]; by_cases e : p.1 = p.2 <;> simp [e]
theorem p_apart_in (x c : List Int) (h : x.length = c.length) (hl : c.length < 1000000) : E_apart_in.sem [.v (Li x), .v (Li c)] = .ok (.v (.int (apartN x c))) none := by
  (rw [show E_apart_in.sem = S_apart_in from rfl, S_apart_in, runDef]; refine sat_fin ?_)
  simp only [S_apart_in, I_apart_in, L_apart_in, runDef, exs, ex1, den, denPs, denP, denEs, denC, denO, denI, bind_ok, st_okq, seq_next, seq_ret, lift_some, look0, lookS, asBool_ok, lift_none, and_ok, or_ok, Tgt.slots, wipeE, backE, keepV, Tgt.put, setMany, ds_map_vq, ds_nilq, filter_ff, rev_mapq, mkTup_v, mkTupF_1, mkTupF_2, mkTupF_3, mkLst_1, seqD_list, seqD_tuple, seqD_own, all_isV, rsat_ok, ssat_next, ssat_ret, Function.comp_apply, addV_int, rdIdx, elems_own, elems_list, elems_tup, Bool.true_or, List.length_map, List.isEmpty_nil, List.isEmpty_cons, isiD_tuple, isiD_list, mkTupF_nil, mkLst_nil, shaped_int, shaped_none, shaped_bool, shaped_Li, shaped_Ti, shaped_LLi, shaped_Lnil, shaped_Tnil, eqv_int, eqv_Li, eqv_Ti, eqv_LLi, eqv_Lnil, eqv_Tnil, bool2, List.isEmpty_map, List.getElem_map, Int.reduceLT, Int.reduceLE, leafys_ints, leafys_lis, two_str, eqv_sstr, mkTupF_xo, mkTupF_ox, mkTupF_oxx, mkTupF_xox, mkTupF_xxo, mkTupF_xt, mkTupF_tx, mkTupF_txx, mkTupF_xtx, mkTupF_xxt, mkLst_2, mkLst_3, mkLst_4, elems_tupT, elems_ownT, Bool.or_true, List.contains_cons, List.contains_nil, res1, resAll, resAll_nil, Option.map_some, Option.map_none, pr, pr1, pr2, int1, int2, intOf, oI, oB, Ev.data2, isNone, rdVar, mvVar, argO, argOs, lent, Ev.borrowed, endCall, Ev.finish, outOf, doCall, leafy, leafyOut, List.map_cons, List.map_nil, List.cons_append, List.nil_append, List.append_nil, List.length_cons, List.length_nil, List.getElem?_cons_zero, List.getElem?_cons_succ, Nat.reduceAdd, Nat.reduceSub, Nat.zero_add, List.replicate_succ, List.replicate_zero, List.any_cons, List.any_nil, Bool.or_false, Bool.false_or, Bool.and_true, Bool.true_and, Bool.false_and, Bool.and_false, Bool.not_true, Bool.not_false, noList, noLists, leafys, Bool.false_eq_true, if_true, if_false, ite_true, ite_false, reduceIte, List.set_cons_zero, List.set_cons_succ, O.d, liftS, setN, doTg, doTgs, decide_true, decide_false, Nat.reduceLT, Nat.reduceBEq, Nat.reduceEqDiff, beq_self_eq_true, zipD_ints, h, bne_self_eq_false]
  repeat (first | with_reducible refine sat_seq ?_ | with_reducible refine sat_st ?_ | with_reducible refine sat_bind ?_ | with_reducible refine sat_asBool ?_)
  refine sat_comp (fun e => ∃ p q, e = [some (.v (Li x)), some (.v (Li c)), p, q]) (fun d => match d with | .tuple [.int a, .int b] => decide (a ≠ b) | _ => false) (fun _ => O.v (.int 1)) ⟨_, _, rfl⟩ (by simp only [List.length_map, List.length_zip, List.length_nil, Sz]; omega) ?_ ?_
  · rintro d hd e ⟨p, q, rfl⟩
    obtain ⟨z, hz, rfl⟩ := List.mem_map.1 hd
    refine ⟨_, rfl, ?_⟩
    simp only [exs, ex1, den, denPs, denP, denEs, denC, denO, denI, bind_ok, st_okq, seq_next, seq_ret, lift_some, look0, lookS, asBool_ok, lift_none, and_ok, or_ok, Tgt.slots, wipeE, backE, keepV, Tgt.put, setMany, ds_map_vq, ds_nilq, filter_ff, rev_mapq, mkTup_v, mkTupF_1, mkTupF_2, mkTupF_3, mkLst_1, seqD_list, seqD_tuple, seqD_own, all_isV, rsat_ok, ssat_next, ssat_ret, Function.comp_apply, addV_int, rdIdx, elems_own, elems_list, elems_tup, Bool.true_or, List.length_map, List.isEmpty_nil, List.isEmpty_cons, isiD_tuple, isiD_list, mkTupF_nil, mkLst_nil, shaped_int, shaped_none, shaped_bool, shaped_Li, shaped_Ti, shaped_LLi, shaped_Lnil, shaped_Tnil, eqv_int, eqv_Li, eqv_Ti, eqv_LLi, eqv_Lnil, eqv_Tnil, bool2, List.isEmpty_map, List.getElem_map, Int.reduceLT, Int.reduceLE, leafys_ints, leafys_lis, two_str, eqv_sstr, mkTupF_xo, mkTupF_ox, mkTupF_oxx, mkTupF_xox, mkTupF_xxo, mkTupF_xt, mkTupF_tx, mkTupF_txx, mkTupF_xtx, mkTupF_xxt, mkLst_2, mkLst_3, mkLst_4, elems_tupT, elems_ownT, Bool.or_true, List.contains_cons, List.contains_nil, res1, resAll, resAll_nil, Option.map_some, Option.map_none, pr, pr1, pr2, int1, int2, intOf, oI, oB, Ev.data2, isNone, rdVar, mvVar, argO, argOs, lent, Ev.borrowed, endCall, Ev.finish, outOf, doCall, leafy, leafyOut, List.map_cons, List.map_nil, List.cons_append, List.nil_append, List.append_nil, List.length_cons, List.length_nil, List.getElem?_cons_zero, List.getElem?_cons_succ, Nat.reduceAdd, Nat.reduceSub, Nat.zero_add, List.replicate_succ, List.replicate_zero, List.any_cons, List.any_nil, Bool.or_false, Bool.false_or, Bool.and_true, Bool.true_and, Bool.false_and, Bool.and_false, Bool.not_true, Bool.not_false, noList, noLists, leafys, Bool.false_eq_true, if_true, if_false, ite_true, ite_false, reduceIte, List.set_cons_zero, List.set_cons_succ, O.d, liftS, setN, doTg, doTgs, decide_true, decide_false, Nat.reduceLT, Nat.reduceBEq, Nat.reduceEqDiff, beq_self_eq_true, decide_not]
    refine ⟨trivial, ?_⟩
    by_cases e : z.1 = z.2 <;> simp [e, Res.sat]
  · rintro e ⟨p, q, rfl⟩
    simp only [exs, ex1, den, denPs, denP, denEs, denC, denO, denI, bind_ok, st_okq, seq_next, seq_ret, lift_some, look0, lookS, asBool_ok, lift_none, and_ok, or_ok, Tgt.slots, wipeE, backE, keepV, Tgt.put, setMany, ds_map_vq, ds_nilq, filter_ff, rev_mapq, mkTup_v, mkTupF_1, mkTupF_2, mkTupF_3, mkLst_1, seqD_list, seqD_tuple, seqD_own, all_isV, rsat_ok, ssat_next, ssat_ret, Function.comp_apply, addV_int, rdIdx, elems_own, elems_list, elems_tup, Bool.true_or, List.length_map, List.isEmpty_nil, List.isEmpty_cons, isiD_tuple, isiD_list, mkTupF_nil, mkLst_nil, shaped_int, shaped_none, shaped_bool, shaped_Li, shaped_Ti, shaped_LLi, shaped_Lnil, shaped_Tnil, eqv_int, eqv_Li, eqv_Ti, eqv_LLi, eqv_Lnil, eqv_Tnil, bool2, List.isEmpty_map, List.getElem_map, Int.reduceLT, Int.reduceLE, leafys_ints, leafys_lis, two_str, eqv_sstr, mkTupF_xo, mkTupF_ox, mkTupF_oxx, mkTupF_xox, mkTupF_xxo, mkTupF_xt, mkTupF_tx, mkTupF_txx, mkTupF_xtx, mkTupF_xxt, mkLst_2, mkLst_3, mkLst_4, elems_tupT, elems_ownT, Bool.or_true, List.contains_cons, List.contains_nil, res1, resAll, resAll_nil, Option.map_some, Option.map_none, pr, pr1, pr2, int1, int2, intOf, oI, oB, Ev.data2, isNone, rdVar, mvVar, argO, argOs, lent, Ev.borrowed, endCall, Ev.finish, outOf, doCall, leafy, leafyOut, List.map_cons, List.map_nil, List.cons_append, List.nil_append, List.append_nil, List.length_cons, List.length_nil, List.getElem?_cons_zero, List.getElem?_cons_succ, Nat.reduceAdd, Nat.reduceSub, Nat.zero_add, List.replicate_succ, List.replicate_zero, List.any_cons, List.any_nil, Bool.or_false, Bool.false_or, Bool.and_true, Bool.true_and, Bool.false_and, Bool.and_false, Bool.not_true, Bool.not_false, noList, noLists, leafys, Bool.false_eq_true, if_true, if_false, ite_true, ite_false, reduceIte, List.set_cons_zero, List.set_cons_succ, O.d, liftS, setN, doTg, doTgs, decide_true, decide_false, Nat.reduceLT, Nat.reduceBEq, Nat.reduceEqDiff, beq_self_eq_true, lenV, O.ds_map, List.filter_map, List.length_map, ← apart_filter x c, and_true]
    rfl
theorem p_distance (l : List Int) (ts : List (List Int)) (t : Int) (h : Sys l ts t) (c d : List Int) (hc : Code l ts c) (hd : Code l ts d) : E_distance.sem [.v (Sy l ts t), .v (Li c), .v (Li d)] = .ok (.v (.int (apartN c d))) none := by
  (rw [show E_distance.sem = S_distance from rfl, S_distance, runDef]; refine sat_fin ?_)
  simp only [S_distance, I_distance, L_distance, runDef, exs, ex1, den, denPs, denP, denEs, denC, denO, denI, bind_ok, st_okq, seq_next, seq_ret, lift_some, look0, lookS, asBool_ok, lift_none, and_ok, or_ok, Tgt.slots, wipeE, backE, keepV, Tgt.put, setMany, ds_map_vq, ds_nilq, filter_ff, rev_mapq, mkTup_v, mkTupF_1, mkTupF_2, mkTupF_3, mkLst_1, seqD_list, seqD_tuple, seqD_own, all_isV, rsat_ok, ssat_next, ssat_ret, Function.comp_apply, addV_int, rdIdx, elems_own, elems_list, elems_tup, Bool.true_or, List.length_map, List.isEmpty_nil, List.isEmpty_cons, isiD_tuple, isiD_list, mkTupF_nil, mkLst_nil, shaped_int, shaped_none, shaped_bool, shaped_Li, shaped_Ti, shaped_LLi, shaped_Lnil, shaped_Tnil, eqv_int, eqv_Li, eqv_Ti, eqv_LLi, eqv_Lnil, eqv_Tnil, bool2, List.isEmpty_map, List.getElem_map, Int.reduceLT, Int.reduceLE, leafys_ints, leafys_lis, two_str, eqv_sstr, mkTupF_xo, mkTupF_ox, mkTupF_oxx, mkTupF_xox, mkTupF_xxo, mkTupF_xt, mkTupF_tx, mkTupF_txx, mkTupF_xtx, mkTupF_xxt, mkLst_2, mkLst_3, mkLst_4, elems_tupT, elems_ownT, Bool.or_true, List.contains_cons, List.contains_nil, res1, resAll, resAll_nil, Option.map_some, Option.map_none, pr, pr1, pr2, int1, int2, intOf, oI, oB, Ev.data2, isNone, rdVar, mvVar, argO, argOs, lent, Ev.borrowed, endCall, Ev.finish, outOf, doCall, leafy, leafyOut, List.map_cons, List.map_nil, List.cons_append, List.nil_append, List.append_nil, List.length_cons, List.length_nil, List.getElem?_cons_zero, List.getElem?_cons_succ, Nat.reduceAdd, Nat.reduceSub, Nat.zero_add, List.replicate_succ, List.replicate_zero, List.any_cons, List.any_nil, Bool.or_false, Bool.false_or, Bool.and_true, Bool.true_and, Bool.false_and, Bool.and_false, Bool.not_true, Bool.not_false, noList, noLists, leafys, Bool.false_eq_true, if_true, if_false, ite_true, ite_false, reduceIte, List.set_cons_zero, List.set_cons_succ, O.d, liftS, setN, doTg, doTgs, decide_true, decide_false, Nat.reduceLT, Nat.reduceBEq, Nat.reduceEqDiff, beq_self_eq_true, E_check_code_ps, E_check_code_io, E_code_fits_ps, E_code_fits_io, E_apart_in_ps, E_apart_in_io, p_check_code l ts t h c hc, p_code_fits l ts t h d hd, p_apart_in c d (hc.1.trans hd.1.symm) (by have := hd.1; have := h.w; omega), and_self]
theorem sets_take (w j : Nat) (h : j < w + 1) : ((ch w j : Nat) : Int) * ((w : Int) - j) / ((j : Int) + 1) = ((ch w (j + 1) : Nat) : Int) := by
  have h1 := ch_step w j
  have h2 : ((ch w j : Nat) : Int) * ((w : Int) - j) = ((ch w (j + 1) : Nat) : Int) * ((j : Int) + 1) := by
    have e : ((w : Int) - j) = ((w - j : Nat) : Int) := by omega
    rw [e, ← Int.natCast_mul, ← h1, Int.natCast_mul]; rfl
  rw [h2, Int.mul_ediv_cancel _ (by omega)]
theorem p_sets_of (w k : Nat) (hw : w < 100000) (hk : k ≤ w + 1) : E_sets_of.sem [.v (.int w), .v (.int k)] = .ok (.v (.int (ch w k))) none := by
  (rw [show E_sets_of.sem = S_sets_of from rfl, S_sets_of, runDef]; refine sat_fin ?_)
  simp only [S_sets_of, I_sets_of, L_sets_of, runDef, exs, ex1, den, denPs, denP, denEs, denC, denO, denI, bind_ok, st_okq, seq_next, seq_ret, lift_some, look0, lookS, asBool_ok, lift_none, and_ok, or_ok, Tgt.slots, wipeE, backE, keepV, Tgt.put, setMany, ds_map_vq, ds_nilq, filter_ff, rev_mapq, mkTup_v, mkTupF_1, mkTupF_2, mkTupF_3, mkLst_1, seqD_list, seqD_tuple, seqD_own, all_isV, rsat_ok, ssat_next, ssat_ret, Function.comp_apply, addV_int, rdIdx, elems_own, elems_list, elems_tup, Bool.true_or, List.length_map, List.isEmpty_nil, List.isEmpty_cons, isiD_tuple, isiD_list, mkTupF_nil, mkLst_nil, shaped_int, shaped_none, shaped_bool, shaped_Li, shaped_Ti, shaped_LLi, shaped_Lnil, shaped_Tnil, eqv_int, eqv_Li, eqv_Ti, eqv_LLi, eqv_Lnil, eqv_Tnil, bool2, List.isEmpty_map, List.getElem_map, Int.reduceLT, Int.reduceLE, leafys_ints, leafys_lis, two_str, eqv_sstr, mkTupF_xo, mkTupF_ox, mkTupF_oxx, mkTupF_xox, mkTupF_xxo, mkTupF_xt, mkTupF_tx, mkTupF_txx, mkTupF_xtx, mkTupF_xxt, mkLst_2, mkLst_3, mkLst_4, elems_tupT, elems_ownT, Bool.or_true, List.contains_cons, List.contains_nil, res1, resAll, resAll_nil, Option.map_some, Option.map_none, pr, pr1, pr2, int1, int2, intOf, oI, oB, Ev.data2, isNone, rdVar, mvVar, argO, argOs, lent, Ev.borrowed, endCall, Ev.finish, outOf, doCall, leafy, leafyOut, List.map_cons, List.map_nil, List.cons_append, List.nil_append, List.append_nil, List.length_cons, List.length_nil, List.getElem?_cons_zero, List.getElem?_cons_succ, Nat.reduceAdd, Nat.reduceSub, Nat.zero_add, List.replicate_succ, List.replicate_zero, List.any_cons, List.any_nil, Bool.or_false, Bool.false_or, Bool.and_true, Bool.true_and, Bool.false_and, Bool.and_false, Bool.not_true, Bool.not_false, noList, noLists, leafys, Bool.false_eq_true, if_true, if_false, ite_true, ite_false, reduceIte, List.set_cons_zero, List.set_cons_succ, O.d, liftS, setN, doTg, doTgs, decide_true, decide_false, Nat.reduceLT, Nat.reduceBEq, Nat.reduceEqDiff, beq_self_eq_true, rangeIt1 k (by omega)]
  repeat (first | with_reducible refine sat_seq ?_ | with_reducible refine sat_st ?_ | with_reducible refine sat_bind ?_ | with_reducible refine sat_asBool ?_)
  refine sat_for (fun j e => ∃ y, e = [some (.v (.int w)), some (.v (.int k)), some (.v (.int (ch w j))), y]) ⟨_, by rw [ch_z]; rfl⟩ ?_ ?_
  · rintro j hj e ⟨y, rfl⟩
    have hj' : j < k := by simpa [rangeD_len] using hj
    refine ⟨_, by rw [rangeD_get]; exact putT_one _ _ _ (by simp), ?_⟩
    have hd : divOk ((j : Int) + 1) = true := divOk_q (by omega) (by omega)
    simp only [exs, ex1, den, denPs, denP, denEs, denC, denO, denI, bind_ok, st_okq, seq_next, seq_ret, lift_some, look0, lookS, asBool_ok, lift_none, and_ok, or_ok, Tgt.slots, wipeE, backE, keepV, Tgt.put, setMany, ds_map_vq, ds_nilq, filter_ff, rev_mapq, mkTup_v, mkTupF_1, mkTupF_2, mkTupF_3, mkLst_1, seqD_list, seqD_tuple, seqD_own, all_isV, rsat_ok, ssat_next, ssat_ret, Function.comp_apply, addV_int, rdIdx, elems_own, elems_list, elems_tup, Bool.true_or, List.length_map, List.isEmpty_nil, List.isEmpty_cons, isiD_tuple, isiD_list, mkTupF_nil, mkLst_nil, shaped_int, shaped_none, shaped_bool, shaped_Li, shaped_Ti, shaped_LLi, shaped_Lnil, shaped_Tnil, eqv_int, eqv_Li, eqv_Ti, eqv_LLi, eqv_Lnil, eqv_Tnil, bool2, List.isEmpty_map, List.getElem_map, Int.reduceLT, Int.reduceLE, leafys_ints, leafys_lis, two_str, eqv_sstr, mkTupF_xo, mkTupF_ox, mkTupF_oxx, mkTupF_xox, mkTupF_xxo, mkTupF_xt, mkTupF_tx, mkTupF_txx, mkTupF_xtx, mkTupF_xxt, mkLst_2, mkLst_3, mkLst_4, elems_tupT, elems_ownT, Bool.or_true, List.contains_cons, List.contains_nil, res1, resAll, resAll_nil, Option.map_some, Option.map_none, pr, pr1, pr2, int1, int2, intOf, oI, oB, Ev.data2, isNone, rdVar, mvVar, argO, argOs, lent, Ev.borrowed, endCall, Ev.finish, outOf, doCall, leafy, leafyOut, List.map_cons, List.map_nil, List.cons_append, List.nil_append, List.append_nil, List.length_cons, List.length_nil, List.getElem?_cons_zero, List.getElem?_cons_succ, Nat.reduceAdd, Nat.reduceSub, Nat.zero_add, List.replicate_succ, List.replicate_zero, List.any_cons, List.any_nil, Bool.or_false, Bool.false_or, Bool.and_true, Bool.true_and, Bool.false_and, Bool.and_false, Bool.not_true, Bool.not_false, noList, noLists, leafys, Bool.false_eq_true, if_true, if_false, ite_true, ite_false, reduceIte, List.set_cons_zero, List.set_cons_succ, O.d, liftS, setN, doTg, doTgs, decide_true, decide_false, Nat.reduceLT, Nat.reduceBEq, Nat.reduceEqDiff, beq_self_eq_true, mulV, mulOk_r (show ((w : Int) - j).natAbs < 18446744073709551616 by omega), hd, sets_take w j (by omega)]
    exact ⟨_, rfl⟩
  · rintro e ⟨y, rfl⟩
    simp only [exs, ex1, den, denPs, denP, denEs, denC, denO, denI, bind_ok, st_okq, seq_next, seq_ret, lift_some, look0, lookS, asBool_ok, lift_none, and_ok, or_ok, Tgt.slots, wipeE, backE, keepV, Tgt.put, setMany, ds_map_vq, ds_nilq, filter_ff, rev_mapq, mkTup_v, mkTupF_1, mkTupF_2, mkTupF_3, mkLst_1, seqD_list, seqD_tuple, seqD_own, all_isV, rsat_ok, ssat_next, ssat_ret, Function.comp_apply, addV_int, rdIdx, elems_own, elems_list, elems_tup, Bool.true_or, List.length_map, List.isEmpty_nil, List.isEmpty_cons, isiD_tuple, isiD_list, mkTupF_nil, mkLst_nil, shaped_int, shaped_none, shaped_bool, shaped_Li, shaped_Ti, shaped_LLi, shaped_Lnil, shaped_Tnil, eqv_int, eqv_Li, eqv_Ti, eqv_LLi, eqv_Lnil, eqv_Tnil, bool2, List.isEmpty_map, List.getElem_map, Int.reduceLT, Int.reduceLE, leafys_ints, leafys_lis, two_str, eqv_sstr, mkTupF_xo, mkTupF_ox, mkTupF_oxx, mkTupF_xox, mkTupF_xxo, mkTupF_xt, mkTupF_tx, mkTupF_txx, mkTupF_xtx, mkTupF_xxt, mkLst_2, mkLst_3, mkLst_4, elems_tupT, elems_ownT, Bool.or_true, List.contains_cons, List.contains_nil, res1, resAll, resAll_nil, Option.map_some, Option.map_none, pr, pr1, pr2, int1, int2, intOf, oI, oB, Ev.data2, isNone, rdVar, mvVar, argO, argOs, lent, Ev.borrowed, endCall, Ev.finish, outOf, doCall, leafy, leafyOut, List.map_cons, List.map_nil, List.cons_append, List.nil_append, List.append_nil, List.length_cons, List.length_nil, List.getElem?_cons_zero, List.getElem?_cons_succ, Nat.reduceAdd, Nat.reduceSub, Nat.zero_add, List.replicate_succ, List.replicate_zero, List.any_cons, List.any_nil, Bool.or_false, Bool.false_or, Bool.and_true, Bool.true_and, Bool.false_and, Bool.and_false, Bool.not_true, Bool.not_false, noList, noLists, leafys, Bool.false_eq_true, if_true, if_false, ite_true, ite_false, reduceIte, List.set_cons_zero, List.set_cons_succ, O.d, liftS, setN, doTg, doTgs, decide_true, decide_false, Nat.reduceLT, Nat.reduceBEq, Nat.reduceEqDiff, beq_self_eq_true, rangeD_len, and_self]
theorem p__law_sets (w k : Nat) (hw : w < 100000) (hk : k ≤ w + 1) : E__law_sets.sem [.v (.int w), .v (.int k)] = .ok (.v (.int (ch w k))) none := by
  (rw [show E__law_sets.sem = S__law_sets from rfl, S__law_sets, runDef]; refine sat_fin ?_)
  simp only [S__law_sets, I__law_sets, L__law_sets, runDef, exs, ex1, den, denPs, denP, denEs, denC, denO, denI, bind_ok, st_okq, seq_next, seq_ret, lift_some, look0, lookS, asBool_ok, lift_none, and_ok, or_ok, Tgt.slots, wipeE, backE, keepV, Tgt.put, setMany, ds_map_vq, ds_nilq, filter_ff, rev_mapq, mkTup_v, mkTupF_1, mkTupF_2, mkTupF_3, mkLst_1, seqD_list, seqD_tuple, seqD_own, all_isV, rsat_ok, ssat_next, ssat_ret, Function.comp_apply, addV_int, rdIdx, elems_own, elems_list, elems_tup, Bool.true_or, List.length_map, List.isEmpty_nil, List.isEmpty_cons, isiD_tuple, isiD_list, mkTupF_nil, mkLst_nil, shaped_int, shaped_none, shaped_bool, shaped_Li, shaped_Ti, shaped_LLi, shaped_Lnil, shaped_Tnil, eqv_int, eqv_Li, eqv_Ti, eqv_LLi, eqv_Lnil, eqv_Tnil, bool2, List.isEmpty_map, List.getElem_map, Int.reduceLT, Int.reduceLE, leafys_ints, leafys_lis, two_str, eqv_sstr, mkTupF_xo, mkTupF_ox, mkTupF_oxx, mkTupF_xox, mkTupF_xxo, mkTupF_xt, mkTupF_tx, mkTupF_txx, mkTupF_xtx, mkTupF_xxt, mkLst_2, mkLst_3, mkLst_4, elems_tupT, elems_ownT, Bool.or_true, List.contains_cons, List.contains_nil, res1, resAll, resAll_nil, Option.map_some, Option.map_none, pr, pr1, pr2, int1, int2, intOf, oI, oB, Ev.data2, isNone, rdVar, mvVar, argO, argOs, lent, Ev.borrowed, endCall, Ev.finish, outOf, doCall, leafy, leafyOut, List.map_cons, List.map_nil, List.cons_append, List.nil_append, List.append_nil, List.length_cons, List.length_nil, List.getElem?_cons_zero, List.getElem?_cons_succ, Nat.reduceAdd, Nat.reduceSub, Nat.zero_add, List.replicate_succ, List.replicate_zero, List.any_cons, List.any_nil, Bool.or_false, Bool.false_or, Bool.and_true, Bool.true_and, Bool.false_and, Bool.and_false, Bool.not_true, Bool.not_false, noList, noLists, leafys, Bool.false_eq_true, if_true, if_false, ite_true, ite_false, reduceIte, List.set_cons_zero, List.set_cons_succ, O.d, liftS, setN, doTg, doTgs, decide_true, decide_false, Nat.reduceLT, Nat.reduceBEq, Nat.reduceEqDiff, beq_self_eq_true, rangeIt1 k (by omega)]
  repeat (first | with_reducible refine sat_seq ?_ | with_reducible refine sat_st ?_ | with_reducible refine sat_bind ?_ | with_reducible refine sat_asBool ?_)
  refine sat_for (fun j e => ∃ y, e = [some (.v (.int w)), some (.v (.int k)), some (.v (.int (ch w j))), y]) ⟨_, by rw [ch_z]; rfl⟩ ?_ ?_
  · rintro j hj e ⟨y, rfl⟩
    have hj' : j < k := by simpa [rangeD_len] using hj
    refine ⟨_, by rw [rangeD_get]; exact putT_one _ _ _ (by simp), ?_⟩
    have hd : divOk ((j : Int) + 1) = true := divOk_q (by omega) (by omega)
    simp only [exs, ex1, den, denPs, denP, denEs, denC, denO, denI, bind_ok, st_okq, seq_next, seq_ret, lift_some, look0, lookS, asBool_ok, lift_none, and_ok, or_ok, Tgt.slots, wipeE, backE, keepV, Tgt.put, setMany, ds_map_vq, ds_nilq, filter_ff, rev_mapq, mkTup_v, mkTupF_1, mkTupF_2, mkTupF_3, mkLst_1, seqD_list, seqD_tuple, seqD_own, all_isV, rsat_ok, ssat_next, ssat_ret, Function.comp_apply, addV_int, rdIdx, elems_own, elems_list, elems_tup, Bool.true_or, List.length_map, List.isEmpty_nil, List.isEmpty_cons, isiD_tuple, isiD_list, mkTupF_nil, mkLst_nil, shaped_int, shaped_none, shaped_bool, shaped_Li, shaped_Ti, shaped_LLi, shaped_Lnil, shaped_Tnil, eqv_int, eqv_Li, eqv_Ti, eqv_LLi, eqv_Lnil, eqv_Tnil, bool2, List.isEmpty_map, List.getElem_map, Int.reduceLT, Int.reduceLE, leafys_ints, leafys_lis, two_str, eqv_sstr, mkTupF_xo, mkTupF_ox, mkTupF_oxx, mkTupF_xox, mkTupF_xxo, mkTupF_xt, mkTupF_tx, mkTupF_txx, mkTupF_xtx, mkTupF_xxt, mkLst_2, mkLst_3, mkLst_4, elems_tupT, elems_ownT, Bool.or_true, List.contains_cons, List.contains_nil, res1, resAll, resAll_nil, Option.map_some, Option.map_none, pr, pr1, pr2, int1, int2, intOf, oI, oB, Ev.data2, isNone, rdVar, mvVar, argO, argOs, lent, Ev.borrowed, endCall, Ev.finish, outOf, doCall, leafy, leafyOut, List.map_cons, List.map_nil, List.cons_append, List.nil_append, List.append_nil, List.length_cons, List.length_nil, List.getElem?_cons_zero, List.getElem?_cons_succ, Nat.reduceAdd, Nat.reduceSub, Nat.zero_add, List.replicate_succ, List.replicate_zero, List.any_cons, List.any_nil, Bool.or_false, Bool.false_or, Bool.and_true, Bool.true_and, Bool.false_and, Bool.and_false, Bool.not_true, Bool.not_false, noList, noLists, leafys, Bool.false_eq_true, if_true, if_false, ite_true, ite_false, reduceIte, List.set_cons_zero, List.set_cons_succ, O.d, liftS, setN, doTg, doTgs, decide_true, decide_false, Nat.reduceLT, Nat.reduceBEq, Nat.reduceEqDiff, beq_self_eq_true, mulV, mulOk_r (show ((w : Int) - j).natAbs < 18446744073709551616 by omega), hd, sets_take w j (by omega)]
    exact ⟨_, rfl⟩
  · rintro e ⟨y, rfl⟩
    simp only [exs, ex1, den, denPs, denP, denEs, denC, denO, denI, bind_ok, st_okq, seq_next, seq_ret, lift_some, look0, lookS, asBool_ok, lift_none, and_ok, or_ok, Tgt.slots, wipeE, backE, keepV, Tgt.put, setMany, ds_map_vq, ds_nilq, filter_ff, rev_mapq, mkTup_v, mkTupF_1, mkTupF_2, mkTupF_3, mkLst_1, seqD_list, seqD_tuple, seqD_own, all_isV, rsat_ok, ssat_next, ssat_ret, Function.comp_apply, addV_int, rdIdx, elems_own, elems_list, elems_tup, Bool.true_or, List.length_map, List.isEmpty_nil, List.isEmpty_cons, isiD_tuple, isiD_list, mkTupF_nil, mkLst_nil, shaped_int, shaped_none, shaped_bool, shaped_Li, shaped_Ti, shaped_LLi, shaped_Lnil, shaped_Tnil, eqv_int, eqv_Li, eqv_Ti, eqv_LLi, eqv_Lnil, eqv_Tnil, bool2, List.isEmpty_map, List.getElem_map, Int.reduceLT, Int.reduceLE, leafys_ints, leafys_lis, two_str, eqv_sstr, mkTupF_xo, mkTupF_ox, mkTupF_oxx, mkTupF_xox, mkTupF_xxo, mkTupF_xt, mkTupF_tx, mkTupF_txx, mkTupF_xtx, mkTupF_xxt, mkLst_2, mkLst_3, mkLst_4, elems_tupT, elems_ownT, Bool.or_true, List.contains_cons, List.contains_nil, res1, resAll, resAll_nil, Option.map_some, Option.map_none, pr, pr1, pr2, int1, int2, intOf, oI, oB, Ev.data2, isNone, rdVar, mvVar, argO, argOs, lent, Ev.borrowed, endCall, Ev.finish, outOf, doCall, leafy, leafyOut, List.map_cons, List.map_nil, List.cons_append, List.nil_append, List.append_nil, List.length_cons, List.length_nil, List.getElem?_cons_zero, List.getElem?_cons_succ, Nat.reduceAdd, Nat.reduceSub, Nat.zero_add, List.replicate_succ, List.replicate_zero, List.any_cons, List.any_nil, Bool.or_false, Bool.false_or, Bool.and_true, Bool.true_and, Bool.false_and, Bool.and_false, Bool.not_true, Bool.not_false, noList, noLists, leafys, Bool.false_eq_true, if_true, if_false, ite_true, ite_false, reduceIte, List.set_cons_zero, List.set_cons_succ, O.d, liftS, setN, doTg, doTgs, decide_true, decide_false, Nat.reduceLT, Nat.reduceBEq, Nat.reduceEqDiff, beq_self_eq_true, rangeD_len, and_self]
end Lw
set_option Elab.async false
set_option linter.all false
set_option maxRecDepth 100000
namespace Lw
open PySem PySem.Spec PyProof.Rows L2 Ev
theorem prod_ge2 : ∀ {l : List Int}, l ≠ [] → (∀ z ∈ l, 2 ≤ z) → 2 ≤ l.prod
  | [], h, _ => absurd rfl h
  | o :: l, _, h => by
    have h1 := h o (by simp)
    have h2 := Pos.prod (l := l) fun z hz => h z (by simp [hz])
    simp only [List.prod_cons]
    have := Int.mul_le_mul (a := 2) (c := o) (b := 1) (d := l.prod) (by omega) h2 (by omega) (by omega)
    omega
theorem Sys.ab {l : List Int} {ts : List (List Int)} {t : Int} (h : Sys l ts t) : Ab l.prod (plus l) (neg l) := ab_plus h.o.pos
theorem Sys.two {l : List Int} {ts : List (List Int)} {t : Int} (h : Sys l ts t) : 2 ≤ l.prod := prod_ge2 h.o.1 fun z hz => (h.o.2.2 z hz).1
theorem Sys.nat {l : List Int} {ts : List (List Int)} {t : Int} (h : Sys l ts t) : l.prod = (l.prod.toNat : Int) ∧ 2 ≤ l.prod.toNat ∧ l.prod.toNat < 1000 := by
  have := h.two; have := h.p; omega
theorem off_zero {l : List Int} {ts : List (List Int)} {t : Int} (h : Sys l ts t) (c : List Int) : off l ts t c = 0 ↔ tot l (mems ts c) = t :=
  h.ab.sub_zero (h.ab.fold_rng _) ⟨h.t0, h.t1⟩
theorem mems_in {l : List Int} {ts : List (List Int)} {t : Int} (h : Sys l ts t) {c : List Int} (hc : Code l ts c) : ∀ x ∈ mems ts c, InR l.prod x := by
  intro x hx
  obtain ⟨k, hk, rfl⟩ := List.getElem_of_mem hx
  have hl := mems_len ts c hc.1
  have h1 : k < ts.length := by omega
  have h2 : k < c.length := by have := hc.1; omega
  rw [mems_get ts c k hk h1 h2, h.nat.1]
  refine (perm_rng (h.rp _ (List.getElem_mem h1))).2.2 _ ?_
  rw [← h.nat.1]; exact hc.2 _ (List.getElem_mem h2)
/-- the sign that has to stand there -/
def wantN (l : List Int) (ts : List (List Int)) (t : Int) (c : List Int) (k : Nat) : Nat := (ts.getD k []).idxOf (less l ((mems ts c).getD k 0) (off l ts t c))
theorem wantN_sp {l : List Int} {ts : List (List Int)} {t : Int} (h : Sys l ts t) {c : List Int} (hc : Code l ts c) (k : Nat) (hk : k < ts.length) :
    wantN l ts t c k < l.prod.toNat ∧ ∀ m : Int, InR l.prod m → (off l ts t (c.set k m) = 0 ↔ m = (wantN l ts t c k : Int)) := by
  have hr := h.rp _ (List.getElem_mem hk)
  have hkm : k < (mems ts c).length := by rw [mems_len ts c hc.1]; exact hk
  have hx : InR l.prod (mems ts c)[k] := mems_in h hc _ (List.getElem_mem hkm)
  have hw : InR l.prod (less l (mems ts c)[k] (off l ts t c)) := h.ab.cl _ _
  have hi := perm_idx hr (w := less l (mems ts c)[k] (off l ts t c)) (by rw [← h.nat.1]; exact hw)
  have e1 : wantN l ts t c k = ts[k].idxOf (less l (mems ts c)[k] (off l ts t c)) := by
    simp [wantN, hk, hkm]
  rw [e1]
  refine ⟨hi.1, fun m hm => ?_⟩
  have hmN : InR (l.prod.toNat : Int) m := by rw [← h.nat.1]; exact hm
  rw [← hi.2 m hmN, off_zero h, mems_set ts c k m hk hc.1]
  show ((mems ts c).set k _).foldl (plus l) 0 = t ↔ _
  have hy : InR l.prod (ts[k].getD m.toNat 0) := by
    rw [h.nat.1]; exact (perm_rng hr).2.2 m hmN
  rw [h.ab.fold_set hy _ k hkm (mems_in h hc)]
  exact h.ab.move (h.ab.fold_rng _) hx hy ⟨h.t0, h.t1⟩
theorem findD_int (w : Int) : ∀ (r : List Int) (n : Nat), w ∈ r → findD (.int w) (r.map .int) n = some (n + r.idxOf w)
  | [], _, h => by cases h
  | a :: r, n, h => by
    simp only [List.map_cons, findD, eqv_int]
    by_cases e : a = w
    · subst e; simp
    · have hm : w ∈ r := by
        rcases List.mem_cons.1 h with q | q
        · exact absurd q.symm e
        · exact q
      have e2 : (a == w) = false := by simpa using e
      rw [decide_eq_false e, if_neg Bool.false_ne_true, findD_int w r (n + 1) hm, List.idxOf_cons, e2]
      simp only [cond_false]
      congr 1; omega
theorem findD_idx {r : List Int} {w : Int} (h : w ∈ r) : findD (.int w) (r.map .int) 0 = some (r.idxOf w) := by rw [findD_int w r 0 h, Nat.zero_add]
theorem idxV_int {r : List Int} {w : Int} (h : w ∈ r) : idxV (Li r) (.int w) = some (.v (.int (r.idxOf w))) := by
  simp [idxV, shaped_int, shaped_Li, findD_idx h]
theorem p_wanted_in (l : List Int) (ts : List (List Int)) (t : Int) (h : Sys l ts t) (c : List Int) (hc : Code l ts c) (k : Nat) (hk : k < ts.length) : E_wanted_in.sem [.v (Sy l ts t), .v (Li c), .v (.int k)] = .ok (.v (.int (wantN l ts t c k))) none := by
  (rw [show E_wanted_in.sem = S_wanted_in from rfl, S_wanted_in, runDef]; refine sat_fin ?_)
  have hr := h.rp _ (List.getElem_mem hk)
  have hkc : k < c.length := by have := hc.1; omega
  have hkm : k < (mems ts c).length := by rw [mems_len ts c hc.1]; exact hk
  have hck := hc.2 c[k] (List.getElem_mem hkc)
  obtain ⟨n, hn⟩ := Int.eq_ofNat_of_zero_le hck.1
  have hn' : n < ts[k].length := by rw [(h.r ts[k] (List.getElem_mem hk)).1]; omega
  have hx : (mems ts c)[k] = ts[k][n] := by simp [mems, hn, hn']
  have hw : InR l.prod (less l ts[k][n] (off l ts t c)) := h.ab.cl _ _
  have hm : less l ts[k][n] (off l ts t c) ∈ ts[k] := hr.mem_iff.2 (rng_mem.2 (by rw [← h.nat.1]; exact hw))
  have e1 : wantN l ts t c k = ts[k].idxOf (less l ts[k][n] (off l ts t c)) := by
    simp [wantN, hk, hkm, hx]
  rw [e1]
  simp only [S_wanted_in, I_wanted_in, L_wanted_in, runDef, exs, ex1, den, denPs, denP, denEs, denC, denO, denI, bind_ok, st_okq, seq_next, seq_ret, lift_some, look0, lookS, asBool_ok, lift_none, and_ok, or_ok, Tgt.slots, wipeE, backE, keepV, Tgt.put, setMany, ds_map_vq, ds_nilq, filter_ff, rev_mapq, mkTup_v, mkTupF_1, mkTupF_2, mkTupF_3, mkLst_1, seqD_list, seqD_tuple, seqD_own, all_isV, rsat_ok, ssat_next, ssat_ret, Function.comp_apply, addV_int, rdIdx, elems_own, elems_list, elems_tup, Bool.true_or, List.length_map, List.isEmpty_nil, List.isEmpty_cons, isiD_tuple, isiD_list, mkTupF_nil, mkLst_nil, shaped_int, shaped_none, shaped_bool, shaped_Li, shaped_Ti, shaped_LLi, shaped_Lnil, shaped_Tnil, eqv_int, eqv_Li, eqv_Ti, eqv_LLi, eqv_Lnil, eqv_Tnil, bool2, List.isEmpty_map, List.getElem_map, Int.reduceLT, Int.reduceLE, leafys_ints, leafys_lis, two_str, eqv_sstr, mkTupF_xo, mkTupF_ox, mkTupF_oxx, mkTupF_xox, mkTupF_xxo, mkTupF_xt, mkTupF_tx, mkTupF_txx, mkTupF_xtx, mkTupF_xxt, mkLst_2, mkLst_3, mkLst_4, elems_tupT, elems_ownT, Bool.or_true, List.contains_cons, List.contains_nil, res1, resAll, resAll_nil, Option.map_some, Option.map_none, pr, pr1, pr2, int1, int2, intOf, oI, oB, Ev.data2, isNone, rdVar, mvVar, argO, argOs, lent, Ev.borrowed, endCall, Ev.finish, outOf, doCall, leafy, leafyOut, List.map_cons, List.map_nil, List.cons_append, List.nil_append, List.append_nil, List.length_cons, List.length_nil, List.getElem?_cons_zero, List.getElem?_cons_succ, Nat.reduceAdd, Nat.reduceSub, Nat.zero_add, List.replicate_succ, List.replicate_zero, List.any_cons, List.any_nil, Bool.or_false, Bool.false_or, Bool.and_true, Bool.true_and, Bool.false_and, Bool.and_false, Bool.not_true, Bool.not_false, noList, noLists, leafys, Bool.false_eq_true, if_true, if_false, ite_true, ite_false, reduceIte, List.set_cons_zero, List.set_cons_succ, O.d, liftS, setN, doTg, doTgs, decide_true, decide_false, Nat.reduceLT, Nat.reduceBEq, Nat.reduceEqDiff, beq_self_eq_true, E_less_in_ps, E_less_in_io, E_off_in_ps, E_off_in_io, atI_lit1, atI_lit0, atI_map, hk, hkc, hn, hn', p_off_in l ts t h c hc, p_less_in l h.o, isListA, isListD, idxV_int hm, and_self]
theorem p__law_apart (x c : List Int) (h : x.length = c.length) (hl : c.length < 1000000) : E__law_apart.sem [.v (Li x), .v (Li c)] = .ok (.v (.int (apartN x c))) none := by
  (rw [show E__law_apart.sem = S__law_apart from rfl, S__law_apart, runDef]; refine sat_fin ?_)
  simp only [S__law_apart, I__law_apart, L__law_apart, runDef, exs, ex1, den, denPs, denP, denEs, denC, denO, denI, bind_ok, st_okq, seq_next, seq_ret, lift_some, look0, lookS, asBool_ok, lift_none, and_ok, or_ok, Tgt.slots, wipeE, backE, keepV, Tgt.put, setMany, ds_map_vq, ds_nilq, filter_ff, rev_mapq, mkTup_v, mkTupF_1, mkTupF_2, mkTupF_3, mkLst_1, seqD_list, seqD_tuple, seqD_own, all_isV, rsat_ok, ssat_next, ssat_ret, Function.comp_apply, addV_int, rdIdx, elems_own, elems_list, elems_tup, Bool.true_or, List.length_map, List.isEmpty_nil, List.isEmpty_cons, isiD_tuple, isiD_list, mkTupF_nil, mkLst_nil, shaped_int, shaped_none, shaped_bool, shaped_Li, shaped_Ti, shaped_LLi, shaped_Lnil, shaped_Tnil, eqv_int, eqv_Li, eqv_Ti, eqv_LLi, eqv_Lnil, eqv_Tnil, bool2, List.isEmpty_map, List.getElem_map, Int.reduceLT, Int.reduceLE, leafys_ints, leafys_lis, two_str, eqv_sstr, mkTupF_xo, mkTupF_ox, mkTupF_oxx, mkTupF_xox, mkTupF_xxo, mkTupF_xt, mkTupF_tx, mkTupF_txx, mkTupF_xtx, mkTupF_xxt, mkLst_2, mkLst_3, mkLst_4, elems_tupT, elems_ownT, Bool.or_true, List.contains_cons, List.contains_nil, res1, resAll, resAll_nil, Option.map_some, Option.map_none, pr, pr1, pr2, int1, int2, intOf, oI, oB, Ev.data2, isNone, rdVar, mvVar, argO, argOs, lent, Ev.borrowed, endCall, Ev.finish, outOf, doCall, leafy, leafyOut, List.map_cons, List.map_nil, List.cons_append, List.nil_append, List.append_nil, List.length_cons, List.length_nil, List.getElem?_cons_zero, List.getElem?_cons_succ, Nat.reduceAdd, Nat.reduceSub, Nat.zero_add, List.replicate_succ, List.replicate_zero, List.any_cons, List.any_nil, Bool.or_false, Bool.false_or, Bool.and_true, Bool.true_and, Bool.false_and, Bool.and_false, Bool.not_true, Bool.not_false, noList, noLists, leafys, Bool.false_eq_true, if_true, if_false, ite_true, ite_false, reduceIte, List.set_cons_zero, List.set_cons_succ, O.d, liftS, setN, doTg, doTgs, decide_true, decide_false, Nat.reduceLT, Nat.reduceBEq, Nat.reduceEqDiff, beq_self_eq_true, lenV, rangeIt1 x.length (by omega), rangeD_rng]
  repeat (first | with_reducible refine sat_seq ?_ | with_reducible refine sat_st ?_ | with_reducible refine sat_bind ?_ | with_reducible refine sat_asBool ?_)
  refine sat_comp (fun e => ∃ p, e = [some (.v (Li x)), some (.v (Li c)), p]) (fun d => match d with | .int a => decide (x.getD a.toNat 0 ≠ c.getD a.toNat 0) | _ => false) O.v ⟨_, rfl⟩ (by simp only [List.length_map, rng_len, List.length_nil, Sz]; omega) ?_ ?_
  · rintro d hd e ⟨p, rfl⟩
    obtain ⟨z, hz, rfl⟩ := List.mem_map.1 hd
    obtain ⟨k, hk, rfl⟩ := List.mem_map.1 hz
    have hk := List.mem_range.1 hk
    refine ⟨_, rfl, ?_⟩
    simp only [exs, ex1, den, denPs, denP, denEs, denC, denO, denI, bind_ok, st_okq, seq_next, seq_ret, lift_some, look0, lookS, asBool_ok, lift_none, and_ok, or_ok, Tgt.slots, wipeE, backE, keepV, Tgt.put, setMany, ds_map_vq, ds_nilq, filter_ff, rev_mapq, mkTup_v, mkTupF_1, mkTupF_2, mkTupF_3, mkLst_1, seqD_list, seqD_tuple, seqD_own, all_isV, rsat_ok, ssat_next, ssat_ret, Function.comp_apply, addV_int, rdIdx, elems_own, elems_list, elems_tup, Bool.true_or, List.length_map, List.isEmpty_nil, List.isEmpty_cons, isiD_tuple, isiD_list, mkTupF_nil, mkLst_nil, shaped_int, shaped_none, shaped_bool, shaped_Li, shaped_Ti, shaped_LLi, shaped_Lnil, shaped_Tnil, eqv_int, eqv_Li, eqv_Ti, eqv_LLi, eqv_Lnil, eqv_Tnil, bool2, List.isEmpty_map, List.getElem_map, Int.reduceLT, Int.reduceLE, leafys_ints, leafys_lis, two_str, eqv_sstr, mkTupF_xo, mkTupF_ox, mkTupF_oxx, mkTupF_xox, mkTupF_xxo, mkTupF_xt, mkTupF_tx, mkTupF_txx, mkTupF_xtx, mkTupF_xxt, mkLst_2, mkLst_3, mkLst_4, elems_tupT, elems_ownT, Bool.or_true, List.contains_cons, List.contains_nil, res1, resAll, resAll_nil, Option.map_some, Option.map_none, pr, pr1, pr2, int1, int2, intOf, oI, oB, Ev.data2, isNone, rdVar, mvVar, argO, argOs, lent, Ev.borrowed, endCall, Ev.finish, outOf, doCall, leafy, leafyOut, List.map_cons, List.map_nil, List.cons_append, List.nil_append, List.append_nil, List.length_cons, List.length_nil, List.getElem?_cons_zero, List.getElem?_cons_succ, Nat.reduceAdd, Nat.reduceSub, Nat.zero_add, List.replicate_succ, List.replicate_zero, List.any_cons, List.any_nil, Bool.or_false, Bool.false_or, Bool.and_true, Bool.true_and, Bool.false_and, Bool.and_false, Bool.not_true, Bool.not_false, noList, noLists, leafys, Bool.false_eq_true, if_true, if_false, ite_true, ite_false, reduceIte, List.set_cons_zero, List.set_cons_succ, O.d, liftS, setN, doTg, doTgs, decide_true, decide_false, Nat.reduceLT, Nat.reduceBEq, Nat.reduceEqDiff, beq_self_eq_true, Int.ofNat_eq_natCast, atI_map, hk, show k < c.length by omega]
    have e1 : x.getD k 0 = x[k] := by simp [hk]
    have e2 : c.getD k 0 = c[k] := by simp [show k < c.length by omega]
    simp only [Int.toNat_natCast, e1, e2]
    refine ⟨by simp, ?_⟩
    by_cases e : x[k] = c[k] <;> simp [e, Res.sat]
  · rintro e ⟨p, rfl⟩
    simp only [exs, ex1, den, denPs, denP, denEs, denC, denO, denI, bind_ok, st_okq, seq_next, seq_ret, lift_some, look0, lookS, asBool_ok, lift_none, and_ok, or_ok, Tgt.slots, wipeE, backE, keepV, Tgt.put, setMany, ds_map_vq, ds_nilq, filter_ff, rev_mapq, mkTup_v, mkTupF_1, mkTupF_2, mkTupF_3, mkLst_1, seqD_list, seqD_tuple, seqD_own, all_isV, rsat_ok, ssat_next, ssat_ret, Function.comp_apply, addV_int, rdIdx, elems_own, elems_list, elems_tup, Bool.true_or, List.length_map, List.isEmpty_nil, List.isEmpty_cons, isiD_tuple, isiD_list, mkTupF_nil, mkLst_nil, shaped_int, shaped_none, shaped_bool, shaped_Li, shaped_Ti, shaped_LLi, shaped_Lnil, shaped_Tnil, eqv_int, eqv_Li, eqv_Ti, eqv_LLi, eqv_Lnil, eqv_Tnil, bool2, List.isEmpty_map, List.getElem_map, Int.reduceLT, Int.reduceLE, leafys_ints, leafys_lis, two_str, eqv_sstr, mkTupF_xo, mkTupF_ox, mkTupF_oxx, mkTupF_xox, mkTupF_xxo, mkTupF_xt, mkTupF_tx, mkTupF_txx, mkTupF_xtx, mkTupF_xxt, mkLst_2, mkLst_3, mkLst_4, elems_tupT, elems_ownT, Bool.or_true, List.contains_cons, List.contains_nil, res1, resAll, resAll_nil, Option.map_some, Option.map_none, pr, pr1, pr2, int1, int2, intOf, oI, oB, Ev.data2, isNone, rdVar, mvVar, argO, argOs, lent, Ev.borrowed, endCall, Ev.finish, outOf, doCall, leafy, leafyOut, List.map_cons, List.map_nil, List.cons_append, List.nil_append, List.append_nil, List.length_cons, List.length_nil, List.getElem?_cons_zero, List.getElem?_cons_succ, Nat.reduceAdd, Nat.reduceSub, Nat.zero_add, List.replicate_succ, List.replicate_zero, List.any_cons, List.any_nil, Bool.or_false, Bool.false_or, Bool.and_true, Bool.true_and, Bool.false_and, Bool.and_false, Bool.not_true, Bool.not_false, noList, noLists, leafys, Bool.false_eq_true, if_true, if_false, ite_true, ite_false, reduceIte, List.set_cons_zero, List.set_cons_succ, O.d, liftS, setN, doTg, doTgs, decide_true, decide_false, Nat.reduceLT, Nat.reduceBEq, Nat.reduceEqDiff, beq_self_eq_true, lenV, O.ds_map, List.filter_map, List.length_map, and_true]
    congr 3
    rw [rng, List.filter_map, List.length_map, ← apart_filter]
    have : x.zip c = (List.range x.length).map fun k => (x.getD k 0, c.getD k 0) := by
      apply List.ext_getElem
      · simp [h]
      · intro k h1 h2
        have hk : k < x.length := by simpa [h] using h1
        simp [hk, show k < c.length by omega]
    rw [this, List.filter_map, List.length_map]
    rfl
end Lw
set_option Elab.async false
set_option linter.all false
set_option maxRecDepth 100000
namespace Lw
open PySem PySem.Spec PyProof.Rows L2 Ev
theorem hma_val (N : Nat) (h2 : 2 ≤ N) (w k : Nat) (b : Bool) : ((ch w k : Nat) : Int) * (((N : Int) - 1) ^ k + (-1) ^ k * (if b then (N : Int) - 1 else -1)) / (N : Int) = ((ch w k * wy N k b : Nat) : Int) := by
  rw [← wy_val N h2 b k, Int.mul_left_comm, Int.mul_ediv_cancel_left _ (by omega), Int.natCast_mul]
theorem par (k : Nat) : (((k : Int) % 2 = 0) ∧ (-1 : Int) ^ k = 1) ∨ (¬ ((k : Int) % 2 = 0) ∧ (-1 : Int) ^ k = -1) := by
  have := sgn k
  by_cases h : (k : Int) % 2 = 0
  · left; rw [h] at this; exact ⟨h, by simpa using this.symm⟩
  · right; refine ⟨h, ?_⟩
    rw [if_neg (by simpa using h)] at this; exact this.symm
theorem p_check_number0 (i : Int) (h : 0 ≤ i) : E_check_number.sem [.v (.int i), .v (.int 0), .v .none] = .ok (.v .none) none := p_check_number i h
/-- how many right numbers are so far away -/
def hmN (l : List Int) (ts : List (List Int)) (t : Int) (c : List Int) (k : Nat) : Nat := ch ts.length k * wy l.prod.toNat k (decide (off l ts t c = 0))
theorem p_how_many_at (l : List Int) (ts : List (List Int)) (t : Int) (h : Sys l ts t) (hw : ts.length ≤ 60) (c : List Int) (hc : Code l ts c) (k : Nat) (hk : k ≤ ts.length) : E_how_many_at.sem [.v (Sy l ts t), .v (Li c), .v (.int k)] = .ok (.v (.int (hmN l ts t c k))) none := by
  (rw [show E_how_many_at.sem = S_how_many_at from rfl, S_how_many_at, runDef]; refine sat_fin ?_)
  obtain ⟨hN, hN2, hN3⟩ := h.nat
  have hcl : ((c.length : Nat) : Int) = ts.length := by rw [hc.1]
  have hgt : ¬ ((ts.length : Nat) : Int) < k := by omega
  have hk0 : (0 : Int) ≤ k := by omega
  have hch : (((ch ts.length k : Nat) : Int)).natAbs < 18446744073709551616 := by
    have h1 := ch_le ts.length k
    have h2 : (2 : Nat) ^ ts.length ≤ 2 ^ 60 := Nat.pow_le_pow_right (by omega) hw
    omega
  have hdiv : divOk l.prod = true := divOk_q (by omega) (by omega)
  have hto := p_times_over (l.prod - 1) (by omega) k (by omega)
  have hv := hma_val l.prod.toNat hN2 ts.length k (decide (off l ts t c = 0))
  rw [← hN] at hv
  rw [show hmN l ts t c k = ch ts.length k * wy l.prod.toNat k (decide (off l ts t c = 0)) from rfl, ← hv]
  have hs : ∀ x y : Int, x.natAbs < 18446744073709551616 → mulOk x y = true := fun x y h => mulOk_l h
  rcases par k with ⟨hp, hp2⟩ | ⟨hp, hp2⟩ <;> by_cases ho : off l ts t c = 0
  all_goals
    simp only [S_how_many_at, I_how_many_at, L_how_many_at, runDef, exs, ex1, den, denPs, denP, denEs, denC, denO, denI, bind_ok, st_okq, seq_next, seq_ret, lift_some, look0, lookS, asBool_ok, lift_none, and_ok, or_ok, Tgt.slots, wipeE, backE, keepV, Tgt.put, setMany, ds_map_vq, ds_nilq, filter_ff, rev_mapq, mkTup_v, mkTupF_1, mkTupF_2, mkTupF_3, mkLst_1, seqD_list, seqD_tuple, seqD_own, all_isV, rsat_ok, ssat_next, ssat_ret, Function.comp_apply, addV_int, rdIdx, elems_own, elems_list, elems_tup, Bool.true_or, List.length_map, List.isEmpty_nil, List.isEmpty_cons, isiD_tuple, isiD_list, mkTupF_nil, mkLst_nil, shaped_int, shaped_none, shaped_bool, shaped_Li, shaped_Ti, shaped_LLi, shaped_Lnil, shaped_Tnil, eqv_int, eqv_Li, eqv_Ti, eqv_LLi, eqv_Lnil, eqv_Tnil, bool2, List.isEmpty_map, List.getElem_map, Int.reduceLT, Int.reduceLE, leafys_ints, leafys_lis, two_str, eqv_sstr, mkTupF_xo, mkTupF_ox, mkTupF_oxx, mkTupF_xox, mkTupF_xxo, mkTupF_xt, mkTupF_tx, mkTupF_txx, mkTupF_xtx, mkTupF_xxt, mkLst_2, mkLst_3, mkLst_4, elems_tupT, elems_ownT, Bool.or_true, List.contains_cons, List.contains_nil, res1, resAll, resAll_nil, Option.map_some, Option.map_none, pr, pr1, pr2, int1, int2, intOf, oI, oB, Ev.data2, isNone, rdVar, mvVar, argO, argOs, lent, Ev.borrowed, endCall, Ev.finish, outOf, doCall, leafy, leafyOut, List.map_cons, List.map_nil, List.cons_append, List.nil_append, List.append_nil, List.length_cons, List.length_nil, List.getElem?_cons_zero, List.getElem?_cons_succ, Nat.reduceAdd, Nat.reduceSub, Nat.zero_add, List.replicate_succ, List.replicate_zero, List.any_cons, List.any_nil, Bool.or_false, Bool.false_or, Bool.and_true, Bool.true_and, Bool.false_and, Bool.and_false, Bool.not_true, Bool.not_false, noList, noLists, leafys, Bool.false_eq_true, if_true, if_false, ite_true, ite_false, reduceIte, List.set_cons_zero, List.set_cons_succ, O.d, liftS, setN, doTg, doTgs, decide_true, decide_false, Nat.reduceLT, Nat.reduceBEq, Nat.reduceEqDiff, beq_self_eq_true, E_check_code_ps, E_check_code_io, E_check_number_ps, E_check_number_io, E_size_of_ps, E_size_of_io, E_off_in_ps, E_off_in_io, E_sets_of_ps, E_sets_of_io, E_times_over_ps, E_times_over_io, p_check_code l ts t h c hc, p_check_number0 _ hk0, lenV, atI_lit0, p_size_of l h.o.sm, hcl, hgt, hp, hp2, p_off_in l ts t h c hc, ho, p_sets_of ts.length k (by omega) (by omega), hto, mulV, hs _ _ hch, hs 1 _ (by decide), hs (-1) _ (by decide), hdiv, and_self]
theorem p_how_many_far (l : List Int) (ts : List (List Int)) (t : Int) (h : Sys l ts t) (c : List Int) (hc : Code l ts c) (k : Int) (hk : (ts.length : Int) < k) : E_how_many_at.sem [.v (Sy l ts t), .v (Li c), .v (.int k)] = .ok (.v (.int 0)) none := by
  (rw [show E_how_many_at.sem = S_how_many_at from rfl, S_how_many_at, runDef]; refine sat_fin ?_)
  have hcl : ((c.length : Nat) : Int) = ts.length := by rw [hc.1]
  have hk0 : (0 : Int) ≤ k := by omega
  simp only [S_how_many_at, I_how_many_at, L_how_many_at, runDef, exs, ex1, den, denPs, denP, denEs, denC, denO, denI, bind_ok, st_okq, seq_next, seq_ret, lift_some, look0, lookS, asBool_ok, lift_none, and_ok, or_ok, Tgt.slots, wipeE, backE, keepV, Tgt.put, setMany, ds_map_vq, ds_nilq, filter_ff, rev_mapq, mkTup_v, mkTupF_1, mkTupF_2, mkTupF_3, mkLst_1, seqD_list, seqD_tuple, seqD_own, all_isV, rsat_ok, ssat_next, ssat_ret, Function.comp_apply, addV_int, rdIdx, elems_own, elems_list, elems_tup, Bool.true_or, List.length_map, List.isEmpty_nil, List.isEmpty_cons, isiD_tuple, isiD_list, mkTupF_nil, mkLst_nil, shaped_int, shaped_none, shaped_bool, shaped_Li, shaped_Ti, shaped_LLi, shaped_Lnil, shaped_Tnil, eqv_int, eqv_Li, eqv_Ti, eqv_LLi, eqv_Lnil, eqv_Tnil, bool2, List.isEmpty_map, List.getElem_map, Int.reduceLT, Int.reduceLE, leafys_ints, leafys_lis, two_str, eqv_sstr, mkTupF_xo, mkTupF_ox, mkTupF_oxx, mkTupF_xox, mkTupF_xxo, mkTupF_xt, mkTupF_tx, mkTupF_txx, mkTupF_xtx, mkTupF_xxt, mkLst_2, mkLst_3, mkLst_4, elems_tupT, elems_ownT, Bool.or_true, List.contains_cons, List.contains_nil, res1, resAll, resAll_nil, Option.map_some, Option.map_none, pr, pr1, pr2, int1, int2, intOf, oI, oB, Ev.data2, isNone, rdVar, mvVar, argO, argOs, lent, Ev.borrowed, endCall, Ev.finish, outOf, doCall, leafy, leafyOut, List.map_cons, List.map_nil, List.cons_append, List.nil_append, List.append_nil, List.length_cons, List.length_nil, List.getElem?_cons_zero, List.getElem?_cons_succ, Nat.reduceAdd, Nat.reduceSub, Nat.zero_add, List.replicate_succ, List.replicate_zero, List.any_cons, List.any_nil, Bool.or_false, Bool.false_or, Bool.and_true, Bool.true_and, Bool.false_and, Bool.and_false, Bool.not_true, Bool.not_false, noList, noLists, leafys, Bool.false_eq_true, if_true, if_false, ite_true, ite_false, reduceIte, List.set_cons_zero, List.set_cons_succ, O.d, liftS, setN, doTg, doTgs, decide_true, decide_false, Nat.reduceLT, Nat.reduceBEq, Nat.reduceEqDiff, beq_self_eq_true, E_check_code_ps, E_check_code_io, E_check_number_ps, E_check_number_io, E_size_of_ps, E_size_of_io, E_off_in_ps, E_off_in_io, E_sets_of_ps, E_sets_of_io, E_times_over_ps, E_times_over_io, p_check_code l ts t h c hc, p_check_number0 _ hk0, lenV, atI_lit0, p_size_of l h.o.sm, hcl, hk, and_self]
/-- lists of lists, put in order -/
abbrev OLi (l : List Int) : O := .own ((l.map .int).map .v)
theorem OLi_d (r : List Int) : (OLi r).d = Li r := by simp only [O.d, ds_map_vq]
theorem ds_OLi (rs : List (List Int)) : O.ds (rs.map OLi) = rs.map fun r => Li r := by
  rw [O.ds_map, List.map_map]; exact List.map_congr_left fun r _ => OLi_d r
theorem alike_lis (a b : List Int) : PySem.W.alike (Li a) (Li b) = true := by
  show PySem.W.alikeAll _ _ = true
  exact PySem.W.alike_ints a b
theorem sortable_lis (rs : List (List Int)) : sortable (rs.map fun r => Li r) = true := by
  simp only [sortable, Bool.and_eq_true, Bool.or_eq_true, List.all_eq_true, List.mem_map]
  refine ⟨⟨?_, .inr ?_⟩, ?_⟩
  · rintro d ⟨i, _, rfl⟩ e ⟨j, _, rfl⟩; exact alike_lis i j
  · rintro d ⟨i, _, rfl⟩; rfl
  · rintro d ⟨i, _, rfl⟩; exact shaped_Li i
theorem sortO_lis (rs : List (List Int)) : sortO (rs.map OLi) = (sortL rs).map OLi := by
  rw [sortO, sortL]
  refine (List.map_mergeSort (f := OLi) (r := fun a b => decide (a ≤ b)) (s := PySem.W.dataLe false O.d) fun a _ b _ => ?_).symm
  have e := congrFun (congrFun (PySem.W.dataLe_rows (fun r : List Int => r)) a) b
  have e2 : PySem.W.dataLe false O.d (OLi a) (OLi b) = PySem.W.dataLe false (fun r : List Int => PyData.list (r.map .int)) a b := by
    simp only [PySem.W.dataLe, PySem.W.sortLe, OLi_d]
  rw [e2, e]
theorem elems_OL (rs : List (List Int)) : elems true (.own (rs.map OLi)) = some (true, rs.map OLi) := rfl
/-- the right numbers nearest to one -/
def nearL (l : List Int) (ts : List (List Int)) (t : Int) (c : List Int) : List (List Int) :=
  if off l ts t c = 0 then [c] else sortL ((List.range ts.length).map fun k => c.set k (wantN l ts t c k))
theorem p_nearest_right (l : List Int) (ts : List (List Int)) (t : Int) (h : Sys l ts t) (c : List Int) (hc : Code l ts c) : E_nearest_right.sem [.v (Sy l ts t), .v (Li c)] = .ok (.own ((nearL l ts t c).map OLi)) none := by
  (rw [show E_nearest_right.sem = S_nearest_right from rfl, S_nearest_right, runDef]; refine sat_fin ?_)
  have hcl : c.length = ts.length := hc.1
  have hw := h.w
  by_cases ho : off l ts t c = 0
  · simp only [S_nearest_right, I_nearest_right, L_nearest_right, runDef, exs, ex1, den, denPs, denP, denEs, denC, denO, denI, bind_ok, st_okq, seq_next, seq_ret, lift_some, look0, lookS, asBool_ok, lift_none, and_ok, or_ok, Tgt.slots, wipeE, backE, keepV, Tgt.put, setMany, ds_map_vq, ds_nilq, filter_ff, rev_mapq, mkTup_v, mkTupF_1, mkTupF_2, mkTupF_3, mkLst_1, seqD_list, seqD_tuple, seqD_own, all_isV, rsat_ok, ssat_next, ssat_ret, Function.comp_apply, addV_int, rdIdx, elems_own, elems_list, elems_tup, Bool.true_or, List.length_map, List.isEmpty_nil, List.isEmpty_cons, isiD_tuple, isiD_list, mkTupF_nil, mkLst_nil, shaped_int, shaped_none, shaped_bool, shaped_Li, shaped_Ti, shaped_LLi, shaped_Lnil, shaped_Tnil, eqv_int, eqv_Li, eqv_Ti, eqv_LLi, eqv_Lnil, eqv_Tnil, bool2, List.isEmpty_map, List.getElem_map, Int.reduceLT, Int.reduceLE, leafys_ints, leafys_lis, two_str, eqv_sstr, mkTupF_xo, mkTupF_ox, mkTupF_oxx, mkTupF_xox, mkTupF_xxo, mkTupF_xt, mkTupF_tx, mkTupF_txx, mkTupF_xtx, mkTupF_xxt, mkLst_2, mkLst_3, mkLst_4, elems_tupT, elems_ownT, Bool.or_true, List.contains_cons, List.contains_nil, res1, resAll, resAll_nil, Option.map_some, Option.map_none, pr, pr1, pr2, int1, int2, intOf, oI, oB, Ev.data2, isNone, rdVar, mvVar, argO, argOs, lent, Ev.borrowed, endCall, Ev.finish, outOf, doCall, leafy, leafyOut, List.map_cons, List.map_nil, List.cons_append, List.nil_append, List.append_nil, List.length_cons, List.length_nil, List.getElem?_cons_zero, List.getElem?_cons_succ, Nat.reduceAdd, Nat.reduceSub, Nat.zero_add, List.replicate_succ, List.replicate_zero, List.any_cons, List.any_nil, Bool.or_false, Bool.false_or, Bool.and_true, Bool.true_and, Bool.false_and, Bool.and_false, Bool.not_true, Bool.not_false, noList, noLists, leafys, Bool.false_eq_true, if_true, if_false, ite_true, ite_false, reduceIte, List.set_cons_zero, List.set_cons_succ, O.d, liftS, setN, doTg, doTgs, decide_true, decide_false, Nat.reduceLT, Nat.reduceBEq, Nat.reduceEqDiff, beq_self_eq_true, E_check_code_ps, E_check_code_io, E_off_in_ps, E_off_in_io, p_check_code l ts t h c hc, p_off_in l ts t h c hc, ho, nearL, and_self]
  · simp only [S_nearest_right, I_nearest_right, L_nearest_right, runDef, exs, ex1, den, denPs, denP, denEs, denC, denO, denI, bind_ok, st_okq, seq_next, seq_ret, lift_some, look0, lookS, asBool_ok, lift_none, and_ok, or_ok, Tgt.slots, wipeE, backE, keepV, Tgt.put, setMany, ds_map_vq, ds_nilq, filter_ff, rev_mapq, mkTup_v, mkTupF_1, mkTupF_2, mkTupF_3, mkLst_1, seqD_list, seqD_tuple, seqD_own, all_isV, rsat_ok, ssat_next, ssat_ret, Function.comp_apply, addV_int, rdIdx, elems_own, elems_list, elems_tup, Bool.true_or, List.length_map, List.isEmpty_nil, List.isEmpty_cons, isiD_tuple, isiD_list, mkTupF_nil, mkLst_nil, shaped_int, shaped_none, shaped_bool, shaped_Li, shaped_Ti, shaped_LLi, shaped_Lnil, shaped_Tnil, eqv_int, eqv_Li, eqv_Ti, eqv_LLi, eqv_Lnil, eqv_Tnil, bool2, List.isEmpty_map, List.getElem_map, Int.reduceLT, Int.reduceLE, leafys_ints, leafys_lis, two_str, eqv_sstr, mkTupF_xo, mkTupF_ox, mkTupF_oxx, mkTupF_xox, mkTupF_xxo, mkTupF_xt, mkTupF_tx, mkTupF_txx, mkTupF_xtx, mkTupF_xxt, mkLst_2, mkLst_3, mkLst_4, elems_tupT, elems_ownT, Bool.or_true, List.contains_cons, List.contains_nil, res1, resAll, resAll_nil, Option.map_some, Option.map_none, pr, pr1, pr2, int1, int2, intOf, oI, oB, Ev.data2, isNone, rdVar, mvVar, argO, argOs, lent, Ev.borrowed, endCall, Ev.finish, outOf, doCall, leafy, leafyOut, List.map_cons, List.map_nil, List.cons_append, List.nil_append, List.append_nil, List.length_cons, List.length_nil, List.getElem?_cons_zero, List.getElem?_cons_succ, Nat.reduceAdd, Nat.reduceSub, Nat.zero_add, List.replicate_succ, List.replicate_zero, List.any_cons, List.any_nil, Bool.or_false, Bool.false_or, Bool.and_true, Bool.true_and, Bool.false_and, Bool.and_false, Bool.not_true, Bool.not_false, noList, noLists, leafys, Bool.false_eq_true, if_true, if_false, ite_true, ite_false, reduceIte, List.set_cons_zero, List.set_cons_succ, O.d, liftS, setN, doTg, doTgs, decide_true, decide_false, Nat.reduceLT, Nat.reduceBEq, Nat.reduceEqDiff, beq_self_eq_true, E_check_code_ps, E_check_code_io, E_off_in_ps, E_off_in_io, p_check_code l ts t h c hc, p_off_in l ts t h c hc, ho, lenV, hcl, rangeIt1 ts.length (by omega)]
    repeat (first | with_reducible refine sat_seq ?_ | with_reducible refine sat_st ?_ | with_reducible refine sat_bind ?_ | with_reducible refine sat_asBool ?_)
    refine sat_compI (fun k os e => os = (((List.range ts.length).map fun k => c.set k (wantN l ts t c k)).take k).map OLi ∧ ∃ x, e = [some (.v (Sy l ts t)), some (.v (Li c)), x]) ⟨rfl, _, rfl⟩ (by simp only [rangeD_len, Sz]; omega) ?_ ?_
    · rintro k hk os e ⟨rfl, x, rfl⟩
      have hk' : k < ts.length := by simpa [rangeD_len] using hk
      refine ⟨_, by rw [rangeD_get]; rfl, ?_⟩
      simp only [exs, ex1, den, denPs, denP, denEs, denC, denO, denI, bind_ok, st_okq, seq_next, seq_ret, lift_some, look0, lookS, asBool_ok, lift_none, and_ok, or_ok, Tgt.slots, wipeE, backE, keepV, Tgt.put, setMany, ds_map_vq, ds_nilq, filter_ff, rev_mapq, mkTup_v, mkTupF_1, mkTupF_2, mkTupF_3, mkLst_1, seqD_list, seqD_tuple, seqD_own, all_isV, rsat_ok, ssat_next, ssat_ret, Function.comp_apply, addV_int, rdIdx, elems_own, elems_list, elems_tup, Bool.true_or, List.length_map, List.isEmpty_nil, List.isEmpty_cons, isiD_tuple, isiD_list, mkTupF_nil, mkLst_nil, shaped_int, shaped_none, shaped_bool, shaped_Li, shaped_Ti, shaped_LLi, shaped_Lnil, shaped_Tnil, eqv_int, eqv_Li, eqv_Ti, eqv_LLi, eqv_Lnil, eqv_Tnil, bool2, List.isEmpty_map, List.getElem_map, Int.reduceLT, Int.reduceLE, leafys_ints, leafys_lis, two_str, eqv_sstr, mkTupF_xo, mkTupF_ox, mkTupF_oxx, mkTupF_xox, mkTupF_xxo, mkTupF_xt, mkTupF_tx, mkTupF_txx, mkTupF_xtx, mkTupF_xxt, mkLst_2, mkLst_3, mkLst_4, elems_tupT, elems_ownT, Bool.or_true, List.contains_cons, List.contains_nil, res1, resAll, resAll_nil, Option.map_some, Option.map_none, pr, pr1, pr2, int1, int2, intOf, oI, oB, Ev.data2, isNone, rdVar, mvVar, argO, argOs, lent, Ev.borrowed, endCall, Ev.finish, outOf, doCall, leafy, leafyOut, List.map_cons, List.map_nil, List.cons_append, List.nil_append, List.append_nil, List.length_cons, List.length_nil, List.getElem?_cons_zero, List.getElem?_cons_succ, Nat.reduceAdd, Nat.reduceSub, Nat.zero_add, List.replicate_succ, List.replicate_zero, List.any_cons, List.any_nil, Bool.or_false, Bool.false_or, Bool.and_true, Bool.true_and, Bool.false_and, Bool.and_false, Bool.not_true, Bool.not_false, noList, noLists, leafys, Bool.false_eq_true, if_true, if_false, ite_true, ite_false, reduceIte, List.set_cons_zero, List.set_cons_succ, O.d, liftS, setN, doTg, doTgs, decide_true, decide_false, Nat.reduceLT, Nat.reduceBEq, Nat.reduceEqDiff, beq_self_eq_true, E_put_in_ps, E_put_in_io, E_wanted_in_ps, E_wanted_in_io, p_wanted_in l ts t h c hc k hk', p_put_in c k _ (by omega) (by omega), true_and]
      refine ⟨?_, _, rfl⟩
      rw [List.take_succ_eq_append_getElem (by simpa using hk')]
      simp
    · rintro os e ⟨rfl, x, rfl⟩
      rw [rangeD_len, List.take_of_length_le (by simp)]
      simp only [exs, ex1, den, denPs, denP, denEs, denC, denO, denI, bind_ok, st_okq, seq_next, seq_ret, lift_some, look0, lookS, asBool_ok, lift_none, and_ok, or_ok, Tgt.slots, wipeE, backE, keepV, Tgt.put, setMany, ds_map_vq, ds_nilq, filter_ff, rev_mapq, mkTup_v, mkTupF_1, mkTupF_2, mkTupF_3, mkLst_1, seqD_list, seqD_tuple, seqD_own, all_isV, rsat_ok, ssat_next, ssat_ret, Function.comp_apply, addV_int, rdIdx, elems_own, elems_list, elems_tup, Bool.true_or, List.length_map, List.isEmpty_nil, List.isEmpty_cons, isiD_tuple, isiD_list, mkTupF_nil, mkLst_nil, shaped_int, shaped_none, shaped_bool, shaped_Li, shaped_Ti, shaped_LLi, shaped_Lnil, shaped_Tnil, eqv_int, eqv_Li, eqv_Ti, eqv_LLi, eqv_Lnil, eqv_Tnil, bool2, List.isEmpty_map, List.getElem_map, Int.reduceLT, Int.reduceLE, leafys_ints, leafys_lis, two_str, eqv_sstr, mkTupF_xo, mkTupF_ox, mkTupF_oxx, mkTupF_xox, mkTupF_xxo, mkTupF_xt, mkTupF_tx, mkTupF_txx, mkTupF_xtx, mkTupF_xxt, mkLst_2, mkLst_3, mkLst_4, elems_tupT, elems_ownT, Bool.or_true, List.contains_cons, List.contains_nil, res1, resAll, resAll_nil, Option.map_some, Option.map_none, pr, pr1, pr2, int1, int2, intOf, oI, oB, Ev.data2, isNone, rdVar, mvVar, argO, argOs, lent, Ev.borrowed, endCall, Ev.finish, outOf, doCall, leafy, leafyOut, List.map_cons, List.map_nil, List.cons_append, List.nil_append, List.append_nil, List.length_cons, List.length_nil, List.getElem?_cons_zero, List.getElem?_cons_succ, Nat.reduceAdd, Nat.reduceSub, Nat.zero_add, List.replicate_succ, List.replicate_zero, List.any_cons, List.any_nil, Bool.or_false, Bool.false_or, Bool.and_true, Bool.true_and, Bool.false_and, Bool.and_false, Bool.not_true, Bool.not_false, noList, noLists, leafys, Bool.false_eq_true, if_true, if_false, ite_true, ite_false, reduceIte, List.set_cons_zero, List.set_cons_succ, O.d, liftS, setN, doTg, doTgs, decide_true, decide_false, Nat.reduceLT, Nat.reduceBEq, Nat.reduceEqDiff, beq_self_eq_true, elems_OL, ds_OLi, sortable_lis, sortO_lis, nearL, ho, and_self]
theorem p__law_wanted (l : List Int) (ts : List (List Int)) (t : Int) (h : Sys l ts t) (c : List Int) (hc : Code l ts c) (k : Nat) (hk : k < ts.length) : E__law_wanted.sem [.v (Sy l ts t), .v (Li c), .v (.int k)] = .ok (.v (.int (wantN l ts t c k))) none := by
  (rw [show E__law_wanted.sem = S__law_wanted from rfl, S__law_wanted, runDef]; refine sat_fin ?_)
  obtain ⟨hN, hN2, hN3⟩ := h.nat
  have hkc : k < c.length := by have := hc.1; omega
  have hw := h.w
  have hcs : ∀ m : Int, InR l.prod m → Code l ts (c.set k m) := fun m hm => ⟨by simpa using hc.1, fun x hx => by
    rcases List.mem_or_eq_of_mem_set hx with q | q
    · exact hc.2 x q
    · subst q; exact hm⟩
  obtain ⟨w1, w2⟩ := wantN_sp h hc k hk
  simp only [S__law_wanted, I__law_wanted, L__law_wanted, runDef, exs, ex1, den, denPs, denP, denEs, denC, denO, denI, bind_ok, st_okq, seq_next, seq_ret, lift_some, look0, lookS, asBool_ok, lift_none, and_ok, or_ok, Tgt.slots, wipeE, backE, keepV, Tgt.put, setMany, ds_map_vq, ds_nilq, filter_ff, rev_mapq, mkTup_v, mkTupF_1, mkTupF_2, mkTupF_3, mkLst_1, seqD_list, seqD_tuple, seqD_own, all_isV, rsat_ok, ssat_next, ssat_ret, Function.comp_apply, addV_int, rdIdx, elems_own, elems_list, elems_tup, Bool.true_or, List.length_map, List.isEmpty_nil, List.isEmpty_cons, isiD_tuple, isiD_list, mkTupF_nil, mkLst_nil, shaped_int, shaped_none, shaped_bool, shaped_Li, shaped_Ti, shaped_LLi, shaped_Lnil, shaped_Tnil, eqv_int, eqv_Li, eqv_Ti, eqv_LLi, eqv_Lnil, eqv_Tnil, bool2, List.isEmpty_map, List.getElem_map, Int.reduceLT, Int.reduceLE, leafys_ints, leafys_lis, two_str, eqv_sstr, mkTupF_xo, mkTupF_ox, mkTupF_oxx, mkTupF_xox, mkTupF_xxo, mkTupF_xt, mkTupF_tx, mkTupF_txx, mkTupF_xtx, mkTupF_xxt, mkLst_2, mkLst_3, mkLst_4, elems_tupT, elems_ownT, Bool.or_true, List.contains_cons, List.contains_nil, res1, resAll, resAll_nil, Option.map_some, Option.map_none, pr, pr1, pr2, int1, int2, intOf, oI, oB, Ev.data2, isNone, rdVar, mvVar, argO, argOs, lent, Ev.borrowed, endCall, Ev.finish, outOf, doCall, leafy, leafyOut, List.map_cons, List.map_nil, List.cons_append, List.nil_append, List.append_nil, List.length_cons, List.length_nil, List.getElem?_cons_zero, List.getElem?_cons_succ, Nat.reduceAdd, Nat.reduceSub, Nat.zero_add, List.replicate_succ, List.replicate_zero, List.any_cons, List.any_nil, Bool.or_false, Bool.false_or, Bool.and_true, Bool.true_and, Bool.false_and, Bool.and_false, Bool.not_true, Bool.not_false, noList, noLists, leafys, Bool.false_eq_true, if_true, if_false, ite_true, ite_false, reduceIte, List.set_cons_zero, List.set_cons_succ, O.d, liftS, setN, doTg, doTgs, decide_true, decide_false, Nat.reduceLT, Nat.reduceBEq, Nat.reduceEqDiff, beq_self_eq_true, E__law_size_ps, E__law_size_io, atI_lit0, p__law_size l h.o.sm, rangeIt1i l.prod (by omega) (by omega), rangeD_rng]
  repeat (first | with_reducible refine sat_seq ?_ | with_reducible refine sat_st ?_ | with_reducible refine sat_bind ?_ | with_reducible refine sat_asBool ?_)
  refine sat_compM PyData.int (rng l.prod.toNat) (fun e => ∃ x, e = [some (.v (Sy l ts t)), some (.v (Li c)), some (.v (.int k)), x]) (fun m => decide (off l ts t (c.set k m) = 0)) (fun m => O.v (.int m)) ⟨_, rfl⟩ (by simp only [rng_len, Sz]; omega) ?_ ?_
  · rintro m hm e ⟨x, rfl⟩
    have hm := rng_mem.1 hm
    rw [← hN] at hm
    refine ⟨_, rfl, ?_⟩
    simp only [exs, ex1, den, denPs, denP, denEs, denC, denO, denI, bind_ok, st_okq, seq_next, seq_ret, lift_some, look0, lookS, asBool_ok, lift_none, and_ok, or_ok, Tgt.slots, wipeE, backE, keepV, Tgt.put, setMany, ds_map_vq, ds_nilq, filter_ff, rev_mapq, mkTup_v, mkTupF_1, mkTupF_2, mkTupF_3, mkLst_1, seqD_list, seqD_tuple, seqD_own, all_isV, rsat_ok, ssat_next, ssat_ret, Function.comp_apply, addV_int, rdIdx, elems_own, elems_list, elems_tup, Bool.true_or, List.length_map, List.isEmpty_nil, List.isEmpty_cons, isiD_tuple, isiD_list, mkTupF_nil, mkLst_nil, shaped_int, shaped_none, shaped_bool, shaped_Li, shaped_Ti, shaped_LLi, shaped_Lnil, shaped_Tnil, eqv_int, eqv_Li, eqv_Ti, eqv_LLi, eqv_Lnil, eqv_Tnil, bool2, List.isEmpty_map, List.getElem_map, Int.reduceLT, Int.reduceLE, leafys_ints, leafys_lis, two_str, eqv_sstr, mkTupF_xo, mkTupF_ox, mkTupF_oxx, mkTupF_xox, mkTupF_xxo, mkTupF_xt, mkTupF_tx, mkTupF_txx, mkTupF_xtx, mkTupF_xxt, mkLst_2, mkLst_3, mkLst_4, elems_tupT, elems_ownT, Bool.or_true, List.contains_cons, List.contains_nil, res1, resAll, resAll_nil, Option.map_some, Option.map_none, pr, pr1, pr2, int1, int2, intOf, oI, oB, Ev.data2, isNone, rdVar, mvVar, argO, argOs, lent, Ev.borrowed, endCall, Ev.finish, outOf, doCall, leafy, leafyOut, List.map_cons, List.map_nil, List.cons_append, List.nil_append, List.append_nil, List.length_cons, List.length_nil, List.getElem?_cons_zero, List.getElem?_cons_succ, Nat.reduceAdd, Nat.reduceSub, Nat.zero_add, List.replicate_succ, List.replicate_zero, List.any_cons, List.any_nil, Bool.or_false, Bool.false_or, Bool.and_true, Bool.true_and, Bool.false_and, Bool.and_false, Bool.not_true, Bool.not_false, noList, noLists, leafys, Bool.false_eq_true, if_true, if_false, ite_true, ite_false, reduceIte, List.set_cons_zero, List.set_cons_succ, O.d, liftS, setN, doTg, doTgs, decide_true, decide_false, Nat.reduceLT, Nat.reduceBEq, Nat.reduceEqDiff, beq_self_eq_true, E__law_off_ps, E__law_off_io, E__law_put_ps, E__law_put_io, p__law_put c k m hkc (by have := hc.1; omega), p__law_off l ts t h _ (hcs m hm)]
    refine ⟨trivial, ?_⟩
    by_cases e : off l ts t (c.set k m) = 0 <;> simp [e, Res.sat]
  · rintro e ⟨x, rfl⟩
    have e1 : (rng l.prod.toNat).filter (fun m => decide (off l ts t (c.set k m) = 0)) = (rng l.prod.toNat).filter (fun m => m == (wantN l ts t c k : Int)) := by
      refine List.filter_congr fun m hm => ?_
      have hm := rng_mem.1 hm
      rw [← hN] at hm
      rw [Bool.eq_iff_iff]
      simp only [decide_eq_true_eq, beq_iff_eq]
      exact w2 m hm
    have e2 : (rng l.prod.toNat).count (wantN l ts t c k : Int) = 1 := by rw [(rng_nodup _).count, if_pos (rng_mem.2 ⟨by omega, by omega⟩)]
    rw [e1, List.filter_beq, e2]
    simp only [exs, ex1, den, denPs, denP, denEs, denC, denO, denI, bind_ok, st_okq, seq_next, seq_ret, lift_some, look0, lookS, asBool_ok, lift_none, and_ok, or_ok, Tgt.slots, wipeE, backE, keepV, Tgt.put, setMany, ds_map_vq, ds_nilq, filter_ff, rev_mapq, mkTup_v, mkTupF_1, mkTupF_2, mkTupF_3, mkLst_1, seqD_list, seqD_tuple, seqD_own, all_isV, rsat_ok, ssat_next, ssat_ret, Function.comp_apply, addV_int, rdIdx, elems_own, elems_list, elems_tup, Bool.true_or, List.length_map, List.isEmpty_nil, List.isEmpty_cons, isiD_tuple, isiD_list, mkTupF_nil, mkLst_nil, shaped_int, shaped_none, shaped_bool, shaped_Li, shaped_Ti, shaped_LLi, shaped_Lnil, shaped_Tnil, eqv_int, eqv_Li, eqv_Ti, eqv_LLi, eqv_Lnil, eqv_Tnil, bool2, List.isEmpty_map, List.getElem_map, Int.reduceLT, Int.reduceLE, leafys_ints, leafys_lis, two_str, eqv_sstr, mkTupF_xo, mkTupF_ox, mkTupF_oxx, mkTupF_xox, mkTupF_xxo, mkTupF_xt, mkTupF_tx, mkTupF_txx, mkTupF_xtx, mkTupF_xxt, mkLst_2, mkLst_3, mkLst_4, elems_tupT, elems_ownT, Bool.or_true, List.contains_cons, List.contains_nil, res1, resAll, resAll_nil, Option.map_some, Option.map_none, pr, pr1, pr2, int1, int2, intOf, oI, oB, Ev.data2, isNone, rdVar, mvVar, argO, argOs, lent, Ev.borrowed, endCall, Ev.finish, outOf, doCall, leafy, leafyOut, List.map_cons, List.map_nil, List.cons_append, List.nil_append, List.append_nil, List.length_cons, List.length_nil, List.getElem?_cons_zero, List.getElem?_cons_succ, Nat.reduceAdd, Nat.reduceSub, Nat.zero_add, List.replicate_succ, List.replicate_zero, List.any_cons, List.any_nil, Bool.or_false, Bool.false_or, Bool.and_true, Bool.true_and, Bool.false_and, Bool.and_false, Bool.not_true, Bool.not_false, noList, noLists, leafys, Bool.false_eq_true, if_true, if_false, ite_true, ite_false, reduceIte, List.set_cons_zero, List.set_cons_succ, O.d, liftS, setN, doTg, doTgs, decide_true, decide_false, Nat.reduceLT, Nat.reduceBEq, Nat.reduceEqDiff, beq_self_eq_true, elems, Bool.true_or, if_true, atI_lit0, and_self]
end Lw
set_option Elab.async false
set_option linter.all false
set_option maxRecDepth 100000
namespace Lw
open PySem PySem.Spec PyProof.Rows L2 Ev
/-! drawn numbers -/
def Gen (n : Nat) (g : O) : Prop := ∃ a b c : Int, g = .own [.v (.int a), .v (.int b), .v (.int c)] ∧ 0 ≤ a ∧ 0 ≤ b ∧ b < 2147483647 ∧ 0 ≤ c ∧ c ≤ n
theorem Gen.mono {n m : Nat} {g : O} (h : Gen n g) (hm : n ≤ m) : Gen m g := by
  obtain ⟨a, b, c, e, h1, h2, h3, h4, h5⟩ := h
  exact ⟨a, b, c, e, h1, h2, h3, h4, by omega⟩
theorem Gen.leafy {n : Nat} {g : O} (h : Gen n g) : leafy g = true := by
  obtain ⟨a, b, c, rfl, _⟩ := h; rfl
theorem ix30 : ixN 3 0 = some 0 := by decide
theorem ix31 : ixN 3 1 = some 1 := by decide
theorem ix32 : ixN 3 2 = some 2 := by decide
theorem bits30 {b : Int} (h0 : 0 < b) (h1 : b < 536870912) : (Builtin.Int.intBits b : Int) / 30 = 0 := by
  have hb : (b == 0) = false := by simp; omega
  have h2 : b.natAbs.log2 < 29 := (Nat.log2_lt (by omega)).2 (by omega)
  simp only [Builtin.Int.intBits, hb, if_false, Bool.false_eq_true]
  omega
theorem p__law_hash (s i : Int) (hs : 0 ≤ s) (hs1 : s < 2147483647) (hi : 0 ≤ i) (hi1 : i < 4611686018427387904) : ∃ r : Int, E__law_hash.sem [.v (.int s), .v (.int i)] = .ok (.v (.int r)) none := by
  refine ⟨?_, ?_⟩
  rotate_left
  · (rw [show E__law_hash.sem = S__law_hash from rfl, S__law_hash, runDef]; refine sat_fin ?_)
    have hi2 : i.natAbs < 18446744073709551616 := by omega
    have hm : ∀ z : Int, (z % 2147483629).natAbs < 18446744073709551616 := fun z => by omega
    simp only [S__law_hash, I__law_hash, L__law_hash, runDef, exs, ex1, den, denPs, denP, denEs, denC, denO, denI, bind_ok, st_okq, seq_next, seq_ret, lift_some, look0, lookS, asBool_ok, lift_none, and_ok, or_ok, Tgt.slots, wipeE, backE, keepV, Tgt.put, setMany, ds_map_vq, ds_nilq, filter_ff, rev_mapq, mkTup_v, mkTupF_1, mkTupF_2, mkTupF_3, mkLst_1, seqD_list, seqD_tuple, seqD_own, all_isV, rsat_ok, ssat_next, ssat_ret, Function.comp_apply, addV_int, rdIdx, elems_own, elems_list, elems_tup, Bool.true_or, List.length_map, List.isEmpty_nil, List.isEmpty_cons, isiD_tuple, isiD_list, mkTupF_nil, mkLst_nil, shaped_int, shaped_none, shaped_bool, shaped_Li, shaped_Ti, shaped_LLi, shaped_Lnil, shaped_Tnil, eqv_int, eqv_Li, eqv_Ti, eqv_LLi, eqv_Lnil, eqv_Tnil, bool2, List.isEmpty_map, List.getElem_map, Int.reduceLT, Int.reduceLE, leafys_ints, leafys_lis, two_str, eqv_sstr, mkTupF_xo, mkTupF_ox, mkTupF_oxx, mkTupF_xox, mkTupF_xxo, mkTupF_xt, mkTupF_tx, mkTupF_txx, mkTupF_xtx, mkTupF_xxt, mkLst_2, mkLst_3, mkLst_4, elems_tupT, elems_ownT, Bool.or_true, List.contains_cons, List.contains_nil, res1, resAll, resAll_nil, Option.map_some, Option.map_none, pr, pr1, pr2, int1, int2, intOf, oI, oB, Ev.data2, isNone, rdVar, mvVar, argO, argOs, lent, Ev.borrowed, endCall, Ev.finish, outOf, doCall, leafy, leafyOut, List.map_cons, List.map_nil, List.cons_append, List.nil_append, List.append_nil, List.length_cons, List.length_nil, List.getElem?_cons_zero, List.getElem?_cons_succ, Nat.reduceAdd, Nat.reduceSub, Nat.zero_add, List.replicate_succ, List.replicate_zero, List.any_cons, List.any_nil, Bool.or_false, Bool.false_or, Bool.and_true, Bool.true_and, Bool.false_and, Bool.and_false, Bool.not_true, Bool.not_false, noList, noLists, leafys, Bool.false_eq_true, if_true, if_false, ite_true, ite_false, reduceIte, List.set_cons_zero, List.set_cons_succ, O.d, liftS, setN, doTg, doTgs, decide_true, decide_false, Nat.reduceLT, Nat.reduceBEq, Nat.reduceEqDiff, beq_self_eq_true, mulV, mulOk_r hi2, mulOk_l hi2, mulOk_r (show (1140671 : Int).natAbs < 18446744073709551616 by decide), mulOk_r (show (48271 : Int).natAbs < 18446744073709551616 by decide), mulOk_l (hm _), and_true]
    rfl
theorem p__law_random (n : Nat) (g : O) (h : Gen n g) (hn : n < 1000000000000000000) (b : Int) (hb : 0 < b) (hb1 : b < 536870912) :
    ∃ (r : Int) (g' : O), E__law_random.sem [g, .v (.int b)] = .ok (.v (.int r)) (some g') ∧ 0 ≤ r ∧ r < b ∧ Gen (n + 1) g' := by
  obtain ⟨x, y, z, rfl, h1, h2, h3, h4, h5⟩ := h
  have hd : divOk b = true := divOk_q hb (by omega)
  by_cases hx : 0 < x
  · refine ⟨x % b, .own [.v (.int (x / b)), .v (.int y), .v (.int z)], ?_, Int.emod_nonneg _ (by omega), Int.emod_lt_of_pos _ hb, ⟨x / b, y, z, rfl, Int.ediv_nonneg h1 (by omega), h2, h3, h4, by omega⟩⟩
    (rw [show E__law_random.sem = S__law_random from rfl, S__law_random, runDef]; refine sat_fin ?_)
    simp only [S__law_random, I__law_random, L__law_random, runDef, exs, ex1, den, denPs, denP, denEs, denC, denO, denI, bind_ok, st_okq, seq_next, seq_ret, lift_some, look0, lookS, asBool_ok, lift_none, and_ok, or_ok, Tgt.slots, wipeE, backE, keepV, Tgt.put, setMany, ds_map_vq, ds_nilq, filter_ff, rev_mapq, mkTup_v, mkTupF_1, mkTupF_2, mkTupF_3, mkLst_1, seqD_list, seqD_tuple, seqD_own, all_isV, rsat_ok, ssat_next, ssat_ret, Function.comp_apply, addV_int, rdIdx, elems_own, elems_list, elems_tup, Bool.true_or, List.length_map, List.isEmpty_nil, List.isEmpty_cons, isiD_tuple, isiD_list, mkTupF_nil, mkLst_nil, shaped_int, shaped_none, shaped_bool, shaped_Li, shaped_Ti, shaped_LLi, shaped_Lnil, shaped_Tnil, eqv_int, eqv_Li, eqv_Ti, eqv_LLi, eqv_Lnil, eqv_Tnil, bool2, List.isEmpty_map, List.getElem_map, Int.reduceLT, Int.reduceLE, leafys_ints, leafys_lis, two_str, eqv_sstr, mkTupF_xo, mkTupF_ox, mkTupF_oxx, mkTupF_xox, mkTupF_xxo, mkTupF_xt, mkTupF_tx, mkTupF_txx, mkTupF_xtx, mkTupF_xxt, mkLst_2, mkLst_3, mkLst_4, elems_tupT, elems_ownT, Bool.or_true, List.contains_cons, List.contains_nil, res1, resAll, resAll_nil, Option.map_some, Option.map_none, pr, pr1, pr2, int1, int2, intOf, oI, oB, Ev.data2, isNone, rdVar, mvVar, argO, argOs, lent, Ev.borrowed, endCall, Ev.finish, outOf, doCall, leafy, leafyOut, List.map_cons, List.map_nil, List.cons_append, List.nil_append, List.append_nil, List.length_cons, List.length_nil, List.getElem?_cons_zero, List.getElem?_cons_succ, Nat.reduceAdd, Nat.reduceSub, Nat.zero_add, List.replicate_succ, List.replicate_zero, List.any_cons, List.any_nil, Bool.or_false, Bool.false_or, Bool.and_true, Bool.true_and, Bool.false_and, Bool.and_false, Bool.not_true, Bool.not_false, noList, noLists, leafys, Bool.false_eq_true, if_true, if_false, ite_true, ite_false, reduceIte, List.set_cons_zero, List.set_cons_succ, O.d, liftS, setN, doTg, doTgs, decide_true, decide_false, Nat.reduceLT, Nat.reduceBEq, Nat.reduceEqDiff, beq_self_eq_true, ix30, hx, hb, hd, setAt, and_self]
  · obtain ⟨w, hw⟩ := p__law_hash y (z + 1) h2 h3 (by omega) (by omega)
    refine ⟨w % b, .own [.v (.int x), .v (.int y), .v (.int (z + 1))], ?_, Int.emod_nonneg _ (by omega), Int.emod_lt_of_pos _ hb, ⟨x, y, z + 1, rfl, h1, h2, h3, by omega, by omega⟩⟩
    (rw [show E__law_random.sem = S__law_random from rfl, S__law_random, runDef]; refine sat_fin ?_)
    have h30 : divOk 30 = true := by decide
    have e1 : (1 : Int) + 0 = ((1 : Nat) : Int) := rfl
    have hmul : mulOk 0 2147483587 = true := by decide
    simp only [S__law_random, I__law_random, L__law_random, runDef, exs, ex1, den, denPs, denP, denEs, denC, denO, denI, bind_ok, st_okq, seq_next, seq_ret, lift_some, look0, lookS, asBool_ok, lift_none, and_ok, or_ok, Tgt.slots, wipeE, backE, keepV, Tgt.put, setMany, ds_map_vq, ds_nilq, filter_ff, rev_mapq, mkTup_v, mkTupF_1, mkTupF_2, mkTupF_3, mkLst_1, seqD_list, seqD_tuple, seqD_own, all_isV, rsat_ok, ssat_next, ssat_ret, Function.comp_apply, addV_int, rdIdx, elems_own, elems_list, elems_tup, Bool.true_or, List.length_map, List.isEmpty_nil, List.isEmpty_cons, isiD_tuple, isiD_list, mkTupF_nil, mkLst_nil, shaped_int, shaped_none, shaped_bool, shaped_Li, shaped_Ti, shaped_LLi, shaped_Lnil, shaped_Tnil, eqv_int, eqv_Li, eqv_Ti, eqv_LLi, eqv_Lnil, eqv_Tnil, bool2, List.isEmpty_map, List.getElem_map, Int.reduceLT, Int.reduceLE, leafys_ints, leafys_lis, two_str, eqv_sstr, mkTupF_xo, mkTupF_ox, mkTupF_oxx, mkTupF_xox, mkTupF_xxo, mkTupF_xt, mkTupF_tx, mkTupF_txx, mkTupF_xtx, mkTupF_xxt, mkLst_2, mkLst_3, mkLst_4, elems_tupT, elems_ownT, Bool.or_true, List.contains_cons, List.contains_nil, res1, resAll, resAll_nil, Option.map_some, Option.map_none, pr, pr1, pr2, int1, int2, intOf, oI, oB, Ev.data2, isNone, rdVar, mvVar, argO, argOs, lent, Ev.borrowed, endCall, Ev.finish, outOf, doCall, leafy, leafyOut, List.map_cons, List.map_nil, List.cons_append, List.nil_append, List.append_nil, List.length_cons, List.length_nil, List.getElem?_cons_zero, List.getElem?_cons_succ, Nat.reduceAdd, Nat.reduceSub, Nat.zero_add, List.replicate_succ, List.replicate_zero, List.any_cons, List.any_nil, Bool.or_false, Bool.false_or, Bool.and_true, Bool.true_and, Bool.false_and, Bool.and_false, Bool.not_true, Bool.not_false, noList, noLists, leafys, Bool.false_eq_true, if_true, if_false, ite_true, ite_false, reduceIte, List.set_cons_zero, List.set_cons_succ, O.d, liftS, setN, doTg, doTgs, decide_true, decide_false, Nat.reduceLT, Nat.reduceBEq, Nat.reduceEqDiff, beq_self_eq_true, E__law_hash_ps, E__law_hash_io, ix30, ix31, ix32, hx, hb, hd, h30, bits30 hb hb1, e1, rangeIt1 1 (by decide)]
    rw [show rangeD 0 1 1 = [PyData.int 0] from rfl]
    simp only [exs, ex1, den, denPs, denP, denEs, denC, denO, denI, bind_ok, st_okq, seq_next, seq_ret, lift_some, look0, lookS, asBool_ok, lift_none, and_ok, or_ok, Tgt.slots, wipeE, backE, keepV, Tgt.put, setMany, ds_map_vq, ds_nilq, filter_ff, rev_mapq, mkTup_v, mkTupF_1, mkTupF_2, mkTupF_3, mkLst_1, seqD_list, seqD_tuple, seqD_own, all_isV, rsat_ok, ssat_next, ssat_ret, Function.comp_apply, addV_int, rdIdx, elems_own, elems_list, elems_tup, Bool.true_or, List.length_map, List.isEmpty_nil, List.isEmpty_cons, isiD_tuple, isiD_list, mkTupF_nil, mkLst_nil, shaped_int, shaped_none, shaped_bool, shaped_Li, shaped_Ti, shaped_LLi, shaped_Lnil, shaped_Tnil, eqv_int, eqv_Li, eqv_Ti, eqv_LLi, eqv_Lnil, eqv_Tnil, bool2, List.isEmpty_map, List.getElem_map, Int.reduceLT, Int.reduceLE, leafys_ints, leafys_lis, two_str, eqv_sstr, mkTupF_xo, mkTupF_ox, mkTupF_oxx, mkTupF_xox, mkTupF_xxo, mkTupF_xt, mkTupF_tx, mkTupF_txx, mkTupF_xtx, mkTupF_xxt, mkLst_2, mkLst_3, mkLst_4, elems_tupT, elems_ownT, Bool.or_true, List.contains_cons, List.contains_nil, res1, resAll, resAll_nil, Option.map_some, Option.map_none, pr, pr1, pr2, int1, int2, intOf, oI, oB, Ev.data2, isNone, rdVar, mvVar, argO, argOs, lent, Ev.borrowed, endCall, Ev.finish, outOf, doCall, leafy, leafyOut, List.map_cons, List.map_nil, List.cons_append, List.nil_append, List.append_nil, List.length_cons, List.length_nil, List.getElem?_cons_zero, List.getElem?_cons_succ, Nat.reduceAdd, Nat.reduceSub, Nat.zero_add, List.replicate_succ, List.replicate_zero, List.any_cons, List.any_nil, Bool.or_false, Bool.false_or, Bool.and_true, Bool.true_and, Bool.false_and, Bool.and_false, Bool.not_true, Bool.not_false, noList, noLists, leafys, Bool.false_eq_true, if_true, if_false, ite_true, ite_false, reduceIte, List.set_cons_zero, List.set_cons_succ, O.d, liftS, setN, doTg, doTgs, decide_true, decide_false, Nat.reduceLT, Nat.reduceBEq, Nat.reduceEqDiff, beq_self_eq_true, forGo, putT, Tgt.put, E__law_hash_ps, E__law_hash_io, ix30, ix31, ix32, setAt, hw, mulV, hmul, Int.zero_mul, Int.zero_add, hb, and_self]
end Lw
set_option Elab.async false
set_option linter.all false
set_option maxRecDepth 100000
namespace Lw
open PySem PySem.Spec PyProof.Rows L2 Ev
theorem putT_io (i : Nat) (d : D) (e : Ve) (h : i + 1 < e.length) : putT true (.one (i + 1)) d e = some (e.set (i + 1) (some (.v d))) := by
  simp [putT, Tgt.put, Tgt.slots, h]
theorem intsOf_map : ∀ l : List Int, intsOf (l.map .int) = some l
  | [] => rfl
  | a :: l => by simp [intsOf, intsOf_map l]
theorem p__law_cell (ns : List Int) (k : Nat) : ∃ z : Int, E__law_cell.sem [.v (Li ns), .v (.int k)] = .ok (.v (.int z)) none := by
  by_cases hk : k < ns.length
  · refine ⟨ns[k], ?_⟩
    (rw [show E__law_cell.sem = S__law_cell from rfl, S__law_cell, runDef]; refine sat_fin ?_)
    have hk' : ((k : Nat) : Int) < (ns.length : Int) := by omega
    simp only [S__law_cell, I__law_cell, L__law_cell, runDef, exs, ex1, den, denPs, denP, denEs, denC, denO, denI, bind_ok, st_okq, seq_next, seq_ret, lift_some, look0, lookS, asBool_ok, lift_none, and_ok, or_ok, Tgt.slots, wipeE, backE, keepV, Tgt.put, setMany, ds_map_vq, ds_nilq, filter_ff, rev_mapq, mkTup_v, mkTupF_1, mkTupF_2, mkTupF_3, mkLst_1, seqD_list, seqD_tuple, seqD_own, all_isV, rsat_ok, ssat_next, ssat_ret, Function.comp_apply, addV_int, rdIdx, elems_own, elems_list, elems_tup, Bool.true_or, List.length_map, List.isEmpty_nil, List.isEmpty_cons, isiD_tuple, isiD_list, mkTupF_nil, mkLst_nil, shaped_int, shaped_none, shaped_bool, shaped_Li, shaped_Ti, shaped_LLi, shaped_Lnil, shaped_Tnil, eqv_int, eqv_Li, eqv_Ti, eqv_LLi, eqv_Lnil, eqv_Tnil, bool2, List.isEmpty_map, List.getElem_map, Int.reduceLT, Int.reduceLE, leafys_ints, leafys_lis, two_str, eqv_sstr, mkTupF_xo, mkTupF_ox, mkTupF_oxx, mkTupF_xox, mkTupF_xxo, mkTupF_xt, mkTupF_tx, mkTupF_txx, mkTupF_xtx, mkTupF_xxt, mkLst_2, mkLst_3, mkLst_4, elems_tupT, elems_ownT, Bool.or_true, List.contains_cons, List.contains_nil, res1, resAll, resAll_nil, Option.map_some, Option.map_none, pr, pr1, pr2, int1, int2, intOf, oI, oB, Ev.data2, isNone, rdVar, mvVar, argO, argOs, lent, Ev.borrowed, endCall, Ev.finish, outOf, doCall, leafy, leafyOut, List.map_cons, List.map_nil, List.cons_append, List.nil_append, List.append_nil, List.length_cons, List.length_nil, List.getElem?_cons_zero, List.getElem?_cons_succ, Nat.reduceAdd, Nat.reduceSub, Nat.zero_add, List.replicate_succ, List.replicate_zero, List.any_cons, List.any_nil, Bool.or_false, Bool.false_or, Bool.and_true, Bool.true_and, Bool.false_and, Bool.and_false, Bool.not_true, Bool.not_false, noList, noLists, leafys, Bool.false_eq_true, if_true, if_false, ite_true, ite_false, reduceIte, List.set_cons_zero, List.set_cons_succ, O.d, liftS, setN, doTg, doTgs, decide_true, decide_false, Nat.reduceLT, Nat.reduceBEq, Nat.reduceEqDiff, beq_self_eq_true, lenV, hk', atI_map, hk, and_self]
  · refine ⟨(ns.take 1).sum % 1000003, ?_⟩
    (rw [show E__law_cell.sem = S__law_cell from rfl, S__law_cell, runDef]; refine sat_fin ?_)
    have hk' : ¬ ((k : Nat) : Int) < (ns.length : Int) := by omega
    have hc := cut_lo (ns.map .int) 1
    rw [← List.map_take] at hc
    have hc : cutO (List.map O.v (List.map PyData.int ns)) none (some 1) = ((ns.take 1).map .int).map .v := hc
    simp only [S__law_cell, I__law_cell, L__law_cell, runDef, exs, ex1, den, denPs, denP, denEs, denC, denO, denI, bind_ok, st_okq, seq_next, seq_ret, lift_some, look0, lookS, asBool_ok, lift_none, and_ok, or_ok, Tgt.slots, wipeE, backE, keepV, Tgt.put, setMany, ds_map_vq, ds_nilq, filter_ff, rev_mapq, mkTup_v, mkTupF_1, mkTupF_2, mkTupF_3, mkLst_1, seqD_list, seqD_tuple, seqD_own, all_isV, rsat_ok, ssat_next, ssat_ret, Function.comp_apply, addV_int, rdIdx, elems_own, elems_list, elems_tup, Bool.true_or, List.length_map, List.isEmpty_nil, List.isEmpty_cons, isiD_tuple, isiD_list, mkTupF_nil, mkLst_nil, shaped_int, shaped_none, shaped_bool, shaped_Li, shaped_Ti, shaped_LLi, shaped_Lnil, shaped_Tnil, eqv_int, eqv_Li, eqv_Ti, eqv_LLi, eqv_Lnil, eqv_Tnil, bool2, List.isEmpty_map, List.getElem_map, Int.reduceLT, Int.reduceLE, leafys_ints, leafys_lis, two_str, eqv_sstr, mkTupF_xo, mkTupF_ox, mkTupF_oxx, mkTupF_xox, mkTupF_xxo, mkTupF_xt, mkTupF_tx, mkTupF_txx, mkTupF_xtx, mkTupF_xxt, mkLst_2, mkLst_3, mkLst_4, elems_tupT, elems_ownT, Bool.or_true, List.contains_cons, List.contains_nil, res1, resAll, resAll_nil, Option.map_some, Option.map_none, pr, pr1, pr2, int1, int2, intOf, oI, oB, Ev.data2, isNone, rdVar, mvVar, argO, argOs, lent, Ev.borrowed, endCall, Ev.finish, outOf, doCall, leafy, leafyOut, List.map_cons, List.map_nil, List.cons_append, List.nil_append, List.append_nil, List.length_cons, List.length_nil, List.getElem?_cons_zero, List.getElem?_cons_succ, Nat.reduceAdd, Nat.reduceSub, Nat.zero_add, List.replicate_succ, List.replicate_zero, List.any_cons, List.any_nil, Bool.or_false, Bool.false_or, Bool.and_true, Bool.true_and, Bool.false_and, Bool.and_false, Bool.not_true, Bool.not_false, noList, noLists, leafys, Bool.false_eq_true, if_true, if_false, ite_true, ite_false, reduceIte, List.set_cons_zero, List.set_cons_succ, O.d, liftS, setN, doTg, doTgs, decide_true, decide_false, Nat.reduceLT, Nat.reduceBEq, Nat.reduceEqDiff, beq_self_eq_true, lenV, hk', seqO, hc, intsOf_map, and_self]
theorem p__law_generator (ns : List Int) (k : Nat) (hk : k < 1000000) : ∃ g, E__law_generator.sem [.v (Li ns), .v (.int k)] = .ok g none ∧ Gen (1000 * k) g := by
  obtain ⟨z, hz⟩ := p__law_cell ns k
  have p1 : powOk 10 18 = true := by decide +kernel
  have p2 : powOk 10 60 = true := by decide +kernel
  have p3 : powOk (10 ^ (60 : Int).toNat) 10 = true := by decide +kernel
  have q1 : (0 : Int) < (10 ^ (60 : Int).toNat) ^ (10 : Int).toNat := by decide +kernel
  have m1 : mulOk 1000 k = true := mulOk_l (by decide)
  have f3 : ∀ a b c : O, mkLst [a, b, c] = some (.own [a, b, c]) := fun a b c => rfl
  refine ⟨.own [.v (.int ((if 0 > z - 10 ^ (18 : Int).toNat then 0 else z - 10 ^ (18 : Int).toNat) % (10 ^ (60 : Int).toNat) ^ (10 : Int).toNat)), .v (.int (z % 2147483647)), .v (.int (1000 * k))], ?_, _, _, _, rfl, Int.emod_nonneg _ (by omega), by omega, by omega, by omega, by omega⟩
  (rw [show E__law_generator.sem = S__law_generator from rfl, S__law_generator, runDef]; refine sat_fin ?_)
  simp only [S__law_generator, I__law_generator, L__law_generator, runDef, exs, ex1, den, denPs, denP, denEs, denC, denO, denI, bind_ok, st_okq, seq_next, seq_ret, lift_some, look0, lookS, asBool_ok, lift_none, and_ok, or_ok, Tgt.slots, wipeE, backE, keepV, Tgt.put, setMany, ds_map_vq, ds_nilq, filter_ff, rev_mapq, mkTup_v, mkTupF_1, mkTupF_2, mkTupF_3, mkLst_1, seqD_list, seqD_tuple, seqD_own, all_isV, rsat_ok, ssat_next, ssat_ret, Function.comp_apply, addV_int, rdIdx, elems_own, elems_list, elems_tup, Bool.true_or, List.length_map, List.isEmpty_nil, List.isEmpty_cons, isiD_tuple, isiD_list, mkTupF_nil, mkLst_nil, shaped_int, shaped_none, shaped_bool, shaped_Li, shaped_Ti, shaped_LLi, shaped_Lnil, shaped_Tnil, eqv_int, eqv_Li, eqv_Ti, eqv_LLi, eqv_Lnil, eqv_Tnil, bool2, List.isEmpty_map, List.getElem_map, Int.reduceLT, Int.reduceLE, leafys_ints, leafys_lis, two_str, eqv_sstr, mkTupF_xo, mkTupF_ox, mkTupF_oxx, mkTupF_xox, mkTupF_xxo, mkTupF_xt, mkTupF_tx, mkTupF_txx, mkTupF_xtx, mkTupF_xxt, mkLst_2, mkLst_3, mkLst_4, elems_tupT, elems_ownT, Bool.or_true, List.contains_cons, List.contains_nil, res1, resAll, resAll_nil, Option.map_some, Option.map_none, pr, pr1, pr2, int1, int2, intOf, oI, oB, Ev.data2, isNone, rdVar, mvVar, argO, argOs, lent, Ev.borrowed, endCall, Ev.finish, outOf, doCall, leafy, leafyOut, List.map_cons, List.map_nil, List.cons_append, List.nil_append, List.append_nil, List.length_cons, List.length_nil, List.getElem?_cons_zero, List.getElem?_cons_succ, Nat.reduceAdd, Nat.reduceSub, Nat.zero_add, List.replicate_succ, List.replicate_zero, List.any_cons, List.any_nil, Bool.or_false, Bool.false_or, Bool.and_true, Bool.true_and, Bool.false_and, Bool.and_false, Bool.not_true, Bool.not_false, noList, noLists, leafys, Bool.false_eq_true, if_true, if_false, ite_true, ite_false, reduceIte, List.set_cons_zero, List.set_cons_succ, O.d, liftS, setN, doTg, doTgs, decide_true, decide_false, Nat.reduceLT, Nat.reduceBEq, Nat.reduceEqDiff, beq_self_eq_true, E__law_cell_ps, E__law_cell_io, hz, p1, p2, p3, q1, m1, mulV, f3, and_self]
def ORD : List (List Int) := [[2], [3], [4], [2, 2], [5], [6], [2, 3], [7], [8], [2, 4], [2, 2, 2], [9], [3, 3], [10], [2, 5], [12]]
theorem ORD_ok : ∀ l ∈ ORD, Ords l ∧ l.prod ≤ 12 := by
  intro l hl
  simp only [ORD, List.mem_cons, List.not_mem_nil, or_false] at hl
  rcases hl with rfl | rfl | rfl | rfl | rfl | rfl | rfl | rfl | rfl | rfl | rfl | rfl | rfl | rfl | rfl | rfl <;> exact ⟨⟨by decide, by decide, by decide⟩, by decide⟩
theorem p__law_orders (n : Nat) (g : O) (h : Gen n g) (hn : n < 1000000000000000000) : ∃ l g', E__law_orders.sem [g] = .ok (.v (Ti l)) (some g') ∧ l ∈ ORD ∧ Gen (n + 1) g' := by
  obtain ⟨r, g', h1, h2, h3, h4⟩ := p__law_random n g h hn 16 (by decide) (by decide)
  obtain ⟨k, rfl⟩ := Int.eq_ofNat_of_zero_le h2
  have hk : k < ORD.length := by show k < 16; omega
  refine ⟨ORD[k], g', ?_, List.getElem_mem hk, h4⟩
  (rw [show E__law_orders.sem = S__law_orders from rfl, S__law_orders, runDef]; refine sat_fin ?_)
  have hf : ∀ a1 a2 a3 a4 a5 a6 a7 a8 a9 a10 a11 a12 a13 a14 a15 a16 : O, mkLst [a1, a2, a3, a4, a5, a6, a7, a8, a9, a10, a11, a12, a13, a14, a15, a16] = some (.own [a1, a2, a3, a4, a5, a6, a7, a8, a9, a10, a11, a12, a13, a14, a15, a16]) := by intros; rfl
  have e : ∀ f : List Int → O, (∀ l, f l = .v (Ti l)) → atI [f [2], f [3], f [4], f [2, 2], f [5], f [6], f [2, 3], f [7], f [8], f [2, 4], f [2, 2, 2], f [9], f [3, 3], f [10], f [2, 5], f [12]] (k : Int) = some (.v (Ti ORD[k])) := fun f hf => by
    rw [← hf]; exact atI_map f ORD k hk
  have e' := e (fun l => .v (Ti l)) fun _ => rfl
  simp only [Ti, List.map_cons, List.map_nil] at e'
  simp only [S__law_orders, I__law_orders, L__law_orders, runDef, exs, ex1, den, denPs, denP, denEs, denC, denO, denI, bind_ok, st_okq, seq_next, seq_ret, lift_some, look0, lookS, asBool_ok, lift_none, and_ok, or_ok, Tgt.slots, wipeE, backE, keepV, Tgt.put, setMany, ds_map_vq, ds_nilq, filter_ff, rev_mapq, mkTup_v, mkTupF_1, mkTupF_2, mkTupF_3, mkLst_1, seqD_list, seqD_tuple, seqD_own, all_isV, rsat_ok, ssat_next, ssat_ret, Function.comp_apply, addV_int, rdIdx, elems_own, elems_list, elems_tup, Bool.true_or, List.length_map, List.isEmpty_nil, List.isEmpty_cons, isiD_tuple, isiD_list, mkTupF_nil, mkLst_nil, shaped_int, shaped_none, shaped_bool, shaped_Li, shaped_Ti, shaped_LLi, shaped_Lnil, shaped_Tnil, eqv_int, eqv_Li, eqv_Ti, eqv_LLi, eqv_Lnil, eqv_Tnil, bool2, List.isEmpty_map, List.getElem_map, Int.reduceLT, Int.reduceLE, leafys_ints, leafys_lis, two_str, eqv_sstr, mkTupF_xo, mkTupF_ox, mkTupF_oxx, mkTupF_xox, mkTupF_xxo, mkTupF_xt, mkTupF_tx, mkTupF_txx, mkTupF_xtx, mkTupF_xxt, mkLst_2, mkLst_3, mkLst_4, elems_tupT, elems_ownT, Bool.or_true, List.contains_cons, List.contains_nil, res1, resAll, resAll_nil, Option.map_some, Option.map_none, pr, pr1, pr2, int1, int2, intOf, oI, oB, Ev.data2, isNone, rdVar, mvVar, argO, argOs, lent, Ev.borrowed, endCall, Ev.finish, outOf, doCall, leafy, leafyOut, List.map_cons, List.map_nil, List.cons_append, List.nil_append, List.append_nil, List.length_cons, List.length_nil, List.getElem?_cons_zero, List.getElem?_cons_succ, Nat.reduceAdd, Nat.reduceSub, Nat.zero_add, List.replicate_succ, List.replicate_zero, List.any_cons, List.any_nil, Bool.or_false, Bool.false_or, Bool.and_true, Bool.true_and, Bool.false_and, Bool.and_false, Bool.not_true, Bool.not_false, noList, noLists, leafys, Bool.false_eq_true, if_true, if_false, ite_true, ite_false, reduceIte, List.set_cons_zero, List.set_cons_succ, O.d, liftS, setN, doTg, doTgs, decide_true, decide_false, Nat.reduceLT, Nat.reduceBEq, Nat.reduceEqDiff, beq_self_eq_true, E__law_random_ps, E__law_random_io, h1, hf, elems, e', and_self]
end Lw
set_option Elab.async false
set_option linter.all false
set_option maxRecDepth 100000
namespace Lw
open PySem PySem.Spec PyProof.Rows L2 Ev
theorem seqIndex_nat (k n : Nat) (h : k < n) : seqIndex? (k : Int) n = some k := by
  have h1 : (k : Int) < (n : Int) := by omega
  simp [seqIndex?, h1, show ¬ ((k : Int) < 0) by omega]
theorem mag_nat (k : Nat) (h : k < 1000000000) : mag (k : Int) = true := mag_of (by omega)
theorem Sz' {n : Nat} (h : n < 16777216) : n < sizeLine := by rw [Sz]; exact h
theorem eraseIdx_mapq {α β : Type} (f : α → β) : ∀ (l : List α) (k : Nat), (l.map f).eraseIdx k = (l.eraseIdx k).map f
  | [], _ => rfl
  | _ :: _, 0 => rfl
  | a :: l, k + 1 => by simp only [List.map_cons, List.eraseIdx_cons_succ, eraseIdx_mapq f l k]
theorem eraseIdx_permq {α : Type} : ∀ (l : List α) (k : Nat) (h : k < l.length), (l[k] :: l.eraseIdx k).Perm l
  | [], _, h => by simp at h
  | _ :: _, 0, _ => List.Perm.refl _
  | a :: l, k + 1, h => by
    simp only [List.getElem_cons_succ, List.eraseIdx_cons_succ]
    exact (List.Perm.swap a _ _).trans (List.Perm.cons a (eraseIdx_permq l k (by simpa using h)))
theorem p__law_shuffled (n : Nat) (g : O) (h : Gen n g) (xs : List Int) (hx : xs.length < 100000) (hn : n + xs.length < 1000000000000000000) :
    ∃ ys g', E__law_shuffled.sem [g, .v (Li xs)] = .ok (OLi ys) (some g') ∧ ys.Perm xs ∧ Gen (n + xs.length) g' := by
  suffices hh : (E__law_shuffled.sem [g, .v (Li xs)]).sat fun o out => ∃ ys g', o = OLi ys ∧ out = some g' ∧ ys.Perm xs ∧ Gen (n + xs.length) g' by
    obtain ⟨o, out, e, ys, g', rfl, rfl, h1, h2⟩ := fsat_ex hh
    exact ⟨ys, g', e, h1, h2⟩
  rw [show E__law_shuffled.sem = S__law_shuffled from rfl, S__law_shuffled, runDef]
  refine fsat_fin ?_
  have f2 : ∀ l : List O, mkTupF [.own l, .own []] = some (.tup [.own l, .own []]) := fun l => by
    have e : ([O.own l, O.own []].all O.isV) = false := rfl
    simp [mkTupF, fits, mkTup, e, Sz]
  simp only [S__law_shuffled, I__law_shuffled, L__law_shuffled, runDef, exs, ex1, den, denPs, denP, denEs, denC, denO, denI, bind_ok, st_okq, seq_next, seq_ret, lift_some, look0, lookS, asBool_ok, lift_none, and_ok, or_ok, Tgt.slots, wipeE, backE, keepV, Tgt.put, setMany, ds_map_vq, ds_nilq, filter_ff, rev_mapq, mkTup_v, mkTupF_1, mkTupF_2, mkTupF_3, mkLst_1, seqD_list, seqD_tuple, seqD_own, all_isV, rsat_ok, ssat_next, ssat_ret, Function.comp_apply, addV_int, rdIdx, elems_own, elems_list, elems_tup, Bool.true_or, List.length_map, List.isEmpty_nil, List.isEmpty_cons, isiD_tuple, isiD_list, mkTupF_nil, mkLst_nil, shaped_int, shaped_none, shaped_bool, shaped_Li, shaped_Ti, shaped_LLi, shaped_Lnil, shaped_Tnil, eqv_int, eqv_Li, eqv_Ti, eqv_LLi, eqv_Lnil, eqv_Tnil, bool2, List.isEmpty_map, List.getElem_map, Int.reduceLT, Int.reduceLE, leafys_ints, leafys_lis, two_str, eqv_sstr, mkTupF_xo, mkTupF_ox, mkTupF_oxx, mkTupF_xox, mkTupF_xxo, mkTupF_xt, mkTupF_tx, mkTupF_txx, mkTupF_xtx, mkTupF_xxt, mkLst_2, mkLst_3, mkLst_4, elems_tupT, elems_ownT, Bool.or_true, List.contains_cons, List.contains_nil, res1, resAll, resAll_nil, Option.map_some, Option.map_none, pr, pr1, pr2, int1, int2, intOf, oI, oB, Ev.data2, isNone, rdVar, mvVar, argO, argOs, lent, Ev.borrowed, endCall, Ev.finish, outOf, doCall, leafy, leafyOut, List.map_cons, List.map_nil, List.cons_append, List.nil_append, List.append_nil, List.length_cons, List.length_nil, List.getElem?_cons_zero, List.getElem?_cons_succ, Nat.reduceAdd, Nat.reduceSub, Nat.zero_add, List.replicate_succ, List.replicate_zero, List.any_cons, List.any_nil, Bool.or_false, Bool.false_or, Bool.and_true, Bool.true_and, Bool.false_and, Bool.and_false, Bool.not_true, Bool.not_false, noList, noLists, leafys, Bool.false_eq_true, if_true, if_false, ite_true, ite_false, reduceIte, List.set_cons_zero, List.set_cons_succ, O.d, liftS, setN, doTg, doTgs, decide_true, decide_false, Nat.reduceLT, Nat.reduceBEq, Nat.reduceEqDiff, beq_self_eq_true, f2, elems]
  repeat (first | with_reducible refine sat_seq ?_ | with_reducible refine sat_st ?_ | with_reducible refine sat_bind ?_ | with_reducible refine sat_asBool ?_)
  refine sat_whl (fun m e => ∃ (g : O) (left found : List Int), e = [some g, some (.v (Li xs)), some (OLi left), some (OLi found)] ∧ left.length = m ∧ (found ++ left).Perm xs ∧ Gen (n + (xs.length - m)) g) xs.length fuel (by show xs.length < 1000000000000; omega) ⟨g, xs, [], rfl, rfl, by simp, by simpa using h⟩ ?_ ?_
  · rintro m e ⟨g, left, found, rfl, hm, hp, hg⟩
    have hle : m + 1 ≤ xs.length := by
      have := hp.length_eq; simp at this; omega
    have hne : left.isEmpty = false := by cases left with
      | nil => simp at hm
      | cons => rfl
    obtain ⟨r, g', e1, r0, r1, hg'⟩ := p__law_random _ g hg (by omega) (left.length : Int) (by omega) (by omega)
    obtain ⟨k, rfl⟩ := Int.eq_ofNat_of_zero_le r0
    have hk : k < left.length := by omega
    have hfl : found.length < 16777216 := by
      have := hp.length_eq; simp at this; omega
    have hfs := Sz' hfl
    refine ⟨_, by simp only [exs, ex1, den, denPs, denP, denEs, denC, denO, denI, bind_ok, st_okq, seq_next, seq_ret, lift_some, look0, lookS, asBool_ok, lift_none, and_ok, or_ok, Tgt.slots, wipeE, backE, keepV, Tgt.put, setMany, ds_map_vq, ds_nilq, filter_ff, rev_mapq, mkTup_v, mkTupF_1, mkTupF_2, mkTupF_3, mkLst_1, seqD_list, seqD_tuple, seqD_own, all_isV, rsat_ok, ssat_next, ssat_ret, Function.comp_apply, addV_int, rdIdx, elems_own, elems_list, elems_tup, Bool.true_or, List.length_map, List.isEmpty_nil, List.isEmpty_cons, isiD_tuple, isiD_list, mkTupF_nil, mkLst_nil, shaped_int, shaped_none, shaped_bool, shaped_Li, shaped_Ti, shaped_LLi, shaped_Lnil, shaped_Tnil, eqv_int, eqv_Li, eqv_Ti, eqv_LLi, eqv_Lnil, eqv_Tnil, bool2, List.isEmpty_map, List.getElem_map, Int.reduceLT, Int.reduceLE, leafys_ints, leafys_lis, two_str, eqv_sstr, mkTupF_xo, mkTupF_ox, mkTupF_oxx, mkTupF_xox, mkTupF_xxo, mkTupF_xt, mkTupF_tx, mkTupF_txx, mkTupF_xtx, mkTupF_xxt, mkLst_2, mkLst_3, mkLst_4, elems_tupT, elems_ownT, Bool.or_true, List.contains_cons, List.contains_nil, res1, resAll, resAll_nil, Option.map_some, Option.map_none, pr, pr1, pr2, int1, int2, intOf, oI, oB, Ev.data2, isNone, rdVar, mvVar, argO, argOs, lent, Ev.borrowed, endCall, Ev.finish, outOf, doCall, leafy, leafyOut, List.map_cons, List.map_nil, List.cons_append, List.nil_append, List.append_nil, List.length_cons, List.length_nil, List.getElem?_cons_zero, List.getElem?_cons_succ, Nat.reduceAdd, Nat.reduceSub, Nat.zero_add, List.replicate_succ, List.replicate_zero, List.any_cons, List.any_nil, Bool.or_false, Bool.false_or, Bool.and_true, Bool.true_and, Bool.false_and, Bool.and_false, Bool.not_true, Bool.not_false, noList, noLists, leafys, Bool.false_eq_true, if_true, if_false, ite_true, ite_false, reduceIte, List.set_cons_zero, List.set_cons_succ, O.d, liftS, setN, doTg, doTgs, decide_true, decide_false, Nat.reduceLT, Nat.reduceBEq, Nat.reduceEqDiff, beq_self_eq_true, hne]; rfl, ?_⟩
    simp only [exs, ex1, den, denPs, denP, denEs, denC, denO, denI, bind_ok, st_okq, seq_next, seq_ret, lift_some, look0, lookS, asBool_ok, lift_none, and_ok, or_ok, Tgt.slots, wipeE, backE, keepV, Tgt.put, setMany, ds_map_vq, ds_nilq, filter_ff, rev_mapq, mkTup_v, mkTupF_1, mkTupF_2, mkTupF_3, mkLst_1, seqD_list, seqD_tuple, seqD_own, all_isV, rsat_ok, ssat_next, ssat_ret, Function.comp_apply, addV_int, rdIdx, elems_own, elems_list, elems_tup, Bool.true_or, List.length_map, List.isEmpty_nil, List.isEmpty_cons, isiD_tuple, isiD_list, mkTupF_nil, mkLst_nil, shaped_int, shaped_none, shaped_bool, shaped_Li, shaped_Ti, shaped_LLi, shaped_Lnil, shaped_Tnil, eqv_int, eqv_Li, eqv_Ti, eqv_LLi, eqv_Lnil, eqv_Tnil, bool2, List.isEmpty_map, List.getElem_map, Int.reduceLT, Int.reduceLE, leafys_ints, leafys_lis, two_str, eqv_sstr, mkTupF_xo, mkTupF_ox, mkTupF_oxx, mkTupF_xox, mkTupF_xxo, mkTupF_xt, mkTupF_tx, mkTupF_txx, mkTupF_xtx, mkTupF_xxt, mkLst_2, mkLst_3, mkLst_4, elems_tupT, elems_ownT, Bool.or_true, List.contains_cons, List.contains_nil, res1, resAll, resAll_nil, Option.map_some, Option.map_none, pr, pr1, pr2, int1, int2, intOf, oI, oB, Ev.data2, isNone, rdVar, mvVar, argO, argOs, lent, Ev.borrowed, endCall, Ev.finish, outOf, doCall, leafy, leafyOut, List.map_cons, List.map_nil, List.cons_append, List.nil_append, List.append_nil, List.length_cons, List.length_nil, List.getElem?_cons_zero, List.getElem?_cons_succ, Nat.reduceAdd, Nat.reduceSub, Nat.zero_add, List.replicate_succ, List.replicate_zero, List.any_cons, List.any_nil, Bool.or_false, Bool.false_or, Bool.and_true, Bool.true_and, Bool.false_and, Bool.and_false, Bool.not_true, Bool.not_false, noList, noLists, leafys, Bool.false_eq_true, if_true, if_false, ite_true, ite_false, reduceIte, List.set_cons_zero, List.set_cons_succ, O.d, liftS, setN, doTg, doTgs, decide_true, decide_false, Nat.reduceLT, Nat.reduceBEq, Nat.reduceEqDiff, beq_self_eq_true, E__law_random_ps, E__law_random_io, lenV, e1, mag_nat k (by omega), seqIndex_nat k _ hk, List.getElem?_map, List.getElem?_eq_getElem hk, hfs, decide_true]
    refine ⟨g', left.eraseIdx k, found ++ [left[k]], ?_, ?_, ?_, ?_⟩
    · rw [eraseIdx_mapq, eraseIdx_mapq]; simp
    · rw [List.length_eraseIdx_of_lt hk]; omega
    · refine List.Perm.trans ?_ hp
      rw [List.append_assoc]
      exact List.Perm.append_left found (eraseIdx_permq left k hk)
    · rw [show n + (xs.length - m) = n + (xs.length - (m + 1)) + 1 by omega]; exact hg'
  · rintro e ⟨g, left, found, rfl, hm, hp, hg⟩
    have hl : left = [] := List.length_eq_zero_iff.1 hm
    subst hl
    refine ⟨_, by simp only [exs, ex1, den, denPs, denP, denEs, denC, denO, denI, bind_ok, st_okq, seq_next, seq_ret, lift_some, look0, lookS, asBool_ok, lift_none, and_ok, or_ok, Tgt.slots, wipeE, backE, keepV, Tgt.put, setMany, ds_map_vq, ds_nilq, filter_ff, rev_mapq, mkTup_v, mkTupF_1, mkTupF_2, mkTupF_3, mkLst_1, seqD_list, seqD_tuple, seqD_own, all_isV, rsat_ok, ssat_next, ssat_ret, Function.comp_apply, addV_int, rdIdx, elems_own, elems_list, elems_tup, Bool.true_or, List.length_map, List.isEmpty_nil, List.isEmpty_cons, isiD_tuple, isiD_list, mkTupF_nil, mkLst_nil, shaped_int, shaped_none, shaped_bool, shaped_Li, shaped_Ti, shaped_LLi, shaped_Lnil, shaped_Tnil, eqv_int, eqv_Li, eqv_Ti, eqv_LLi, eqv_Lnil, eqv_Tnil, bool2, List.isEmpty_map, List.getElem_map, Int.reduceLT, Int.reduceLE, leafys_ints, leafys_lis, two_str, eqv_sstr, mkTupF_xo, mkTupF_ox, mkTupF_oxx, mkTupF_xox, mkTupF_xxo, mkTupF_xt, mkTupF_tx, mkTupF_txx, mkTupF_xtx, mkTupF_xxt, mkLst_2, mkLst_3, mkLst_4, elems_tupT, elems_ownT, Bool.or_true, List.contains_cons, List.contains_nil, res1, resAll, resAll_nil, Option.map_some, Option.map_none, pr, pr1, pr2, int1, int2, intOf, oI, oB, Ev.data2, isNone, rdVar, mvVar, argO, argOs, lent, Ev.borrowed, endCall, Ev.finish, outOf, doCall, leafy, leafyOut, List.map_cons, List.map_nil, List.cons_append, List.nil_append, List.append_nil, List.length_cons, List.length_nil, List.getElem?_cons_zero, List.getElem?_cons_succ, Nat.reduceAdd, Nat.reduceSub, Nat.zero_add, List.replicate_succ, List.replicate_zero, List.any_cons, List.any_nil, Bool.or_false, Bool.false_or, Bool.and_true, Bool.true_and, Bool.false_and, Bool.and_false, Bool.not_true, Bool.not_false, noList, noLists, leafys, Bool.false_eq_true, if_true, if_false, ite_true, ite_false, reduceIte, List.set_cons_zero, List.set_cons_succ, O.d, liftS, setN, doTg, doTgs, decide_true, decide_false, Nat.reduceLT, Nat.reduceBEq, Nat.reduceEqDiff, beq_self_eq_true]; rfl, ?_⟩
    simp only [exs, ex1, den, denPs, denP, denEs, denC, denO, denI, bind_ok, st_okq, seq_next, seq_ret, lift_some, look0, lookS, asBool_ok, lift_none, and_ok, or_ok, Tgt.slots, wipeE, backE, keepV, Tgt.put, setMany, ds_map_vq, ds_nilq, filter_ff, rev_mapq, mkTup_v, mkTupF_1, mkTupF_2, mkTupF_3, mkLst_1, seqD_list, seqD_tuple, seqD_own, all_isV, rsat_ok, ssat_next, ssat_ret, Function.comp_apply, addV_int, rdIdx, elems_own, elems_list, elems_tup, Bool.true_or, List.length_map, List.isEmpty_nil, List.isEmpty_cons, isiD_tuple, isiD_list, mkTupF_nil, mkLst_nil, shaped_int, shaped_none, shaped_bool, shaped_Li, shaped_Ti, shaped_LLi, shaped_Lnil, shaped_Tnil, eqv_int, eqv_Li, eqv_Ti, eqv_LLi, eqv_Lnil, eqv_Tnil, bool2, List.isEmpty_map, List.getElem_map, Int.reduceLT, Int.reduceLE, leafys_ints, leafys_lis, two_str, eqv_sstr, mkTupF_xo, mkTupF_ox, mkTupF_oxx, mkTupF_xox, mkTupF_xxo, mkTupF_xt, mkTupF_tx, mkTupF_txx, mkTupF_xtx, mkTupF_xxt, mkLst_2, mkLst_3, mkLst_4, elems_tupT, elems_ownT, Bool.or_true, List.contains_cons, List.contains_nil, res1, resAll, resAll_nil, Option.map_some, Option.map_none, pr, pr1, pr2, int1, int2, intOf, oI, oB, Ev.data2, isNone, rdVar, mvVar, argO, argOs, lent, Ev.borrowed, endCall, Ev.finish, outOf, doCall, leafy, leafyOut, List.map_cons, List.map_nil, List.cons_append, List.nil_append, List.append_nil, List.length_cons, List.length_nil, List.getElem?_cons_zero, List.getElem?_cons_succ, Nat.reduceAdd, Nat.reduceSub, Nat.zero_add, List.replicate_succ, List.replicate_zero, List.any_cons, List.any_nil, Bool.or_false, Bool.false_or, Bool.and_true, Bool.true_and, Bool.false_and, Bool.and_false, Bool.not_true, Bool.not_false, noList, noLists, leafys, Bool.false_eq_true, if_true, if_false, ite_true, ite_false, reduceIte, List.set_cons_zero, List.set_cons_succ, O.d, liftS, setN, doTg, doTgs, decide_true, decide_false, Nat.reduceLT, Nat.reduceBEq, Nat.reduceEqDiff, beq_self_eq_true]
    exact ⟨found, g, rfl, rfl, by simpa using hp, by simpa using hg⟩
end Lw
set_option Elab.async false
set_option linter.all false
set_option maxRecDepth 100000
namespace Lw
open PySem PySem.Spec PyProof.Rows L2 Ev
/-- a system as it is drawn: its rows are its own -/
abbrev OSy (l : List Int) (ts : List (List Int)) (t : Int) : O := .tup [.v (Ti l), .own (ts.map OLi), .v (.int t)]
theorem OSy_d (l : List Int) (ts : List (List Int)) (t : Int) : (OSy l ts t).d = Sy l ts t := by
  simp only [O.d, O.ds, ds_OLi]
theorem mkTupF_sys (l : List Int) (rs : List O) (t : Int) : mkTupF [.v (Ti l), .own rs, .v (.int t)] = some (.tup [.v (Ti l), .own rs, .v (.int t)]) := by
  have e : ([O.v (Ti l), O.own rs, O.v (.int t)].all O.isV) = false := rfl
  simp [mkTupF, fits, mkTup, e, Sz]
theorem prod_pos' {l : List Int} (h : Ords l) : 2 ≤ l.prod := prod_ge2 h.1 fun z hz => (h.2.2 z hz).1
theorem p__law_system (n : Nat) (g : O) (h : Gen n g) (l : List Int) (hl : Ords l) (hp : l.prod < 100) (w : Nat) (hw2 : 2 ≤ w) (hw : w < 1000) (hn : n < 1000000000000) :
    ∃ ts t g', E__law_system.sem [g, .v (Ti l), .v (.int w)] = .ok (OSy l ts t) (some g') ∧ Sys l ts t ∧ ts.length = w ∧ Gen (n + w * 100 + 1) g' := by
  have h2 := prod_pos' hl
  obtain ⟨N, hN⟩ := Int.eq_ofNat_of_zero_le (show 0 ≤ l.prod by omega)
  suffices hh : (E__law_system.sem [g, .v (Ti l), .v (.int w)]).sat fun o out => ∃ ts t g', o = OSy l ts t ∧ out = some g' ∧ Sys l ts t ∧ ts.length = w ∧ Gen (n + w * 100 + 1) g' by
    obtain ⟨o, out, e, ts, t, g', rfl, rfl, h1, h2, h3⟩ := fsat_ex hh
    exact ⟨ts, t, g', e, h1, h2, h3⟩
  rw [show E__law_system.sem = S__law_system from rfl, S__law_system, runDef]
  refine fsat_fin ?_
  simp only [S__law_system, I__law_system, L__law_system, runDef, exs, ex1, den, denPs, denP, denEs, denC, denO, denI, bind_ok, st_okq, seq_next, seq_ret, lift_some, look0, lookS, asBool_ok, lift_none, and_ok, or_ok, Tgt.slots, wipeE, backE, keepV, Tgt.put, setMany, ds_map_vq, ds_nilq, filter_ff, rev_mapq, mkTup_v, mkTupF_1, mkTupF_2, mkTupF_3, mkLst_1, seqD_list, seqD_tuple, seqD_own, all_isV, rsat_ok, ssat_next, ssat_ret, Function.comp_apply, addV_int, rdIdx, elems_own, elems_list, elems_tup, Bool.true_or, List.length_map, List.isEmpty_nil, List.isEmpty_cons, isiD_tuple, isiD_list, mkTupF_nil, mkLst_nil, shaped_int, shaped_none, shaped_bool, shaped_Li, shaped_Ti, shaped_LLi, shaped_Lnil, shaped_Tnil, eqv_int, eqv_Li, eqv_Ti, eqv_LLi, eqv_Lnil, eqv_Tnil, bool2, List.isEmpty_map, List.getElem_map, Int.reduceLT, Int.reduceLE, leafys_ints, leafys_lis, two_str, eqv_sstr, mkTupF_xo, mkTupF_ox, mkTupF_oxx, mkTupF_xox, mkTupF_xxo, mkTupF_xt, mkTupF_tx, mkTupF_txx, mkTupF_xtx, mkTupF_xxt, mkLst_2, mkLst_3, mkLst_4, elems_tupT, elems_ownT, Bool.or_true, List.contains_cons, List.contains_nil, res1, resAll, resAll_nil, Option.map_some, Option.map_none, pr, pr1, pr2, int1, int2, intOf, oI, oB, Ev.data2, isNone, rdVar, mvVar, argO, argOs, lent, Ev.borrowed, endCall, Ev.finish, outOf, doCall, leafy, leafyOut, List.map_cons, List.map_nil, List.cons_append, List.nil_append, List.append_nil, List.length_cons, List.length_nil, List.getElem?_cons_zero, List.getElem?_cons_succ, Nat.reduceAdd, Nat.reduceSub, Nat.zero_add, List.replicate_succ, List.replicate_zero, List.any_cons, List.any_nil, Bool.or_false, Bool.false_or, Bool.and_true, Bool.true_and, Bool.false_and, Bool.and_false, Bool.not_true, Bool.not_false, noList, noLists, leafys, Bool.false_eq_true, if_true, if_false, ite_true, ite_false, reduceIte, List.set_cons_zero, List.set_cons_succ, O.d, liftS, setN, doTg, doTgs, decide_true, decide_false, Nat.reduceLT, Nat.reduceBEq, Nat.reduceEqDiff, beq_self_eq_true, E__law_size_ps, E__law_size_io, p__law_size l hl.sm, rangeIt1 w (by omega)]
  repeat (first | with_reducible refine sat_seq ?_ | with_reducible refine sat_st ?_ | with_reducible refine sat_bind ?_ | with_reducible refine sat_asBool ?_)
  refine sat_compI (fun k os e => ∃ (g : O) (ts : List (List Int)) (x : Option O), os = ts.map OLi ∧ e = [some g, some (.v (Ti l)), some (.v (.int w)), some (.v (.int l.prod)), x] ∧ ts.length = k ∧ (∀ r ∈ ts, r.Perm (rng N)) ∧ Gen (n + k * 100) g) ⟨g, [], _, rfl, rfl, rfl, by simp, by simpa using h⟩ (by simp only [rangeD_len, Sz]; omega) ?_ ?_
  · rintro k hk os e ⟨g, ts, x, rfl, rfl, hk1, hr, hg⟩
    have hk' : k < w := by simpa [rangeD_len] using hk
    obtain ⟨ys, g', e1, hp1, hg'⟩ := p__law_shuffled _ g hg (rng N) (by rw [rng_len]; omega) (by rw [rng_len]; omega)
    refine ⟨_, by rw [rangeD_get]; rfl, ?_⟩
    have hro : rangeO 0 l.prod = ((rng N).map .int).map .v := by rw [rangeO_rng, hN]; rfl
    simp only [exs, ex1, den, denPs, denP, denEs, denC, denO, denI, bind_ok, st_okq, seq_next, seq_ret, lift_some, look0, lookS, asBool_ok, lift_none, and_ok, or_ok, Tgt.slots, wipeE, backE, keepV, Tgt.put, setMany, ds_map_vq, ds_nilq, filter_ff, rev_mapq, mkTup_v, mkTupF_1, mkTupF_2, mkTupF_3, mkLst_1, seqD_list, seqD_tuple, seqD_own, all_isV, rsat_ok, ssat_next, ssat_ret, Function.comp_apply, addV_int, rdIdx, elems_own, elems_list, elems_tup, Bool.true_or, List.length_map, List.isEmpty_nil, List.isEmpty_cons, isiD_tuple, isiD_list, mkTupF_nil, mkLst_nil, shaped_int, shaped_none, shaped_bool, shaped_Li, shaped_Ti, shaped_LLi, shaped_Lnil, shaped_Tnil, eqv_int, eqv_Li, eqv_Ti, eqv_LLi, eqv_Lnil, eqv_Tnil, bool2, List.isEmpty_map, List.getElem_map, Int.reduceLT, Int.reduceLE, leafys_ints, leafys_lis, two_str, eqv_sstr, mkTupF_xo, mkTupF_ox, mkTupF_oxx, mkTupF_xox, mkTupF_xxo, mkTupF_xt, mkTupF_tx, mkTupF_txx, mkTupF_xtx, mkTupF_xxt, mkLst_2, mkLst_3, mkLst_4, elems_tupT, elems_ownT, Bool.or_true, List.contains_cons, List.contains_nil, res1, resAll, resAll_nil, Option.map_some, Option.map_none, pr, pr1, pr2, int1, int2, intOf, oI, oB, Ev.data2, isNone, rdVar, mvVar, argO, argOs, lent, Ev.borrowed, endCall, Ev.finish, outOf, doCall, leafy, leafyOut, List.map_cons, List.map_nil, List.cons_append, List.nil_append, List.append_nil, List.length_cons, List.length_nil, List.getElem?_cons_zero, List.getElem?_cons_succ, Nat.reduceAdd, Nat.reduceSub, Nat.zero_add, List.replicate_succ, List.replicate_zero, List.any_cons, List.any_nil, Bool.or_false, Bool.false_or, Bool.and_true, Bool.true_and, Bool.false_and, Bool.and_false, Bool.not_true, Bool.not_false, noList, noLists, leafys, Bool.false_eq_true, if_true, if_false, ite_true, ite_false, reduceIte, List.set_cons_zero, List.set_cons_succ, O.d, liftS, setN, doTg, doTgs, decide_true, decide_false, Nat.reduceLT, Nat.reduceBEq, Nat.reduceEqDiff, beq_self_eq_true, E__law_shuffled_ps, E__law_shuffled_io, rgOk_0 (show 0 ≤ l.prod by omega) (show l.prod < 1000000 by omega), hro, e1, true_and]
    refine ⟨g', ts ++ [ys], _, by simp, rfl, by simp [hk1], ?_, ?_⟩
    · intro r hr1
      rcases List.mem_append.1 hr1 with q | q
      · exact hr r q
      · rw [List.mem_singleton.1 q]; exact hp1
    · rw [rng_len] at hg'
      exact hg'.mono (by omega)
  · rintro os e ⟨g, ts, x, rfl, rfl, hk1, hr, hg⟩
    rw [rangeD_len] at hk1 hg
    obtain ⟨r, g', e1, r0, r1, hg'⟩ := p__law_random _ g hg (by omega) l.prod (by omega) (by omega)
    simp only [exs, ex1, den, denPs, denP, denEs, denC, denO, denI, bind_ok, st_okq, seq_next, seq_ret, lift_some, look0, lookS, asBool_ok, lift_none, and_ok, or_ok, Tgt.slots, wipeE, backE, keepV, Tgt.put, setMany, ds_map_vq, ds_nilq, filter_ff, rev_mapq, mkTup_v, mkTupF_1, mkTupF_2, mkTupF_3, mkLst_1, seqD_list, seqD_tuple, seqD_own, all_isV, rsat_ok, ssat_next, ssat_ret, Function.comp_apply, addV_int, rdIdx, elems_own, elems_list, elems_tup, Bool.true_or, List.length_map, List.isEmpty_nil, List.isEmpty_cons, isiD_tuple, isiD_list, mkTupF_nil, mkLst_nil, shaped_int, shaped_none, shaped_bool, shaped_Li, shaped_Ti, shaped_LLi, shaped_Lnil, shaped_Tnil, eqv_int, eqv_Li, eqv_Ti, eqv_LLi, eqv_Lnil, eqv_Tnil, bool2, List.isEmpty_map, List.getElem_map, Int.reduceLT, Int.reduceLE, leafys_ints, leafys_lis, two_str, eqv_sstr, mkTupF_xo, mkTupF_ox, mkTupF_oxx, mkTupF_xox, mkTupF_xxo, mkTupF_xt, mkTupF_tx, mkTupF_txx, mkTupF_xtx, mkTupF_xxt, mkLst_2, mkLst_3, mkLst_4, elems_tupT, elems_ownT, Bool.or_true, List.contains_cons, List.contains_nil, res1, resAll, resAll_nil, Option.map_some, Option.map_none, pr, pr1, pr2, int1, int2, intOf, oI, oB, Ev.data2, isNone, rdVar, mvVar, argO, argOs, lent, Ev.borrowed, endCall, Ev.finish, outOf, doCall, leafy, leafyOut, List.map_cons, List.map_nil, List.cons_append, List.nil_append, List.append_nil, List.length_cons, List.length_nil, List.getElem?_cons_zero, List.getElem?_cons_succ, Nat.reduceAdd, Nat.reduceSub, Nat.zero_add, List.replicate_succ, List.replicate_zero, List.any_cons, List.any_nil, Bool.or_false, Bool.false_or, Bool.and_true, Bool.true_and, Bool.false_and, Bool.and_false, Bool.not_true, Bool.not_false, noList, noLists, leafys, Bool.false_eq_true, if_true, if_false, ite_true, ite_false, reduceIte, List.set_cons_zero, List.set_cons_succ, O.d, liftS, setN, doTg, doTgs, decide_true, decide_false, Nat.reduceLT, Nat.reduceBEq, Nat.reduceEqDiff, beq_self_eq_true, E__law_random_ps, E__law_random_io, e1, mkTupF_sys]
    refine ⟨ts, r, g', rfl, rfl, ⟨hl, by omega, by omega, by omega, ?_, r0, r1⟩, hk1, hg'⟩
    rw [hN]; exact hr
theorem p__law_code (n : Nat) (g : O) (h : Gen n g) (l : List Int) (ts : List (List Int)) (t : Int) (hs : Sys l ts t) (hn : n < 1000000000000) :
    ∃ c g', E__law_code.sem [g, .v (Sy l ts t)] = .ok (OLi c) (some g') ∧ Code l ts c ∧ Gen (n + ts.length) g' := by
  suffices hh : (E__law_code.sem [g, .v (Sy l ts t)]).sat fun o out => ∃ c g', o = OLi c ∧ out = some g' ∧ Code l ts c ∧ Gen (n + ts.length) g' by
    obtain ⟨o, out, e, c, g', rfl, rfl, h1, h2⟩ := fsat_ex hh
    exact ⟨c, g', e, h1, h2⟩
  rw [show E__law_code.sem = S__law_code from rfl, S__law_code, runDef]
  refine fsat_fin ?_
  have h2 := hs.two
  have hp := hs.p
  have hw := hs.w
  simp only [S__law_code, I__law_code, L__law_code, runDef, exs, ex1, den, denPs, denP, denEs, denC, denO, denI, bind_ok, st_okq, seq_next, seq_ret, lift_some, look0, lookS, asBool_ok, lift_none, and_ok, or_ok, Tgt.slots, wipeE, backE, keepV, Tgt.put, setMany, ds_map_vq, ds_nilq, filter_ff, rev_mapq, mkTup_v, mkTupF_1, mkTupF_2, mkTupF_3, mkLst_1, seqD_list, seqD_tuple, seqD_own, all_isV, rsat_ok, ssat_next, ssat_ret, Function.comp_apply, addV_int, rdIdx, elems_own, elems_list, elems_tup, Bool.true_or, List.length_map, List.isEmpty_nil, List.isEmpty_cons, isiD_tuple, isiD_list, mkTupF_nil, mkLst_nil, shaped_int, shaped_none, shaped_bool, shaped_Li, shaped_Ti, shaped_LLi, shaped_Lnil, shaped_Tnil, eqv_int, eqv_Li, eqv_Ti, eqv_LLi, eqv_Lnil, eqv_Tnil, bool2, List.isEmpty_map, List.getElem_map, Int.reduceLT, Int.reduceLE, leafys_ints, leafys_lis, two_str, eqv_sstr, mkTupF_xo, mkTupF_ox, mkTupF_oxx, mkTupF_xox, mkTupF_xxo, mkTupF_xt, mkTupF_tx, mkTupF_txx, mkTupF_xtx, mkTupF_xxt, mkLst_2, mkLst_3, mkLst_4, elems_tupT, elems_ownT, Bool.or_true, List.contains_cons, List.contains_nil, res1, resAll, resAll_nil, Option.map_some, Option.map_none, pr, pr1, pr2, int1, int2, intOf, oI, oB, Ev.data2, isNone, rdVar, mvVar, argO, argOs, lent, Ev.borrowed, endCall, Ev.finish, outOf, doCall, leafy, leafyOut, List.map_cons, List.map_nil, List.cons_append, List.nil_append, List.append_nil, List.length_cons, List.length_nil, List.getElem?_cons_zero, List.getElem?_cons_succ, Nat.reduceAdd, Nat.reduceSub, Nat.zero_add, List.replicate_succ, List.replicate_zero, List.any_cons, List.any_nil, Bool.or_false, Bool.false_or, Bool.and_true, Bool.true_and, Bool.false_and, Bool.and_false, Bool.not_true, Bool.not_false, noList, noLists, leafys, Bool.false_eq_true, if_true, if_false, ite_true, ite_false, reduceIte, List.set_cons_zero, List.set_cons_succ, O.d, liftS, setN, doTg, doTgs, decide_true, decide_false, Nat.reduceLT, Nat.reduceBEq, Nat.reduceEqDiff, beq_self_eq_true, atI_lit1]
  repeat (first | with_reducible refine sat_seq ?_ | with_reducible refine sat_st ?_ | with_reducible refine sat_bind ?_ | with_reducible refine sat_asBool ?_)
  refine sat_compI (fun k os e => ∃ (g : O) (c : List Int) (x : Option O), os = (c.map .int).map .v ∧ e = [some g, some (.v (Sy l ts t)), x] ∧ c.length = k ∧ (∀ x ∈ c, 0 ≤ x ∧ x < l.prod) ∧ Gen (n + k) g) ⟨g, [], _, rfl, rfl, rfl, by simp, by simpa using h⟩ (by simp only [List.length_map, Sz]; omega) ?_ ?_
  · rintro k hk os e ⟨g, c, x, rfl, rfl, hk1, hr, hg⟩
    have hk' : k < ts.length := by simpa using hk
    obtain ⟨r, g', e1, r0, r1, hg'⟩ := p__law_random _ g hg (by omega) l.prod (by omega) (by omega)
    refine ⟨_, rfl, ?_⟩
    simp only [exs, ex1, den, denPs, denP, denEs, denC, denO, denI, bind_ok, st_okq, seq_next, seq_ret, lift_some, look0, lookS, asBool_ok, lift_none, and_ok, or_ok, Tgt.slots, wipeE, backE, keepV, Tgt.put, setMany, ds_map_vq, ds_nilq, filter_ff, rev_mapq, mkTup_v, mkTupF_1, mkTupF_2, mkTupF_3, mkLst_1, seqD_list, seqD_tuple, seqD_own, all_isV, rsat_ok, ssat_next, ssat_ret, Function.comp_apply, addV_int, rdIdx, elems_own, elems_list, elems_tup, Bool.true_or, List.length_map, List.isEmpty_nil, List.isEmpty_cons, isiD_tuple, isiD_list, mkTupF_nil, mkLst_nil, shaped_int, shaped_none, shaped_bool, shaped_Li, shaped_Ti, shaped_LLi, shaped_Lnil, shaped_Tnil, eqv_int, eqv_Li, eqv_Ti, eqv_LLi, eqv_Lnil, eqv_Tnil, bool2, List.isEmpty_map, List.getElem_map, Int.reduceLT, Int.reduceLE, leafys_ints, leafys_lis, two_str, eqv_sstr, mkTupF_xo, mkTupF_ox, mkTupF_oxx, mkTupF_xox, mkTupF_xxo, mkTupF_xt, mkTupF_tx, mkTupF_txx, mkTupF_xtx, mkTupF_xxt, mkLst_2, mkLst_3, mkLst_4, elems_tupT, elems_ownT, Bool.or_true, List.contains_cons, List.contains_nil, res1, resAll, resAll_nil, Option.map_some, Option.map_none, pr, pr1, pr2, int1, int2, intOf, oI, oB, Ev.data2, isNone, rdVar, mvVar, argO, argOs, lent, Ev.borrowed, endCall, Ev.finish, outOf, doCall, leafy, leafyOut, List.map_cons, List.map_nil, List.cons_append, List.nil_append, List.append_nil, List.length_cons, List.length_nil, List.getElem?_cons_zero, List.getElem?_cons_succ, Nat.reduceAdd, Nat.reduceSub, Nat.zero_add, List.replicate_succ, List.replicate_zero, List.any_cons, List.any_nil, Bool.or_false, Bool.false_or, Bool.and_true, Bool.true_and, Bool.false_and, Bool.and_false, Bool.not_true, Bool.not_false, noList, noLists, leafys, Bool.false_eq_true, if_true, if_false, ite_true, ite_false, reduceIte, List.set_cons_zero, List.set_cons_succ, O.d, liftS, setN, doTg, doTgs, decide_true, decide_false, Nat.reduceLT, Nat.reduceBEq, Nat.reduceEqDiff, beq_self_eq_true, E__law_random_ps, E__law_random_io, E__law_size_ps, E__law_size_io, atI_lit0, p__law_size l hs.o.sm, e1, true_and]
    refine ⟨g', c ++ [r], _, by simp, rfl, by simp [hk1], ?_, hg'⟩
    intro x hx
    rcases List.mem_append.1 hx with q | q
    · exact hr x q
    · rw [List.mem_singleton.1 q]; exact ⟨r0, r1⟩
  · rintro os e ⟨g, c, x, rfl, rfl, hk1, hr, hg⟩
    simp only [exs, ex1, den, denPs, denP, denEs, denC, denO, denI, bind_ok, st_okq, seq_next, seq_ret, lift_some, look0, lookS, asBool_ok, lift_none, and_ok, or_ok, Tgt.slots, wipeE, backE, keepV, Tgt.put, setMany, ds_map_vq, ds_nilq, filter_ff, rev_mapq, mkTup_v, mkTupF_1, mkTupF_2, mkTupF_3, mkLst_1, seqD_list, seqD_tuple, seqD_own, all_isV, rsat_ok, ssat_next, ssat_ret, Function.comp_apply, addV_int, rdIdx, elems_own, elems_list, elems_tup, Bool.true_or, List.length_map, List.isEmpty_nil, List.isEmpty_cons, isiD_tuple, isiD_list, mkTupF_nil, mkLst_nil, shaped_int, shaped_none, shaped_bool, shaped_Li, shaped_Ti, shaped_LLi, shaped_Lnil, shaped_Tnil, eqv_int, eqv_Li, eqv_Ti, eqv_LLi, eqv_Lnil, eqv_Tnil, bool2, List.isEmpty_map, List.getElem_map, Int.reduceLT, Int.reduceLE, leafys_ints, leafys_lis, two_str, eqv_sstr, mkTupF_xo, mkTupF_ox, mkTupF_oxx, mkTupF_xox, mkTupF_xxo, mkTupF_xt, mkTupF_tx, mkTupF_txx, mkTupF_xtx, mkTupF_xxt, mkLst_2, mkLst_3, mkLst_4, elems_tupT, elems_ownT, Bool.or_true, List.contains_cons, List.contains_nil, res1, resAll, resAll_nil, Option.map_some, Option.map_none, pr, pr1, pr2, int1, int2, intOf, oI, oB, Ev.data2, isNone, rdVar, mvVar, argO, argOs, lent, Ev.borrowed, endCall, Ev.finish, outOf, doCall, leafy, leafyOut, List.map_cons, List.map_nil, List.cons_append, List.nil_append, List.append_nil, List.length_cons, List.length_nil, List.getElem?_cons_zero, List.getElem?_cons_succ, Nat.reduceAdd, Nat.reduceSub, Nat.zero_add, List.replicate_succ, List.replicate_zero, List.any_cons, List.any_nil, Bool.or_false, Bool.false_or, Bool.and_true, Bool.true_and, Bool.false_and, Bool.and_false, Bool.not_true, Bool.not_false, noList, noLists, leafys, Bool.false_eq_true, if_true, if_false, ite_true, ite_false, reduceIte, List.set_cons_zero, List.set_cons_succ, O.d, liftS, setN, doTg, doTgs, decide_true, decide_false, Nat.reduceLT, Nat.reduceBEq, Nat.reduceEqDiff, beq_self_eq_true]
    simp only [List.length_map] at hk1 hg
    exact ⟨c, g, rfl, rfl, ⟨hk1, hr⟩, hg⟩
theorem Code.set {l : List Int} {ts : List (List Int)} {c : List Int} (hc : Code l ts c) (k : Nat) {m : Int} (hm : InR l.prod m) : Code l ts (c.set k m) := ⟨by simpa using hc.1, fun x hx => by
    rcases List.mem_or_eq_of_mem_set hx with q | q
    · exact hc.2 x q
    · subst q; exact hm⟩
theorem p__law_righted (n : Nat) (g : O) (h : Gen n g) (l : List Int) (ts : List (List Int)) (t : Int) (hs : Sys l ts t) (hn : n < 1000000000) :
    ∃ c g', E__law_righted.sem [g, .v (Sy l ts t)] = .ok (OLi c) (some g') ∧ Code l ts c ∧ off l ts t c = 0 ∧ Gen (n + ts.length + 1) g' := by
  obtain ⟨hN, hN2, hN3⟩ := hs.nat
  have hw := hs.w
  have hw2 := hs.w2
  obtain ⟨c, g1, e1, hc, hg1⟩ := p__law_code n g h l ts t hs (by omega)
  obtain ⟨r, g2, e2, r0, r1, hg2⟩ := p__law_random _ g1 hg1 (by omega) (ts.length : Int) (by omega) (by omega)
  obtain ⟨k, rfl⟩ := Int.eq_ofNat_of_zero_le r0
  have hk : k < ts.length := by omega
  have hkc : k < c.length := by rw [hc.1]; exact hk
  obtain ⟨w1, w2⟩ := wantN_sp hs hc k hk
  have hcl : ((c.length : Nat) : Int) = ts.length := by rw [hc.1]
  refine ⟨c.set k (wantN l ts t c k), g2, ?_, hc.set k ⟨by omega, by omega⟩, (w2 _ ⟨by omega, by omega⟩).2 rfl, hg2⟩
  (rw [show E__law_righted.sem = S__law_righted from rfl, S__law_righted, runDef]; refine sat_fin ?_)
  simp only [S__law_righted, I__law_righted, L__law_righted, runDef, exs, ex1, den, denPs, denP, denEs, denC, denO, denI, bind_ok, st_okq, seq_next, seq_ret, lift_some, look0, lookS, asBool_ok, lift_none, and_ok, or_ok, Tgt.slots, wipeE, backE, keepV, Tgt.put, setMany, ds_map_vq, ds_nilq, filter_ff, rev_mapq, mkTup_v, mkTupF_1, mkTupF_2, mkTupF_3, mkLst_1, seqD_list, seqD_tuple, seqD_own, all_isV, rsat_ok, ssat_next, ssat_ret, Function.comp_apply, addV_int, rdIdx, elems_own, elems_list, elems_tup, Bool.true_or, List.length_map, List.isEmpty_nil, List.isEmpty_cons, isiD_tuple, isiD_list, mkTupF_nil, mkLst_nil, shaped_int, shaped_none, shaped_bool, shaped_Li, shaped_Ti, shaped_LLi, shaped_Lnil, shaped_Tnil, eqv_int, eqv_Li, eqv_Ti, eqv_LLi, eqv_Lnil, eqv_Tnil, bool2, List.isEmpty_map, List.getElem_map, Int.reduceLT, Int.reduceLE, leafys_ints, leafys_lis, two_str, eqv_sstr, mkTupF_xo, mkTupF_ox, mkTupF_oxx, mkTupF_xox, mkTupF_xxo, mkTupF_xt, mkTupF_tx, mkTupF_txx, mkTupF_xtx, mkTupF_xxt, mkLst_2, mkLst_3, mkLst_4, elems_tupT, elems_ownT, Bool.or_true, List.contains_cons, List.contains_nil, res1, resAll, resAll_nil, Option.map_some, Option.map_none, pr, pr1, pr2, int1, int2, intOf, oI, oB, Ev.data2, isNone, rdVar, mvVar, argO, argOs, lent, Ev.borrowed, endCall, Ev.finish, outOf, doCall, leafy, leafyOut, List.map_cons, List.map_nil, List.cons_append, List.nil_append, List.append_nil, List.length_cons, List.length_nil, List.getElem?_cons_zero, List.getElem?_cons_succ, Nat.reduceAdd, Nat.reduceSub, Nat.zero_add, List.replicate_succ, List.replicate_zero, List.any_cons, List.any_nil, Bool.or_false, Bool.false_or, Bool.and_true, Bool.true_and, Bool.false_and, Bool.and_false, Bool.not_true, Bool.not_false, noList, noLists, leafys, Bool.false_eq_true, if_true, if_false, ite_true, ite_false, reduceIte, List.set_cons_zero, List.set_cons_succ, O.d, liftS, setN, doTg, doTgs, decide_true, decide_false, Nat.reduceLT, Nat.reduceBEq, Nat.reduceEqDiff, beq_self_eq_true, E__law_code_ps, E__law_code_io, E__law_random_ps, E__law_random_io, E__law_size_ps, E__law_size_io, e1, lenV, hcl, e2, atI_lit0, p__law_size l hs.o.sm, rangeIt1i l.prod (by omega) (by omega)]
  repeat (first | with_reducible refine sat_seq ?_ | with_reducible refine sat_st ?_ | with_reducible refine sat_bind ?_ | with_reducible refine sat_asBool ?_)
  refine sat_for (fun j e => (∀ i < j, off l ts t (c.set k (i : Nat)) ≠ 0) ∧ j ≤ l.prod.toNat ∧ ∃ x, e = [some g2, some (.v (Sy l ts t)), some (OLi c), some (.v (.int k)), x]) ⟨by intro i hi; omega, by omega, _, rfl⟩ ?_ ?_
  · rintro j hj e ⟨hi, hj1, x, rfl⟩
    have hj' : j < l.prod.toNat := by simpa [rangeD_len] using hj
    have hm : InR l.prod (j : Int) := ⟨by omega, by omega⟩
    refine ⟨_, by rw [rangeD_get]; exact putT_io _ _ _ (by simp), ?_⟩
    by_cases ho : off l ts t (c.set k (j : Int)) = 0
    · have hjw : j = wantN l ts t c k := by have := (w2 _ hm).1 ho; omega
      subst hjw
      simp only [exs, ex1, den, denPs, denP, denEs, denC, denO, denI, bind_ok, st_okq, seq_next, seq_ret, lift_some, look0, lookS, asBool_ok, lift_none, and_ok, or_ok, Tgt.slots, wipeE, backE, keepV, Tgt.put, setMany, ds_map_vq, ds_nilq, filter_ff, rev_mapq, mkTup_v, mkTupF_1, mkTupF_2, mkTupF_3, mkLst_1, seqD_list, seqD_tuple, seqD_own, all_isV, rsat_ok, ssat_next, ssat_ret, Function.comp_apply, addV_int, rdIdx, elems_own, elems_list, elems_tup, Bool.true_or, List.length_map, List.isEmpty_nil, List.isEmpty_cons, isiD_tuple, isiD_list, mkTupF_nil, mkLst_nil, shaped_int, shaped_none, shaped_bool, shaped_Li, shaped_Ti, shaped_LLi, shaped_Lnil, shaped_Tnil, eqv_int, eqv_Li, eqv_Ti, eqv_LLi, eqv_Lnil, eqv_Tnil, bool2, List.isEmpty_map, List.getElem_map, Int.reduceLT, Int.reduceLE, leafys_ints, leafys_lis, two_str, eqv_sstr, mkTupF_xo, mkTupF_ox, mkTupF_oxx, mkTupF_xox, mkTupF_xxo, mkTupF_xt, mkTupF_tx, mkTupF_txx, mkTupF_xtx, mkTupF_xxt, mkLst_2, mkLst_3, mkLst_4, elems_tupT, elems_ownT, Bool.or_true, List.contains_cons, List.contains_nil, res1, resAll, resAll_nil, Option.map_some, Option.map_none, pr, pr1, pr2, int1, int2, intOf, oI, oB, Ev.data2, isNone, rdVar, mvVar, argO, argOs, lent, Ev.borrowed, endCall, Ev.finish, outOf, doCall, leafy, leafyOut, List.map_cons, List.map_nil, List.cons_append, List.nil_append, List.append_nil, List.length_cons, List.length_nil, List.getElem?_cons_zero, List.getElem?_cons_succ, Nat.reduceAdd, Nat.reduceSub, Nat.zero_add, List.replicate_succ, List.replicate_zero, List.any_cons, List.any_nil, Bool.or_false, Bool.false_or, Bool.and_true, Bool.true_and, Bool.false_and, Bool.and_false, Bool.not_true, Bool.not_false, noList, noLists, leafys, Bool.false_eq_true, if_true, if_false, ite_true, ite_false, reduceIte, List.set_cons_zero, List.set_cons_succ, O.d, liftS, setN, doTg, doTgs, decide_true, decide_false, Nat.reduceLT, Nat.reduceBEq, Nat.reduceEqDiff, beq_self_eq_true, E__law_off_ps, E__law_off_io, E__law_put_ps, E__law_put_io, p__law_put c k _ hkc (by omega), p__law_off l ts t hs _ (hc.set k hm), ho]
      exact ⟨trivial, trivial⟩
    · simp only [exs, ex1, den, denPs, denP, denEs, denC, denO, denI, bind_ok, st_okq, seq_next, seq_ret, lift_some, look0, lookS, asBool_ok, lift_none, and_ok, or_ok, Tgt.slots, wipeE, backE, keepV, Tgt.put, setMany, ds_map_vq, ds_nilq, filter_ff, rev_mapq, mkTup_v, mkTupF_1, mkTupF_2, mkTupF_3, mkLst_1, seqD_list, seqD_tuple, seqD_own, all_isV, rsat_ok, ssat_next, ssat_ret, Function.comp_apply, addV_int, rdIdx, elems_own, elems_list, elems_tup, Bool.true_or, List.length_map, List.isEmpty_nil, List.isEmpty_cons, isiD_tuple, isiD_list, mkTupF_nil, mkLst_nil, shaped_int, shaped_none, shaped_bool, shaped_Li, shaped_Ti, shaped_LLi, shaped_Lnil, shaped_Tnil, eqv_int, eqv_Li, eqv_Ti, eqv_LLi, eqv_Lnil, eqv_Tnil, bool2, List.isEmpty_map, List.getElem_map, Int.reduceLT, Int.reduceLE, leafys_ints, leafys_lis, two_str, eqv_sstr, mkTupF_xo, mkTupF_ox, mkTupF_oxx, mkTupF_xox, mkTupF_xxo, mkTupF_xt, mkTupF_tx, mkTupF_txx, mkTupF_xtx, mkTupF_xxt, mkLst_2, mkLst_3, mkLst_4, elems_tupT, elems_ownT, Bool.or_true, List.contains_cons, List.contains_nil, res1, resAll, resAll_nil, Option.map_some, Option.map_none, pr, pr1, pr2, int1, int2, intOf, oI, oB, Ev.data2, isNone, rdVar, mvVar, argO, argOs, lent, Ev.borrowed, endCall, Ev.finish, outOf, doCall, leafy, leafyOut, List.map_cons, List.map_nil, List.cons_append, List.nil_append, List.append_nil, List.length_cons, List.length_nil, List.getElem?_cons_zero, List.getElem?_cons_succ, Nat.reduceAdd, Nat.reduceSub, Nat.zero_add, List.replicate_succ, List.replicate_zero, List.any_cons, List.any_nil, Bool.or_false, Bool.false_or, Bool.and_true, Bool.true_and, Bool.false_and, Bool.and_false, Bool.not_true, Bool.not_false, noList, noLists, leafys, Bool.false_eq_true, if_true, if_false, ite_true, ite_false, reduceIte, List.set_cons_zero, List.set_cons_succ, O.d, liftS, setN, doTg, doTgs, decide_true, decide_false, Nat.reduceLT, Nat.reduceBEq, Nat.reduceEqDiff, beq_self_eq_true, E__law_off_ps, E__law_off_io, E__law_put_ps, E__law_put_io, p__law_put c k _ hkc (by omega), p__law_off l ts t hs _ (hc.set k hm), ho]
      refine ⟨?_, hj', _, rfl⟩
      intro i hi1
      rcases Nat.lt_succ_iff_lt_or_eq.1 hi1 with q | q
      · exact hi i q
      · subst q; exact ho
  · rintro e ⟨hi, _, x, rfl⟩
    rw [rangeD_len] at hi
    exact absurd ((w2 _ ⟨by omega, by omega⟩).2 rfl) (hi _ w1)
end Lw
set_option Elab.async false
set_option linter.all false
set_option maxRecDepth 100000
namespace Lw
open PySem PySem.Spec PyProof.Rows L2 Ev
theorem allC_len (n : Nat) : ∀ w, (allC n w).length = n ^ w
  | 0 => rfl
  | w + 1 => by
    rw [allC, List.length_flatMap]
    have : (allC n w).map (fun c => ((rng n).map fun m => c ++ [m]).length) = (allC n w).map fun _ => n := List.map_congr_left fun c _ => by simp [rng_len]
    rw [this, List.map_const', List.sum_replicate_nat, allC_len n w, Nat.pow_succ]
theorem foldl_flat {α β : Type} (f : α → List β) : ∀ (xs : List α) (a : List β), xs.foldl (fun L x => L ++ f x) a = a ++ xs.flatMap f
  | [], a => by simp
  | x :: xs, a => by rw [List.foldl_cons, foldl_flat f xs, List.flatMap_cons, List.append_assoc]
theorem foldl_flat_len {α β : Type} (f : α → List β) (n : Nat) (hf : ∀ x, (f x).length = n) : ∀ (xs : List α), (xs.flatMap f).length = xs.length * n
  | [] => by simp
  | x :: xs => by rw [List.flatMap_cons, List.length_append, hf, foldl_flat_len f n hf xs, List.length_cons, Nat.succ_mul, Nat.add_comm]
theorem p__law_all (n w : Nat) (hn : n < 1000000) (hw1 : 1 ≤ w) (hw : w < 1000000) (hl : n ^ w < 1000000) (hn1 : 1 ≤ n) : E__law_all.sem [.v (.int n), .v (.int w)] = .ok (.v (Lli (allC n w))) none := by
  (rw [show E__law_all.sem = S__law_all from rfl, S__law_all, runDef]; refine sat_fin ?_)
  simp only [S__law_all, I__law_all, L__law_all, runDef, exs, ex1, den, denPs, denP, denEs, denC, denO, denI, bind_ok, st_okq, seq_next, seq_ret, lift_some, look0, lookS, asBool_ok, lift_none, and_ok, or_ok, Tgt.slots, wipeE, backE, keepV, Tgt.put, setMany, ds_map_vq, ds_nilq, filter_ff, rev_mapq, mkTup_v, mkTupF_1, mkTupF_2, mkTupF_3, mkLst_1, seqD_list, seqD_tuple, seqD_own, all_isV, rsat_ok, ssat_next, ssat_ret, Function.comp_apply, addV_int, rdIdx, elems_own, elems_list, elems_tup, Bool.true_or, List.length_map, List.isEmpty_nil, List.isEmpty_cons, isiD_tuple, isiD_list, mkTupF_nil, mkLst_nil, shaped_int, shaped_none, shaped_bool, shaped_Li, shaped_Ti, shaped_LLi, shaped_Lnil, shaped_Tnil, eqv_int, eqv_Li, eqv_Ti, eqv_LLi, eqv_Lnil, eqv_Tnil, bool2, List.isEmpty_map, List.getElem_map, Int.reduceLT, Int.reduceLE, leafys_ints, leafys_lis, two_str, eqv_sstr, mkTupF_xo, mkTupF_ox, mkTupF_oxx, mkTupF_xox, mkTupF_xxo, mkTupF_xt, mkTupF_tx, mkTupF_txx, mkTupF_xtx, mkTupF_xxt, mkLst_2, mkLst_3, mkLst_4, elems_tupT, elems_ownT, Bool.or_true, List.contains_cons, List.contains_nil, res1, resAll, resAll_nil, Option.map_some, Option.map_none, pr, pr1, pr2, int1, int2, intOf, oI, oB, Ev.data2, isNone, rdVar, mvVar, argO, argOs, lent, Ev.borrowed, endCall, Ev.finish, outOf, doCall, leafy, leafyOut, List.map_cons, List.map_nil, List.cons_append, List.nil_append, List.append_nil, List.length_cons, List.length_nil, List.getElem?_cons_zero, List.getElem?_cons_succ, Nat.reduceAdd, Nat.reduceSub, Nat.zero_add, List.replicate_succ, List.replicate_zero, List.any_cons, List.any_nil, Bool.or_false, Bool.false_or, Bool.and_true, Bool.true_and, Bool.false_and, Bool.and_false, Bool.not_true, Bool.not_false, noList, noLists, leafys, Bool.false_eq_true, if_true, if_false, ite_true, ite_false, reduceIte, List.set_cons_zero, List.set_cons_succ, O.d, liftS, setN, doTg, doTgs, decide_true, decide_false, Nat.reduceLT, Nat.reduceBEq, Nat.reduceEqDiff, beq_self_eq_true, rangeIt1 w hw]
  repeat (first | with_reducible refine sat_seq ?_ | with_reducible refine sat_st ?_ | with_reducible refine sat_bind ?_ | with_reducible refine sat_asBool ?_)
  refine sat_for (fun j e => j ≤ w ∧ ∃ o x y z u, e = [some (.v (.int n)), some (.v (.int w)), some o, x, y, z, u] ∧ o.d = Lli (allC n j) ∧ (1 ≤ j → o = .v (Lli (allC n j)))) ⟨by omega, _, _, _, _, _, rfl, rfl, fun h => by omega⟩ ?_ ?_
  · rintro j hj e ⟨hj1, o, x, y, z, u, rfl, ho, -⟩
    have hj' : j < w := by simpa [rangeD_len] using hj
    have hpow : n ^ (j + 1) < 1000000 := Nat.lt_of_le_of_lt (Nat.pow_le_pow_right hn1 hj') hl
    refine ⟨_, by rw [rangeD_get]; exact putT_one _ _ _ (by simp), ?_⟩
    simp only [exs, ex1, den, denPs, denP, denEs, denC, denO, denI, bind_ok, st_okq, seq_next, seq_ret, lift_some, look0, lookS, asBool_ok, lift_none, and_ok, or_ok, Tgt.slots, wipeE, backE, keepV, Tgt.put, setMany, ds_map_vq, ds_nilq, filter_ff, rev_mapq, mkTup_v, mkTupF_1, mkTupF_2, mkTupF_3, mkLst_1, seqD_list, seqD_tuple, seqD_own, all_isV, rsat_ok, ssat_next, ssat_ret, Function.comp_apply, addV_int, rdIdx, elems_own, elems_list, elems_tup, Bool.true_or, List.length_map, List.isEmpty_nil, List.isEmpty_cons, isiD_tuple, isiD_list, mkTupF_nil, mkLst_nil, shaped_int, shaped_none, shaped_bool, shaped_Li, shaped_Ti, shaped_LLi, shaped_Lnil, shaped_Tnil, eqv_int, eqv_Li, eqv_Ti, eqv_LLi, eqv_Lnil, eqv_Tnil, bool2, List.isEmpty_map, List.getElem_map, Int.reduceLT, Int.reduceLE, leafys_ints, leafys_lis, two_str, eqv_sstr, mkTupF_xo, mkTupF_ox, mkTupF_oxx, mkTupF_xox, mkTupF_xxo, mkTupF_xt, mkTupF_tx, mkTupF_txx, mkTupF_xtx, mkTupF_xxt, mkLst_2, mkLst_3, mkLst_4, elems_tupT, elems_ownT, Bool.or_true, List.contains_cons, List.contains_nil, res1, resAll, resAll_nil, Option.map_some, Option.map_none, pr, pr1, pr2, int1, int2, intOf, oI, oB, Ev.data2, isNone, rdVar, mvVar, argO, argOs, lent, Ev.borrowed, endCall, Ev.finish, outOf, doCall, leafy, leafyOut, List.map_cons, List.map_nil, List.cons_append, List.nil_append, List.append_nil, List.length_cons, List.length_nil, List.getElem?_cons_zero, List.getElem?_cons_succ, Nat.reduceAdd, Nat.reduceSub, Nat.zero_add, List.replicate_succ, List.replicate_zero, List.any_cons, List.any_nil, Bool.or_false, Bool.false_or, Bool.and_true, Bool.true_and, Bool.false_and, Bool.and_false, Bool.not_true, Bool.not_false, noList, noLists, leafys, Bool.false_eq_true, if_true, if_false, ite_true, ite_false, reduceIte, List.set_cons_zero, List.set_cons_succ, O.d, liftS, setN, doTg, doTgs, decide_true, decide_false, Nat.reduceLT, Nat.reduceBEq, Nat.reduceEqDiff, beq_self_eq_true, ho]
    repeat (first | with_reducible refine sat_seq ?_ | with_reducible refine sat_st ?_ | with_reducible refine sat_bind ?_ | with_reducible refine sat_asBool ?_)
    refine sat_for (fun k e => ∃ x y, e = [some (.v (.int n)), some (.v (.int w)), some (.v (Lli (allC n j))), some (.v (.int j)), some (.own ((((allC n j).take k).flatMap fun c => (rng n).map fun m => c ++ [m]).map OLi)), x, y]) ⟨_, _, rfl⟩ ?_ ?_
    · rintro k hk e ⟨x, y, rfl⟩
      have hk' : k < (allC n j).length := by simpa using hk
      have hm := allC_mem (List.getElem_mem hk')
      refine ⟨_, by simp only [List.getElem_map]; exact putT_one _ _ _ (by simp), ?_⟩
      simp only [exs, ex1, den, denPs, denP, denEs, denC, denO, denI, bind_ok, st_okq, seq_next, seq_ret, lift_some, look0, lookS, asBool_ok, lift_none, and_ok, or_ok, Tgt.slots, wipeE, backE, keepV, Tgt.put, setMany, ds_map_vq, ds_nilq, filter_ff, rev_mapq, mkTup_v, mkTupF_1, mkTupF_2, mkTupF_3, mkLst_1, seqD_list, seqD_tuple, seqD_own, all_isV, rsat_ok, ssat_next, ssat_ret, Function.comp_apply, addV_int, rdIdx, elems_own, elems_list, elems_tup, Bool.true_or, List.length_map, List.isEmpty_nil, List.isEmpty_cons, isiD_tuple, isiD_list, mkTupF_nil, mkLst_nil, shaped_int, shaped_none, shaped_bool, shaped_Li, shaped_Ti, shaped_LLi, shaped_Lnil, shaped_Tnil, eqv_int, eqv_Li, eqv_Ti, eqv_LLi, eqv_Lnil, eqv_Tnil, bool2, List.isEmpty_map, List.getElem_map, Int.reduceLT, Int.reduceLE, leafys_ints, leafys_lis, two_str, eqv_sstr, mkTupF_xo, mkTupF_ox, mkTupF_oxx, mkTupF_xox, mkTupF_xxo, mkTupF_xt, mkTupF_tx, mkTupF_txx, mkTupF_xtx, mkTupF_xxt, mkLst_2, mkLst_3, mkLst_4, elems_tupT, elems_ownT, Bool.or_true, List.contains_cons, List.contains_nil, res1, resAll, resAll_nil, Option.map_some, Option.map_none, pr, pr1, pr2, int1, int2, intOf, oI, oB, Ev.data2, isNone, rdVar, mvVar, argO, argOs, lent, Ev.borrowed, endCall, Ev.finish, outOf, doCall, leafy, leafyOut, List.map_cons, List.map_nil, List.cons_append, List.nil_append, List.append_nil, List.length_cons, List.length_nil, List.getElem?_cons_zero, List.getElem?_cons_succ, Nat.reduceAdd, Nat.reduceSub, Nat.zero_add, List.replicate_succ, List.replicate_zero, List.any_cons, List.any_nil, Bool.or_false, Bool.false_or, Bool.and_true, Bool.true_and, Bool.false_and, Bool.and_false, Bool.not_true, Bool.not_false, noList, noLists, leafys, Bool.false_eq_true, if_true, if_false, ite_true, ite_false, reduceIte, List.set_cons_zero, List.set_cons_succ, O.d, liftS, setN, doTg, doTgs, decide_true, decide_false, Nat.reduceLT, Nat.reduceBEq, Nat.reduceEqDiff, beq_self_eq_true, rangeIt1 n hn, rangeD_rng]
      repeat (first | with_reducible refine sat_seq ?_ | with_reducible refine sat_st ?_ | with_reducible refine sat_bind ?_ | with_reducible refine sat_asBool ?_)
      have hA : ∀ m : Int, addV false (.v (Li (allC n j)[k])) true (.own [.v (.int m)]) = some (OLi ((allC n j)[k] ++ [m])) := fun m => by
        have := addV_vo false true ((allC n j)[k].map .int) [.int m] (by simp [Sz, hm.1]; omega)
        rw [show OLi ((allC n j)[k] ++ [m]) = O.own (((allC n j)[k].map PyData.int ++ [PyData.int m]).map O.v) by simp only [OLi, List.map_append]; rfl]; exact this
      refine sat_compA PyData.int (rng n) (fun e => ∃ y, e = [some (.v (.int n)), some (.v (.int w)), some (.v (Lli (allC n j))), some (.v (.int j)), none, some (.v (Li (allC n j)[k])), y]) (fun m => OLi ((allC n j)[k] ++ [m])) ⟨_, rfl⟩ (by rw [rng_len, Sz]; omega) ?_ ?_
      · rintro m hm e ⟨y, rfl⟩
        refine ⟨_, rfl, ?_⟩
        simp only [exs, ex1, den, denPs, denP, denEs, denC, denO, denI, bind_ok, st_okq, seq_next, seq_ret, lift_some, look0, lookS, asBool_ok, lift_none, and_ok, or_ok, Tgt.slots, wipeE, backE, keepV, Tgt.put, setMany, ds_map_vq, ds_nilq, filter_ff, rev_mapq, mkTup_v, mkTupF_1, mkTupF_2, mkTupF_3, mkLst_1, seqD_list, seqD_tuple, seqD_own, all_isV, rsat_ok, ssat_next, ssat_ret, Function.comp_apply, addV_int, rdIdx, elems_own, elems_list, elems_tup, Bool.true_or, List.length_map, List.isEmpty_nil, List.isEmpty_cons, isiD_tuple, isiD_list, mkTupF_nil, mkLst_nil, shaped_int, shaped_none, shaped_bool, shaped_Li, shaped_Ti, shaped_LLi, shaped_Lnil, shaped_Tnil, eqv_int, eqv_Li, eqv_Ti, eqv_LLi, eqv_Lnil, eqv_Tnil, bool2, List.isEmpty_map, List.getElem_map, Int.reduceLT, Int.reduceLE, leafys_ints, leafys_lis, two_str, eqv_sstr, mkTupF_xo, mkTupF_ox, mkTupF_oxx, mkTupF_xox, mkTupF_xxo, mkTupF_xt, mkTupF_tx, mkTupF_txx, mkTupF_xtx, mkTupF_xxt, mkLst_2, mkLst_3, mkLst_4, elems_tupT, elems_ownT, Bool.or_true, List.contains_cons, List.contains_nil, res1, resAll, resAll_nil, Option.map_some, Option.map_none, pr, pr1, pr2, int1, int2, intOf, oI, oB, Ev.data2, isNone, rdVar, mvVar, argO, argOs, lent, Ev.borrowed, endCall, Ev.finish, outOf, doCall, leafy, leafyOut, List.map_cons, List.map_nil, List.cons_append, List.nil_append, List.append_nil, List.length_cons, List.length_nil, List.getElem?_cons_zero, List.getElem?_cons_succ, Nat.reduceAdd, Nat.reduceSub, Nat.zero_add, List.replicate_succ, List.replicate_zero, List.any_cons, List.any_nil, Bool.or_false, Bool.false_or, Bool.and_true, Bool.true_and, Bool.false_and, Bool.and_false, Bool.not_true, Bool.not_false, noList, noLists, leafys, Bool.false_eq_true, if_true, if_false, ite_true, ite_false, reduceIte, List.set_cons_zero, List.set_cons_succ, O.d, liftS, setN, doTg, doTgs, decide_true, decide_false, Nat.reduceLT, Nat.reduceBEq, Nat.reduceEqDiff, beq_self_eq_true, hA, true_and]
        exact ⟨_, rfl⟩
      · rintro e ⟨y, rfl⟩
        have hlen : ((((allC n j).take k).flatMap fun c => (rng n).map fun m => c ++ [m]).map OLi).length + ((rng n).map fun m => OLi ((allC n j)[k] ++ [m])).length ≤ sizeLine := by
          rw [List.length_map, foldl_flat_len _ n (fun x => by simp [rng_len]), List.length_take, List.length_map, rng_len, Sz, allC_len]
          have h1 : min k (n ^ j) * n ≤ n ^ j * n := Nat.mul_le_mul_right _ (Nat.min_le_right _ _)
          rw [Nat.pow_succ] at hpow
          omega
        have hL : (((allC n j).take (k + 1)).flatMap fun c => (rng n).map fun m => c ++ [m]).map OLi = (((allC n j).take k).flatMap fun c => (rng n).map fun m => c ++ [m]).map OLi ++ (rng n).map fun m => OLi ((allC n j)[k] ++ [m]) := by
          rw [List.take_succ_eq_append_getElem hk', List.flatMap_append, List.map_append]
          simp only [List.flatMap_cons, List.flatMap_nil, List.append_nil, List.map_map]
          rfl
        simp only [exs, ex1, den, denPs, denP, denEs, denC, denO, denI, bind_ok, st_okq, seq_next, seq_ret, lift_some, look0, lookS, asBool_ok, lift_none, and_ok, or_ok, Tgt.slots, wipeE, backE, keepV, Tgt.put, setMany, ds_map_vq, ds_nilq, filter_ff, rev_mapq, mkTup_v, mkTupF_1, mkTupF_2, mkTupF_3, mkLst_1, seqD_list, seqD_tuple, seqD_own, all_isV, rsat_ok, ssat_next, ssat_ret, Function.comp_apply, addV_int, rdIdx, elems_own, elems_list, elems_tup, Bool.true_or, List.length_map, List.isEmpty_nil, List.isEmpty_cons, isiD_tuple, isiD_list, mkTupF_nil, mkLst_nil, shaped_int, shaped_none, shaped_bool, shaped_Li, shaped_Ti, shaped_LLi, shaped_Lnil, shaped_Tnil, eqv_int, eqv_Li, eqv_Ti, eqv_LLi, eqv_Lnil, eqv_Tnil, bool2, List.isEmpty_map, List.getElem_map, Int.reduceLT, Int.reduceLE, leafys_ints, leafys_lis, two_str, eqv_sstr, mkTupF_xo, mkTupF_ox, mkTupF_oxx, mkTupF_xox, mkTupF_xxo, mkTupF_xt, mkTupF_tx, mkTupF_txx, mkTupF_xtx, mkTupF_xxt, mkLst_2, mkLst_3, mkLst_4, elems_tupT, elems_ownT, Bool.or_true, List.contains_cons, List.contains_nil, res1, resAll, resAll_nil, Option.map_some, Option.map_none, pr, pr1, pr2, int1, int2, intOf, oI, oB, Ev.data2, isNone, rdVar, mvVar, argO, argOs, lent, Ev.borrowed, endCall, Ev.finish, outOf, doCall, leafy, leafyOut, List.map_cons, List.map_nil, List.cons_append, List.nil_append, List.append_nil, List.length_cons, List.length_nil, List.getElem?_cons_zero, List.getElem?_cons_succ, Nat.reduceAdd, Nat.reduceSub, Nat.zero_add, List.replicate_succ, List.replicate_zero, List.any_cons, List.any_nil, Bool.or_false, Bool.false_or, Bool.and_true, Bool.true_and, Bool.false_and, Bool.and_false, Bool.not_true, Bool.not_false, noList, noLists, leafys, Bool.false_eq_true, if_true, if_false, ite_true, ite_false, reduceIte, List.set_cons_zero, List.set_cons_succ, O.d, liftS, setN, doTg, doTgs, decide_true, decide_false, Nat.reduceLT, Nat.reduceBEq, Nat.reduceEqDiff, beq_self_eq_true, addV_ooO true _ _ hlen]
        rw [hL]
        exact ⟨_, _, rfl⟩
    · rintro e ⟨x, y, rfl⟩
      simp only [exs, ex1, den, denPs, denP, denEs, denC, denO, denI, bind_ok, st_okq, seq_next, seq_ret, lift_some, look0, lookS, asBool_ok, lift_none, and_ok, or_ok, Tgt.slots, wipeE, backE, keepV, Tgt.put, setMany, ds_map_vq, ds_nilq, filter_ff, rev_mapq, mkTup_v, mkTupF_1, mkTupF_2, mkTupF_3, mkLst_1, seqD_list, seqD_tuple, seqD_own, all_isV, rsat_ok, ssat_next, ssat_ret, Function.comp_apply, addV_int, rdIdx, elems_own, elems_list, elems_tup, Bool.true_or, List.length_map, List.isEmpty_nil, List.isEmpty_cons, isiD_tuple, isiD_list, mkTupF_nil, mkLst_nil, shaped_int, shaped_none, shaped_bool, shaped_Li, shaped_Ti, shaped_LLi, shaped_Lnil, shaped_Tnil, eqv_int, eqv_Li, eqv_Ti, eqv_LLi, eqv_Lnil, eqv_Tnil, bool2, List.isEmpty_map, List.getElem_map, Int.reduceLT, Int.reduceLE, leafys_ints, leafys_lis, two_str, eqv_sstr, mkTupF_xo, mkTupF_ox, mkTupF_oxx, mkTupF_xox, mkTupF_xxo, mkTupF_xt, mkTupF_tx, mkTupF_txx, mkTupF_xtx, mkTupF_xxt, mkLst_2, mkLst_3, mkLst_4, elems_tupT, elems_ownT, Bool.or_true, List.contains_cons, List.contains_nil, res1, resAll, resAll_nil, Option.map_some, Option.map_none, pr, pr1, pr2, int1, int2, intOf, oI, oB, Ev.data2, isNone, rdVar, mvVar, argO, argOs, lent, Ev.borrowed, endCall, Ev.finish, outOf, doCall, leafy, leafyOut, List.map_cons, List.map_nil, List.cons_append, List.nil_append, List.append_nil, List.length_cons, List.length_nil, List.getElem?_cons_zero, List.getElem?_cons_succ, Nat.reduceAdd, Nat.reduceSub, Nat.zero_add, List.replicate_succ, List.replicate_zero, List.any_cons, List.any_nil, Bool.or_false, Bool.false_or, Bool.and_true, Bool.true_and, Bool.false_and, Bool.and_false, Bool.not_true, Bool.not_false, noList, noLists, leafys, Bool.false_eq_true, if_true, if_false, ite_true, ite_false, reduceIte, List.set_cons_zero, List.set_cons_succ, O.d, liftS, setN, doTg, doTgs, decide_true, decide_false, Nat.reduceLT, Nat.reduceBEq, Nat.reduceEqDiff, beq_self_eq_true, List.length_map, List.take_length]
      refine ⟨hj', _, _, _, _, _, rfl, ?_, fun _ => ?_⟩
      · simp only [O.d, ds_OLi]; rfl
      · rw [ds_OLi]; rfl
  · rintro e ⟨-, o, x, y, z, u, rfl, ho, ho1⟩
    rw [rangeD_len] at ho1
    rw [ho1 hw1]
    simp only [exs, ex1, den, denPs, denP, denEs, denC, denO, denI, bind_ok, st_okq, seq_next, seq_ret, lift_some, look0, lookS, asBool_ok, lift_none, and_ok, or_ok, Tgt.slots, wipeE, backE, keepV, Tgt.put, setMany, ds_map_vq, ds_nilq, filter_ff, rev_mapq, mkTup_v, mkTupF_1, mkTupF_2, mkTupF_3, mkLst_1, seqD_list, seqD_tuple, seqD_own, all_isV, rsat_ok, ssat_next, ssat_ret, Function.comp_apply, addV_int, rdIdx, elems_own, elems_list, elems_tup, Bool.true_or, List.length_map, List.isEmpty_nil, List.isEmpty_cons, isiD_tuple, isiD_list, mkTupF_nil, mkLst_nil, shaped_int, shaped_none, shaped_bool, shaped_Li, shaped_Ti, shaped_LLi, shaped_Lnil, shaped_Tnil, eqv_int, eqv_Li, eqv_Ti, eqv_LLi, eqv_Lnil, eqv_Tnil, bool2, List.isEmpty_map, List.getElem_map, Int.reduceLT, Int.reduceLE, leafys_ints, leafys_lis, two_str, eqv_sstr, mkTupF_xo, mkTupF_ox, mkTupF_oxx, mkTupF_xox, mkTupF_xxo, mkTupF_xt, mkTupF_tx, mkTupF_txx, mkTupF_xtx, mkTupF_xxt, mkLst_2, mkLst_3, mkLst_4, elems_tupT, elems_ownT, Bool.or_true, List.contains_cons, List.contains_nil, res1, resAll, resAll_nil, Option.map_some, Option.map_none, pr, pr1, pr2, int1, int2, intOf, oI, oB, Ev.data2, isNone, rdVar, mvVar, argO, argOs, lent, Ev.borrowed, endCall, Ev.finish, outOf, doCall, leafy, leafyOut, List.map_cons, List.map_nil, List.cons_append, List.nil_append, List.append_nil, List.length_cons, List.length_nil, List.getElem?_cons_zero, List.getElem?_cons_succ, Nat.reduceAdd, Nat.reduceSub, Nat.zero_add, List.replicate_succ, List.replicate_zero, List.any_cons, List.any_nil, Bool.or_false, Bool.false_or, Bool.and_true, Bool.true_and, Bool.false_and, Bool.and_false, Bool.not_true, Bool.not_false, noList, noLists, leafys, Bool.false_eq_true, if_true, if_false, ite_true, ite_false, reduceIte, List.set_cons_zero, List.set_cons_succ, O.d, liftS, setN, doTg, doTgs, decide_true, decide_false, Nat.reduceLT, Nat.reduceBEq, Nat.reduceEqDiff, beq_self_eq_true, and_self]
/-- the law's own counting -/
theorem p__law_counts (n w : Nat) (hn : 2 ≤ n) (hn1 : n < 1000000) (hw : w ≤ 60) (b : Bool) : E__law_counts.sem [.v (.int n), .v (.int w), .v (.bool b)] = .ok (OLi ((List.range (w + 1)).map fun k => ((ch w k * wy n k b : Nat) : Int))) none := by
  (rw [show E__law_counts.sem = S__law_counts from rfl, S__law_counts, runDef]; refine sat_fin ?_)
  have f3 : ∀ b c : D, mkTupF [.own [], .v b, .v c] = some (.tup [.own [], .v b, .v c]) := fun b c => rfl
  have e0 : (if b = true then (1 : Int) else 0) = ((wy n 0 b : Nat) : Int) := by cases b <;> rfl
  have e1 : (w : Int) + 1 = ((w + 1 : Nat) : Int) := rfl
  simp only [S__law_counts, I__law_counts, L__law_counts, runDef, exs, ex1, den, denPs, denP, denEs, denC, denO, denI, bind_ok, st_okq, seq_next, seq_ret, lift_some, look0, lookS, asBool_ok, lift_none, and_ok, or_ok, Tgt.slots, wipeE, backE, keepV, Tgt.put, setMany, ds_map_vq, ds_nilq, filter_ff, rev_mapq, mkTup_v, mkTupF_1, mkTupF_2, mkTupF_3, mkLst_1, seqD_list, seqD_tuple, seqD_own, all_isV, rsat_ok, ssat_next, ssat_ret, Function.comp_apply, addV_int, rdIdx, elems_own, elems_list, elems_tup, Bool.true_or, List.length_map, List.isEmpty_nil, List.isEmpty_cons, isiD_tuple, isiD_list, mkTupF_nil, mkLst_nil, shaped_int, shaped_none, shaped_bool, shaped_Li, shaped_Ti, shaped_LLi, shaped_Lnil, shaped_Tnil, eqv_int, eqv_Li, eqv_Ti, eqv_LLi, eqv_Lnil, eqv_Tnil, bool2, List.isEmpty_map, List.getElem_map, Int.reduceLT, Int.reduceLE, leafys_ints, leafys_lis, two_str, eqv_sstr, mkTupF_xo, mkTupF_ox, mkTupF_oxx, mkTupF_xox, mkTupF_xxo, mkTupF_xt, mkTupF_tx, mkTupF_txx, mkTupF_xtx, mkTupF_xxt, mkLst_2, mkLst_3, mkLst_4, elems_tupT, elems_ownT, Bool.or_true, List.contains_cons, List.contains_nil, res1, resAll, resAll_nil, Option.map_some, Option.map_none, pr, pr1, pr2, int1, int2, intOf, oI, oB, Ev.data2, isNone, rdVar, mvVar, argO, argOs, lent, Ev.borrowed, endCall, Ev.finish, outOf, doCall, leafy, leafyOut, List.map_cons, List.map_nil, List.cons_append, List.nil_append, List.append_nil, List.length_cons, List.length_nil, List.getElem?_cons_zero, List.getElem?_cons_succ, Nat.reduceAdd, Nat.reduceSub, Nat.zero_add, List.replicate_succ, List.replicate_zero, List.any_cons, List.any_nil, Bool.or_false, Bool.false_or, Bool.and_true, Bool.true_and, Bool.false_and, Bool.and_false, Bool.not_true, Bool.not_false, noList, noLists, leafys, Bool.false_eq_true, if_true, if_false, ite_true, ite_false, reduceIte, List.set_cons_zero, List.set_cons_succ, O.d, liftS, setN, doTg, doTgs, decide_true, decide_false, Nat.reduceLT, Nat.reduceBEq, Nat.reduceEqDiff, beq_self_eq_true, f3, elems, e0, e1, rangeIt1 (w + 1) (by omega)]
  repeat (first | with_reducible refine sat_seq ?_ | with_reducible refine sat_st ?_ | with_reducible refine sat_bind ?_ | with_reducible refine sat_asBool ?_)
  refine sat_for (fun k e => ∃ x, e = [some (.v (.int n)), some (.v (.int w)), some (.v (.bool b)), some (OLi (((List.range (w + 1)).map fun k => ((ch w k * wy n k b : Nat) : Int)).take k)), some (.v (.int (wy n k b : Nat))), some (.v (.int (((n : Int) - 1) ^ k))), x]) ⟨none, by rw [Int.pow_zero]; rfl⟩ ?_ ?_
  · rintro k hk e ⟨x, rfl⟩
    have hk' : k < w + 1 := by simpa [rangeD_len] using hk
    have hch : (((ch w k : Nat) : Int)).natAbs < 18446744073709551616 := by
      have h1 := ch_le w k
      have h2 : (2 : Nat) ^ w ≤ 2 ^ 60 := Nat.pow_le_pow_right (by omega) hw
      omega
    have hn2 : ((n : Int) - 1).natAbs < 18446744073709551616 := by omega
    have hlen : (OLi (((List.range (w + 1)).map fun k => ((ch w k * wy n k b : Nat) : Int)).take k)) = OLi (((List.range (w + 1)).map fun k => ((ch w k * wy n k b : Nat) : Int)).take k) := rfl
    have hl2 : ((((List.range (w + 1)).map fun k => ((ch w k * wy n k b : Nat) : Int)).take k)).length < sizeLine := Sz' (by simp; omega)
    have hst : ((n : Int) - 1) ^ k - ((wy n k b : Nat) : Int) = ((wy n (k + 1) b : Nat) : Int) := by
      have h1 := wy_step n hn k b
      have e : (((n - 1) ^ k : Nat) : Int) = ((n : Int) - 1) ^ k := by
        rw [Int.natCast_pow]; congr 1; omega
      omega
    refine ⟨_, by rw [rangeD_get]; exact putT_one _ _ _ (by simp), ?_⟩
    simp only [exs, ex1, den, denPs, denP, denEs, denC, denO, denI, bind_ok, st_okq, seq_next, seq_ret, lift_some, look0, lookS, asBool_ok, lift_none, and_ok, or_ok, Tgt.slots, wipeE, backE, keepV, Tgt.put, setMany, ds_map_vq, ds_nilq, filter_ff, rev_mapq, mkTup_v, mkTupF_1, mkTupF_2, mkTupF_3, mkLst_1, seqD_list, seqD_tuple, seqD_own, all_isV, rsat_ok, ssat_next, ssat_ret, Function.comp_apply, addV_int, rdIdx, elems_own, elems_list, elems_tup, Bool.true_or, List.length_map, List.isEmpty_nil, List.isEmpty_cons, isiD_tuple, isiD_list, mkTupF_nil, mkLst_nil, shaped_int, shaped_none, shaped_bool, shaped_Li, shaped_Ti, shaped_LLi, shaped_Lnil, shaped_Tnil, eqv_int, eqv_Li, eqv_Ti, eqv_LLi, eqv_Lnil, eqv_Tnil, bool2, List.isEmpty_map, List.getElem_map, Int.reduceLT, Int.reduceLE, leafys_ints, leafys_lis, two_str, eqv_sstr, mkTupF_xo, mkTupF_ox, mkTupF_oxx, mkTupF_xox, mkTupF_xxo, mkTupF_xt, mkTupF_tx, mkTupF_txx, mkTupF_xtx, mkTupF_xxt, mkLst_2, mkLst_3, mkLst_4, elems_tupT, elems_ownT, Bool.or_true, List.contains_cons, List.contains_nil, res1, resAll, resAll_nil, Option.map_some, Option.map_none, pr, pr1, pr2, int1, int2, intOf, oI, oB, Ev.data2, isNone, rdVar, mvVar, argO, argOs, lent, Ev.borrowed, endCall, Ev.finish, outOf, doCall, leafy, leafyOut, List.map_cons, List.map_nil, List.cons_append, List.nil_append, List.append_nil, List.length_cons, List.length_nil, List.getElem?_cons_zero, List.getElem?_cons_succ, Nat.reduceAdd, Nat.reduceSub, Nat.zero_add, List.replicate_succ, List.replicate_zero, List.any_cons, List.any_nil, Bool.or_false, Bool.false_or, Bool.and_true, Bool.true_and, Bool.false_and, Bool.and_false, Bool.not_true, Bool.not_false, noList, noLists, leafys, Bool.false_eq_true, if_true, if_false, ite_true, ite_false, reduceIte, List.set_cons_zero, List.set_cons_succ, O.d, liftS, setN, doTg, doTgs, decide_true, decide_false, Nat.reduceLT, Nat.reduceBEq, Nat.reduceEqDiff, beq_self_eq_true, E__law_sets_ps, E__law_sets_io, p__law_sets w k (by omega) (by omega), mulV, mulOk_l hch, mulOk_r hn2, hl2, hst]
    refine ⟨some (.v (.int (k : Int))), ?_⟩
    rw [List.take_succ_eq_append_getElem (by simpa using hk')]
    simp [Int.pow_succ]
  · rintro e ⟨x, rfl⟩
    simp only [exs, ex1, den, denPs, denP, denEs, denC, denO, denI, bind_ok, st_okq, seq_next, seq_ret, lift_some, look0, lookS, asBool_ok, lift_none, and_ok, or_ok, Tgt.slots, wipeE, backE, keepV, Tgt.put, setMany, ds_map_vq, ds_nilq, filter_ff, rev_mapq, mkTup_v, mkTupF_1, mkTupF_2, mkTupF_3, mkLst_1, seqD_list, seqD_tuple, seqD_own, all_isV, rsat_ok, ssat_next, ssat_ret, Function.comp_apply, addV_int, rdIdx, elems_own, elems_list, elems_tup, Bool.true_or, List.length_map, List.isEmpty_nil, List.isEmpty_cons, isiD_tuple, isiD_list, mkTupF_nil, mkLst_nil, shaped_int, shaped_none, shaped_bool, shaped_Li, shaped_Ti, shaped_LLi, shaped_Lnil, shaped_Tnil, eqv_int, eqv_Li, eqv_Ti, eqv_LLi, eqv_Lnil, eqv_Tnil, bool2, List.isEmpty_map, List.getElem_map, Int.reduceLT, Int.reduceLE, leafys_ints, leafys_lis, two_str, eqv_sstr, mkTupF_xo, mkTupF_ox, mkTupF_oxx, mkTupF_xox, mkTupF_xxo, mkTupF_xt, mkTupF_tx, mkTupF_txx, mkTupF_xtx, mkTupF_xxt, mkLst_2, mkLst_3, mkLst_4, elems_tupT, elems_ownT, Bool.or_true, List.contains_cons, List.contains_nil, res1, resAll, resAll_nil, Option.map_some, Option.map_none, pr, pr1, pr2, int1, int2, intOf, oI, oB, Ev.data2, isNone, rdVar, mvVar, argO, argOs, lent, Ev.borrowed, endCall, Ev.finish, outOf, doCall, leafy, leafyOut, List.map_cons, List.map_nil, List.cons_append, List.nil_append, List.append_nil, List.length_cons, List.length_nil, List.getElem?_cons_zero, List.getElem?_cons_succ, Nat.reduceAdd, Nat.reduceSub, Nat.zero_add, List.replicate_succ, List.replicate_zero, List.any_cons, List.any_nil, Bool.or_false, Bool.false_or, Bool.and_true, Bool.true_and, Bool.false_and, Bool.and_false, Bool.not_true, Bool.not_false, noList, noLists, leafys, Bool.false_eq_true, if_true, if_false, ite_true, ite_false, reduceIte, List.set_cons_zero, List.set_cons_succ, O.d, liftS, setN, doTg, doTgs, decide_true, decide_false, Nat.reduceLT, Nat.reduceBEq, Nat.reduceEqDiff, beq_self_eq_true, rangeD_len]
    rw [List.take_of_length_le (by simp)]
    exact ⟨rfl, trivial⟩
end Lw
set_option Elab.async false
set_option linter.all false
set_option maxRecDepth 100000
namespace Lw
open PySem PySem.Spec PyProof.Rows L2 Ev
/-! what can be shown -/
theorem rep_int {i : Int} (h : i.natAbs < 2 ^ 190) : reprOk (.int i) = true := (nice_int h).repr rfl (by decide) (by decide)
theorem nices_ints {r : List Int} (h : ∀ x ∈ r, x.natAbs < 2 ^ 190) : Nices 0 (r.length * 1) (r.map .int) := by
  have := nices_all (n := 0) (b := 0) (ds := r.map PyData.int) fun d hd => by
    obtain ⟨i, hi, rfl⟩ := List.mem_map.1 hd
    exact nice_int (h i hi)
  simpa using this
theorem rep_Li {r : List Int} (h : ∀ x ∈ r, x.natAbs < 2 ^ 190) (hl : r.length ≤ 80000) : reprOk (Li r) = true :=
  (nices_ints h).list.repr rfl (by decide) (by omega)
theorem nices_lis {rs : List (List Int)} {m : Nat} (h : ∀ r ∈ rs, r.length ≤ m ∧ ∀ x ∈ r, x.natAbs < 2 ^ 190) : Nices 1 (rs.length * (m + 1)) (rs.map fun r => Li r) := by
  have := nices_all (n := 1) (b := m) (ds := rs.map fun r => Li r) fun d hd => by
    obtain ⟨r, hr, rfl⟩ := List.mem_map.1 hd
    have h1 := h r hr
    exact (nices_ints h1.2).list.mono (by decide) (by omega)
  simpa using this
theorem rep_LLi {rs : List (List Int)} {m : Nat} (h : ∀ r ∈ rs, r.length ≤ m ∧ ∀ x ∈ r, x.natAbs < 2 ^ 190) (hl : rs.length * (m + 1) ≤ 80000) : reprOk (Lli rs) = true :=
  (nices_lis h).list.repr rfl (by decide) hl
theorem Sys.len1 {l : List Int} {ts : List (List Int)} {t : Int} (h : Sys l ts t) : l.length < 1000 := h.o.2.1
theorem rep_Sy {l : List Int} {ts : List (List Int)} {t : Int} (h : Sys l ts t) (hw : ts.length ≤ 60) : reprOk (Sy l ts t) = true := by
  have n1 := (nices_ints (r := l) fun x hx => by have := h.o.2.2 x hx; omega).tuple
  have n2 := (nices_lis (rs := ts) (m := 1000) fun r hr => by
    have h1 := h.r r hr
    have h2 := h.nat
    exact ⟨by omega, fun x hx => by have := h1.2 x hx; omega⟩).list
  have n3 : Nice 0 0 (.int t) := nice_int (by have := h.t0; have := h.t1; have := h.p; omega)
  have h1 := h.len1
  have hx : ts.length * 1001 ≤ 60060 := by omega
  have := nices_cons (n := 2) (n1.mono (by decide) (Nat.le_refl _)) (nices_cons (n := 2) (n2.mono (by decide) (Nat.le_refl _)) (nices_cons (n := 2) (n3.mono (by decide) (Nat.le_refl _)) (nices_nil 2)))
  exact this.tuple.repr rfl (by decide) (by omega)
theorem perm3 {α : Type} (a b c : α) : perm 3 [2, 1, 0] [a, b, c] = some [c, b, a] := rfl
theorem perm2 {α : Type} (a b : α) : perm 2 [1, 0] [a, b] = some [b, a] := rfl
end Lw
set_option Elab.async false
set_option linter.all false
set_option maxRecDepth 100000
set_option maxHeartbeats 0
namespace Lw
open PySem PySem.Spec PyProof.Rows L2 Ev
/-- how many lie at each distance, told -/
def toldF (l : List Int) (ts : List (List Int)) (t : Int) (c : List Int) (x : Int) : Int := if x.toNat ≤ ts.length then ((hmN l ts t c x.toNat : Nat) : Int) else 0
def toldL (l : List Int) (ts : List (List Int)) (t : Int) (c : List Int) : List Int := (rng (ts.length + 2)).map (toldF l ts t c)
theorem toldL_eq (l : List Int) (ts : List (List Int)) (t : Int) (c : List Int) : toldL l ts t c = (List.range (ts.length + 1)).map (fun k => ((ch ts.length k * wy l.prod.toNat k (decide (off l ts t c = 0)) : Nat) : Int)) ++ [0] := by
  unfold toldL rng
  rw [List.range_succ, List.map_append, List.map_append, List.map_map]
  congr 1
  · refine List.map_congr_left fun k hk => ?_
    have := List.mem_range.1 hk
    simp only [Function.comp_apply, toldF, Int.ofNat_eq_natCast, Int.toNat_natCast]
    rw [if_pos (by omega)]; rfl
  · simp [toldF]; intro h; omega
theorem hmN_le {l : List Int} {ts : List (List Int)} {t : Int} (h : Sys l ts t) (hw : ts.length ≤ 5) (hp : l.prod ≤ 12) (c : List Int) (k : Nat) (hk : k ≤ ts.length) : hmN l ts t c k ≤ 32 * 161051 := by
  have h1 := ch_le ts.length k
  have h2 : (2 : Nat) ^ ts.length ≤ 2 ^ 5 := Nat.pow_le_pow_right (by omega) hw
  have h3 := wy_le l.prod.toNat h.nat.2.1 k (decide (off l ts t c = 0))
  have h4 : (l.prod.toNat - 1) ^ k ≤ 11 ^ k := Nat.pow_le_pow_left (by omega) k
  have h5 : (11 : Nat) ^ k ≤ 11 ^ 5 := Nat.pow_le_pow_right (by omega) (by omega)
  exact Nat.mul_le_mul (by omega) (by omega)
theorem rep_told {l : List Int} {ts : List (List Int)} {t : Int} (h : Sys l ts t) (hw : ts.length ≤ 5) (hp : l.prod ≤ 12) (c : List Int) : reprOk (Li (toldL l ts t c)) = true := by
  refine rep_Li (fun x hx => ?_) (by simp [toldL, rng_len]; omega)
  obtain ⟨y, hy, rfl⟩ := List.mem_map.1 hx
  unfold toldF
  split
  · have := hmN_le h hw hp c y.toNat (by assumption); omega
  · decide
theorem near_in {l : List Int} {ts : List (List Int)} {t : Int} (h : Sys l ts t) {c : List Int} (hc : Code l ts c) : ∀ r ∈ nearL l ts t c, Code l ts r := by
  intro r hr
  unfold nearL at hr
  split at hr
  · rw [List.mem_singleton.1 hr]; exact hc
  · have := (List.mergeSort_perm _ _).mem_iff.1 hr
    obtain ⟨k, hk, rfl⟩ := List.mem_map.1 this
    have hk := List.mem_range.1 hk
    have := (wantN_sp h hc k hk).1
    exact hc.set k ⟨by omega, by have := h.nat; omega⟩
theorem near_len {l : List Int} {ts : List (List Int)} {t : Int} (h : Sys l ts t) (c : List Int) : (nearL l ts t c).length ≤ ts.length := by
  have := h.w2
  unfold nearL
  split
  · simp; omega
  · rw [sortL, List.length_mergeSort]; simp
theorem near_pos {l : List Int} {ts : List (List Int)} {t : Int} (h : Sys l ts t) (c : List Int) : 0 < (nearL l ts t c).length := by
  have := h.w2
  unfold nearL
  split
  · simp
  · rw [sortL, List.length_mergeSort]; simp; omega
theorem rep_near {l : List Int} {ts : List (List Int)} {t : Int} (h : Sys l ts t) (hw : ts.length ≤ 60) {c : List Int} (hc : Code l ts c) : reprOk (Lli (nearL l ts t c)) = true := by
  refine rep_LLi (m := 60) (fun r hr => ?_) ?_
  · have h1 := near_in h hc r hr
    exact ⟨by rw [h1.1]; exact hw, fun x hx => by have := h1.2 x hx; have := h.p; omega⟩
  · have := near_len h c; omega
theorem ixN_natq {n j : Nat} (hj : j < n) : ixN n (j : Int) = some j := by
  have : (j : Int) < (n : Int) := by omega
  simp [ixN, this]
theorem ds_vLi (rs : List (List Int)) : O.ds (rs.map fun r => O.v (Li r)) = rs.map fun r => Li r := by
  rw [O.ds_map, List.map_map]; rfl
/-- by going through all numbers -/
theorem brute {l : List Int} {ts : List (List Int)} {t : Int} (h : Sys l ts t) {c : List Int} (hc : Code l ts c) (x : Int) (hx : x ∈ rng (ts.length + 2)) :
    ((((allC l.prod.toNat ts.length).filter fun r => decide (off l ts t r = 0)).filter fun r => decide ((apartN r c : Int) = x)).length : Int) = toldF l ts t c x := by
  obtain ⟨k, hk, rfl⟩ := List.mem_map.1 hx
  have hk := List.mem_range.1 hk
  have e := h.ab.cnt l.prod.toNat h.nat.1 h.nat.2.1 ts.length ts c rfl hc.1 h.rp hc.2 k t ⟨h.t0, h.t1⟩
  rw [← List.countP_eq_length_filter, List.countP_filter]
  have e2 : ∀ r, (decide ((apartN r c : Int) = Int.ofNat k) && decide (off l ts t r = 0)) = (decide (apartN r c = k) && decide ((mems ts r).foldl (plus l) 0 = t)) := fun r => by
    congr 1
    · exact decide_eq_decide.2 (by simp only [Int.ofNat_eq_natCast]; omega)
    · exact decide_eq_decide.2 (off_zero h r)
  rw [List.countP_congr (q := fun r => decide (apartN r c = k) && decide ((mems ts r).foldl (plus l) 0 = t)) (fun r _ => by rw [e2 r]), e]
  have e3 : decide (t = (mems ts c).foldl (plus l) 0) = decide (off l ts t c = 0) := decide_eq_decide.2 ⟨fun q => (off_zero h c).2 q.symm, fun q => ((off_zero h c).1 q).symm⟩
  rw [e3]
  simp only [toldF, Int.ofNat_eq_natCast, Int.toNat_natCast]
  split
  · rfl
  · rw [ch_big _ _ (by omega)]; simp
theorem p__law_right (n : Nat) (g : O) (h : Gen n g) (hn : n < 1000000) (w : Nat) (hw2 : 2 ≤ w) (hw : w ≤ 5) :
    ∃ out, E__law_right.sem [g, .v (.int w)] = .ok (.v (.bool true)) out := by
  obtain ⟨l, g1, e1, hl, hg1⟩ := p__law_orders n g h (by omega)
  obtain ⟨hlo, hlp⟩ := ORD_ok l hl
  obtain ⟨ts, t, g2, e2, hs, hts, hg2⟩ := p__law_system _ g1 hg1 l hlo (by omega) w hw2 (by omega) (by omega)
  obtain ⟨c1, g3, e3, hc1, ho1, hg3⟩ := p__law_righted _ g2 hg2 l ts t hs (by omega)
  obtain ⟨c2, g4, e4, hc2, hg4⟩ := p__law_code _ g3 hg3 l ts t hs (by omega)
  suffices hh : (E__law_right.sem [g, .v (.int w)]).sat fun o out => o = .v (.bool true) by
    obtain ⟨o, out, e, rfl⟩ := fsat_ex hh
    exact ⟨out, e⟩
  rw [show E__law_right.sem = S__law_right from rfl, S__law_right, runDef]
  refine fsat_fin ?_
  obtain ⟨hN, hN2, hN3⟩ := hs.nat
  have rS := rep_Sy hs (by omega)
  have dS := OSy_d l ts t
  simp only [O.d] at dS
  simp only [S__law_right, I__law_right, L__law_right, runDef, exs, ex1, den, denPs, denP, denEs, denC, denO, denI, bind_ok, st_okq, seq_next, seq_ret, lift_some, look0, lookS, asBool_ok, lift_none, and_ok, or_ok, Tgt.slots, wipeE, backE, keepV, Tgt.put, setMany, ds_map_vq, ds_nilq, filter_ff, rev_mapq, mkTup_v, mkTupF_1, mkTupF_2, mkTupF_3, mkLst_1, seqD_list, seqD_tuple, seqD_own, all_isV, rsat_ok, ssat_next, ssat_ret, Function.comp_apply, addV_int, rdIdx, elems_own, elems_list, elems_tup, Bool.true_or, List.length_map, List.isEmpty_nil, List.isEmpty_cons, isiD_tuple, isiD_list, mkTupF_nil, mkLst_nil, shaped_int, shaped_none, shaped_bool, shaped_Li, shaped_Ti, shaped_LLi, shaped_Lnil, shaped_Tnil, eqv_int, eqv_Li, eqv_Ti, eqv_LLi, eqv_Lnil, eqv_Tnil, bool2, List.isEmpty_map, List.getElem_map, Int.reduceLT, Int.reduceLE, leafys_ints, leafys_lis, two_str, eqv_sstr, mkTupF_xo, mkTupF_ox, mkTupF_oxx, mkTupF_xox, mkTupF_xxo, mkTupF_xt, mkTupF_tx, mkTupF_txx, mkTupF_xtx, mkTupF_xxt, mkLst_2, mkLst_3, mkLst_4, elems_tupT, elems_ownT, Bool.or_true, List.contains_cons, List.contains_nil, res1, resAll, resAll_nil, Option.map_some, Option.map_none, pr, pr1, pr2, int1, int2, intOf, oI, oB, Ev.data2, isNone, rdVar, mvVar, argO, argOs, lent, Ev.borrowed, endCall, Ev.finish, outOf, doCall, leafy, leafyOut, List.map_cons, List.map_nil, List.cons_append, List.nil_append, List.append_nil, List.length_cons, List.length_nil, List.getElem?_cons_zero, List.getElem?_cons_succ, Nat.reduceAdd, Nat.reduceSub, Nat.zero_add, List.replicate_succ, List.replicate_zero, List.any_cons, List.any_nil, Bool.or_false, Bool.false_or, Bool.and_true, Bool.true_and, Bool.false_and, Bool.and_false, Bool.not_true, Bool.not_false, noList, noLists, leafys, Bool.false_eq_true, if_true, if_false, ite_true, ite_false, reduceIte, List.set_cons_zero, List.set_cons_succ, O.d, liftS, setN, doTg, doTgs, decide_true, decide_false, Nat.reduceLT, Nat.reduceBEq, Nat.reduceEqDiff, beq_self_eq_true, E__law_system_ps, E__law_system_io, E__law_orders_ps, E__law_orders_io, E__law_size_ps, E__law_size_io, e1, e2, ix30, p__law_size l hlo.sm, rS, dS, rangeIt1 w (by omega)]
  repeat (first | with_reducible refine sat_seq ?_ | with_reducible refine sat_st ?_ | with_reducible refine sat_bind ?_ | with_reducible refine sat_asBool ?_)
  refine sat_for (fun j e => ∃ x, e = [some g2, some (.v (.int w)), some (OSy l ts t), some (.v (.int l.prod)), some (.v (.str (Sy l ts t).shown)), some (.v (.int (l.prod ^ j))), x, none, none, none, none, none, none, none, none, none, none]) ⟨_, by rw [Int.pow_zero]⟩ ?_ ?_
  · rintro j hj e ⟨x, rfl⟩
    refine ⟨_, by rw [rangeD_get]; exact putT_io _ _ _ (by simp), ?_⟩
    simp only [exs, ex1, den, denPs, denP, denEs, denC, denO, denI, bind_ok, st_okq, seq_next, seq_ret, lift_some, look0, lookS, asBool_ok, lift_none, and_ok, or_ok, Tgt.slots, wipeE, backE, keepV, Tgt.put, setMany, ds_map_vq, ds_nilq, filter_ff, rev_mapq, mkTup_v, mkTupF_1, mkTupF_2, mkTupF_3, mkLst_1, seqD_list, seqD_tuple, seqD_own, all_isV, rsat_ok, ssat_next, ssat_ret, Function.comp_apply, addV_int, rdIdx, elems_own, elems_list, elems_tup, Bool.true_or, List.length_map, List.isEmpty_nil, List.isEmpty_cons, isiD_tuple, isiD_list, mkTupF_nil, mkLst_nil, shaped_int, shaped_none, shaped_bool, shaped_Li, shaped_Ti, shaped_LLi, shaped_Lnil, shaped_Tnil, eqv_int, eqv_Li, eqv_Ti, eqv_LLi, eqv_Lnil, eqv_Tnil, bool2, List.isEmpty_map, List.getElem_map, Int.reduceLT, Int.reduceLE, leafys_ints, leafys_lis, two_str, eqv_sstr, mkTupF_xo, mkTupF_ox, mkTupF_oxx, mkTupF_xox, mkTupF_xxo, mkTupF_xt, mkTupF_tx, mkTupF_txx, mkTupF_xtx, mkTupF_xxt, mkLst_2, mkLst_3, mkLst_4, elems_tupT, elems_ownT, Bool.or_true, List.contains_cons, List.contains_nil, res1, resAll, resAll_nil, Option.map_some, Option.map_none, pr, pr1, pr2, int1, int2, intOf, oI, oB, Ev.data2, isNone, rdVar, mvVar, argO, argOs, lent, Ev.borrowed, endCall, Ev.finish, outOf, doCall, leafy, leafyOut, List.map_cons, List.map_nil, List.cons_append, List.nil_append, List.append_nil, List.length_cons, List.length_nil, List.getElem?_cons_zero, List.getElem?_cons_succ, Nat.reduceAdd, Nat.reduceSub, Nat.zero_add, List.replicate_succ, List.replicate_zero, List.any_cons, List.any_nil, Bool.or_false, Bool.false_or, Bool.and_true, Bool.true_and, Bool.false_and, Bool.and_false, Bool.not_true, Bool.not_false, noList, noLists, leafys, Bool.false_eq_true, if_true, if_false, ite_true, ite_false, reduceIte, List.set_cons_zero, List.set_cons_succ, O.d, liftS, setN, doTg, doTgs, decide_true, decide_false, Nat.reduceLT, Nat.reduceBEq, Nat.reduceEqDiff, beq_self_eq_true, mulV, mulOk_r (show l.prod.natAbs < 18446744073709551616 by omega), Int.pow_succ]
    exact ⟨_, rfl⟩
  · rintro e ⟨x, rfl⟩
    rw [rangeD_len]
    simp only [exs, ex1, den, denPs, denP, denEs, denC, denO, denI, bind_ok, st_okq, seq_next, seq_ret, lift_some, look0, lookS, asBool_ok, lift_none, and_ok, or_ok, Tgt.slots, wipeE, backE, keepV, Tgt.put, setMany, ds_map_vq, ds_nilq, filter_ff, rev_mapq, mkTup_v, mkTupF_1, mkTupF_2, mkTupF_3, mkLst_1, seqD_list, seqD_tuple, seqD_own, all_isV, rsat_ok, ssat_next, ssat_ret, Function.comp_apply, addV_int, rdIdx, elems_own, elems_list, elems_tup, Bool.true_or, List.length_map, List.isEmpty_nil, List.isEmpty_cons, isiD_tuple, isiD_list, mkTupF_nil, mkLst_nil, shaped_int, shaped_none, shaped_bool, shaped_Li, shaped_Ti, shaped_LLi, shaped_Lnil, shaped_Tnil, eqv_int, eqv_Li, eqv_Ti, eqv_LLi, eqv_Lnil, eqv_Tnil, bool2, List.isEmpty_map, List.getElem_map, Int.reduceLT, Int.reduceLE, leafys_ints, leafys_lis, two_str, eqv_sstr, mkTupF_xo, mkTupF_ox, mkTupF_oxx, mkTupF_xox, mkTupF_xxo, mkTupF_xt, mkTupF_tx, mkTupF_txx, mkTupF_xtx, mkTupF_xxt, mkLst_2, mkLst_3, mkLst_4, elems_tupT, elems_ownT, Bool.or_true, List.contains_cons, List.contains_nil, res1, resAll, resAll_nil, Option.map_some, Option.map_none, pr, pr1, pr2, int1, int2, intOf, oI, oB, Ev.data2, isNone, rdVar, mvVar, argO, argOs, lent, Ev.borrowed, endCall, Ev.finish, outOf, doCall, leafy, leafyOut, List.map_cons, List.map_nil, List.cons_append, List.nil_append, List.append_nil, List.length_cons, List.length_nil, List.getElem?_cons_zero, List.getElem?_cons_succ, Nat.reduceAdd, Nat.reduceSub, Nat.zero_add, List.replicate_succ, List.replicate_zero, List.any_cons, List.any_nil, Bool.or_false, Bool.false_or, Bool.and_true, Bool.true_and, Bool.false_and, Bool.and_false, Bool.not_true, Bool.not_false, noList, noLists, leafys, Bool.false_eq_true, if_true, if_false, ite_true, ite_false, reduceIte, List.set_cons_zero, List.set_cons_succ, O.d, liftS, setN, doTg, doTgs, decide_true, decide_false, Nat.reduceLT, Nat.reduceBEq, Nat.reduceEqDiff, beq_self_eq_true, E__law_righted_ps, E__law_righted_io, E__law_code_ps, E__law_code_io, e3, e4, hg3.leafy, hg4.leafy, mkLst_2, O.ds, ds_OLi]
    have hds : ∀ k (hk : k < (O.ds [OLi c1, OLi c2]).length), ∃ c, (O.ds [OLi c1, OLi c2])[k] = Li c ∧ Code l ts c := by
      intro k hk
      match k, hk with
      | 0, _ => exact ⟨c1, OLi_d c1, hc1⟩
      | 1, _ => exact ⟨c2, OLi_d c2, hc2⟩
    repeat (first | with_reducible refine sat_seq ?_ | with_reducible refine sat_st ?_ | with_reducible refine sat_bind ?_ | with_reducible refine sat_asBool ?_)
    refine sat_for (fun k e => ∃ g x6 x7 x8 x9 x10 x11 x12 x13 x14 x15 x16, e = [some g, some (.v (.int w)), some (OSy l ts t), some (.v (.int l.prod)), some (.v (.str (Sy l ts t).shown)), some (.v (.int (l.prod ^ w))), x6, x7, x8, x9, x10, x11, x12, x13, x14, x15, x16] ∧ Gen (n + 1000 + 10 * k) g) ⟨_, _, _, _, _, _, _, _, _, _, _, _, rfl, hg4.mono (by omega)⟩ ?_ ?_
    · rintro k hk e ⟨g, x6, x7, x8, x9, x10, x11, x12, x13, x14, x15, x16, rfl, hg⟩
      have hk2 : k < 2 := hk
      obtain ⟨c, hck, hc⟩ := hds k hk
      obtain ⟨d, g', e5, hd, hg'⟩ := p__law_code _ g hg l ts t hs (by omega)
      refine ⟨_, by rw [hck]; exact putT_io _ _ _ (by simp), ?_⟩
      have hcl : c.length = w := by rw [hc.1, hts]
      have hdl : d.length = w := by rw [hd.1, hts]
      have rC : reprOk (Li c) = true := rep_Li (fun x hx => by have := hc.2 x hx; omega) (by omega)
      have hap : apartN c d ≤ c.length := by
        unfold apartN
        exact Nat.le_trans List.countP_le_length (by rw [List.length_zip]; omega)
      have rA : reprOk (.int (apartN c d : Int)) = true := rep_int (by omega)
      have e6 := p_distance l ts t hs c d hc hd
      have e7 := p__law_apart c d (by omega) (by omega)
      have e8 := p__law_off l ts t hs c hc
      simp only [exs, ex1, den, denPs, denP, denEs, denC, denO, denI, bind_ok, st_okq, seq_next, seq_ret, lift_some, look0, lookS, asBool_ok, lift_none, and_ok, or_ok, Tgt.slots, wipeE, backE, keepV, Tgt.put, setMany, ds_map_vq, ds_nilq, filter_ff, rev_mapq, mkTup_v, mkTupF_1, mkTupF_2, mkTupF_3, mkLst_1, seqD_list, seqD_tuple, seqD_own, all_isV, rsat_ok, ssat_next, ssat_ret, Function.comp_apply, addV_int, rdIdx, elems_own, elems_list, elems_tup, Bool.true_or, List.length_map, List.isEmpty_nil, List.isEmpty_cons, isiD_tuple, isiD_list, mkTupF_nil, mkLst_nil, shaped_int, shaped_none, shaped_bool, shaped_Li, shaped_Ti, shaped_LLi, shaped_Lnil, shaped_Tnil, eqv_int, eqv_Li, eqv_Ti, eqv_LLi, eqv_Lnil, eqv_Tnil, bool2, List.isEmpty_map, List.getElem_map, Int.reduceLT, Int.reduceLE, leafys_ints, leafys_lis, two_str, eqv_sstr, mkTupF_xo, mkTupF_ox, mkTupF_oxx, mkTupF_xox, mkTupF_xxo, mkTupF_xt, mkTupF_tx, mkTupF_txx, mkTupF_xtx, mkTupF_xxt, mkLst_2, mkLst_3, mkLst_4, elems_tupT, elems_ownT, Bool.or_true, List.contains_cons, List.contains_nil, res1, resAll, resAll_nil, Option.map_some, Option.map_none, pr, pr1, pr2, int1, int2, intOf, oI, oB, Ev.data2, isNone, rdVar, mvVar, argO, argOs, lent, Ev.borrowed, endCall, Ev.finish, outOf, doCall, leafy, leafyOut, List.map_cons, List.map_nil, List.cons_append, List.nil_append, List.append_nil, List.length_cons, List.length_nil, List.getElem?_cons_zero, List.getElem?_cons_succ, Nat.reduceAdd, Nat.reduceSub, Nat.zero_add, List.replicate_succ, List.replicate_zero, List.any_cons, List.any_nil, Bool.or_false, Bool.false_or, Bool.and_true, Bool.true_and, Bool.false_and, Bool.and_false, Bool.not_true, Bool.not_false, noList, noLists, leafys, Bool.false_eq_true, if_true, if_false, ite_true, ite_false, reduceIte, List.set_cons_zero, List.set_cons_succ, O.d, liftS, setN, doTg, doTgs, decide_true, decide_false, Nat.reduceLT, Nat.reduceBEq, Nat.reduceEqDiff, beq_self_eq_true, E__law_code_ps, E__law_code_io, E_distance_ps, E_distance_io, E__law_apart_ps, E__law_apart_io, E__law_off_ps, E__law_off_io, E_how_many_at_ps, E_how_many_at_io, dS, rC, e5, hg'.leafy, e6, e7, rA, e8, perm3, rangeIt1 (w + 2) (by omega), show (w : Int) + 2 = ((w + 2 : Nat) : Int) from rfl]
      repeat (first | with_reducible refine sat_seq ?_ | with_reducible refine sat_st ?_ | with_reducible refine sat_bind ?_ | with_reducible refine sat_asBool ?_)
      rw [rangeD_rng]
      refine sat_compA PyData.int (rng (w + 2)) (fun e => ∃ x13, e = [some g', some (.v (.int w)), some (OSy l ts t), some (.v (.int l.prod)), some (.v (.str (Sy l ts t).shown)), some (.v (.int (l.prod ^ w))), x6, some (.v (Li c)), some (.v (.str (Li c).shown)), some (OLi d), some (.v (.int (off l ts t c))), some (.v (.int 0)), x12, x13, x14, x15, x16]) (fun x => O.v (.int (toldF l ts t c x))) ⟨_, rfl⟩ (by rw [rng_len, Sz]; omega) ?_ ?_
      · rintro x hx e ⟨y, rfl⟩
        obtain ⟨j, hj, rfl⟩ := List.mem_map.1 hx
        refine ⟨_, rfl, ?_⟩
        have ej : E_how_many_at.sem [.v (Sy l ts t), .v (Li c), .v (.int j)] = .ok (.v (.int (toldF l ts t c j))) none := by
          unfold toldF
          rw [Int.toNat_natCast]
          split
          · exact p_how_many_at l ts t hs (by omega) c hc j (by assumption)
          · exact p_how_many_far l ts t hs c hc j (by omega)
        simp only [exs, ex1, den, denPs, denP, denEs, denC, denO, denI, bind_ok, st_okq, seq_next, seq_ret, lift_some, look0, lookS, asBool_ok, lift_none, and_ok, or_ok, Tgt.slots, wipeE, backE, keepV, Tgt.put, setMany, ds_map_vq, ds_nilq, filter_ff, rev_mapq, mkTup_v, mkTupF_1, mkTupF_2, mkTupF_3, mkLst_1, seqD_list, seqD_tuple, seqD_own, all_isV, rsat_ok, ssat_next, ssat_ret, Function.comp_apply, addV_int, rdIdx, elems_own, elems_list, elems_tup, Bool.true_or, List.length_map, List.isEmpty_nil, List.isEmpty_cons, isiD_tuple, isiD_list, mkTupF_nil, mkLst_nil, shaped_int, shaped_none, shaped_bool, shaped_Li, shaped_Ti, shaped_LLi, shaped_Lnil, shaped_Tnil, eqv_int, eqv_Li, eqv_Ti, eqv_LLi, eqv_Lnil, eqv_Tnil, bool2, List.isEmpty_map, List.getElem_map, Int.reduceLT, Int.reduceLE, leafys_ints, leafys_lis, two_str, eqv_sstr, mkTupF_xo, mkTupF_ox, mkTupF_oxx, mkTupF_xox, mkTupF_xxo, mkTupF_xt, mkTupF_tx, mkTupF_txx, mkTupF_xtx, mkTupF_xxt, mkLst_2, mkLst_3, mkLst_4, elems_tupT, elems_ownT, Bool.or_true, List.contains_cons, List.contains_nil, res1, resAll, resAll_nil, Option.map_some, Option.map_none, pr, pr1, pr2, int1, int2, intOf, oI, oB, Ev.data2, isNone, rdVar, mvVar, argO, argOs, lent, Ev.borrowed, endCall, Ev.finish, outOf, doCall, leafy, leafyOut, List.map_cons, List.map_nil, List.cons_append, List.nil_append, List.append_nil, List.length_cons, List.length_nil, List.getElem?_cons_zero, List.getElem?_cons_succ, Nat.reduceAdd, Nat.reduceSub, Nat.zero_add, List.replicate_succ, List.replicate_zero, List.any_cons, List.any_nil, Bool.or_false, Bool.false_or, Bool.and_true, Bool.true_and, Bool.false_and, Bool.and_false, Bool.not_true, Bool.not_false, noList, noLists, leafys, Bool.false_eq_true, if_true, if_false, ite_true, ite_false, reduceIte, List.set_cons_zero, List.set_cons_succ, O.d, liftS, setN, doTg, doTgs, decide_true, decide_false, Nat.reduceLT, Nat.reduceBEq, Nat.reduceEqDiff, beq_self_eq_true, E_how_many_at_ps, E_how_many_at_io, Int.ofNat_eq_natCast, dS, ej, true_and]
        exact ⟨_, rfl⟩
      · rintro e ⟨y, rfl⟩
        have hT : (rng (w + 2)).map (fun x => O.v (.int (toldF l ts t c x))) = ((toldL l ts t c).map .int).map .v := by
          rw [toldL, hts, List.map_map, List.map_map]; rfl
        rw [hT]
        have rT := rep_told hs (by omega) hlp c
        have eC := p__law_counts l.prod.toNat w hN2 (by omega) (by omega) (decide (off l ts t c = 0))
        rw [← hN] at eC
        have eT := toldL_eq l ts t c
        rw [hts] at eT
        have eA : ∀ q : List Int, q.length < 1000 → addV true (OLi q) true (.own [.v (.int 0)]) = some (OLi (q ++ [0])) := fun q hq => by
          have := addV_oo true true (q.map .int) [.int 0] (by simp [Sz]; omega)
          rw [show OLi (q ++ [0]) = O.own ((q.map PyData.int ++ [PyData.int 0]).map O.v) by simp only [OLi, List.map_append]; rfl]; exact this
        simp only [exs, ex1, den, denPs, denP, denEs, denC, denO, denI, bind_ok, st_okq, seq_next, seq_ret, lift_some, look0, lookS, asBool_ok, lift_none, and_ok, or_ok, Tgt.slots, wipeE, backE, keepV, Tgt.put, setMany, ds_map_vq, ds_nilq, filter_ff, rev_mapq, mkTup_v, mkTupF_1, mkTupF_2, mkTupF_3, mkLst_1, seqD_list, seqD_tuple, seqD_own, all_isV, rsat_ok, ssat_next, ssat_ret, Function.comp_apply, addV_int, rdIdx, elems_own, elems_list, elems_tup, Bool.true_or, List.length_map, List.isEmpty_nil, List.isEmpty_cons, isiD_tuple, isiD_list, mkTupF_nil, mkLst_nil, shaped_int, shaped_none, shaped_bool, shaped_Li, shaped_Ti, shaped_LLi, shaped_Lnil, shaped_Tnil, eqv_int, eqv_Li, eqv_Ti, eqv_LLi, eqv_Lnil, eqv_Tnil, bool2, List.isEmpty_map, List.getElem_map, Int.reduceLT, Int.reduceLE, leafys_ints, leafys_lis, two_str, eqv_sstr, mkTupF_xo, mkTupF_ox, mkTupF_oxx, mkTupF_xox, mkTupF_xxo, mkTupF_xt, mkTupF_tx, mkTupF_txx, mkTupF_xtx, mkTupF_xxt, mkLst_2, mkLst_3, mkLst_4, elems_tupT, elems_ownT, Bool.or_true, List.contains_cons, List.contains_nil, res1, resAll, resAll_nil, Option.map_some, Option.map_none, pr, pr1, pr2, int1, int2, intOf, oI, oB, Ev.data2, isNone, rdVar, mvVar, argO, argOs, lent, Ev.borrowed, endCall, Ev.finish, outOf, doCall, leafy, leafyOut, List.map_cons, List.map_nil, List.cons_append, List.nil_append, List.append_nil, List.length_cons, List.length_nil, List.getElem?_cons_zero, List.getElem?_cons_succ, Nat.reduceAdd, Nat.reduceSub, Nat.zero_add, List.replicate_succ, List.replicate_zero, List.any_cons, List.any_nil, Bool.or_false, Bool.false_or, Bool.and_true, Bool.true_and, Bool.false_and, Bool.and_false, Bool.not_true, Bool.not_false, noList, noLists, leafys, Bool.false_eq_true, if_true, if_false, ite_true, ite_false, reduceIte, List.set_cons_zero, List.set_cons_succ, O.d, liftS, setN, doTg, doTgs, decide_true, decide_false, Nat.reduceLT, Nat.reduceBEq, Nat.reduceEqDiff, beq_self_eq_true, E__law_counts_ps, E__law_counts_io, rT, eC, eA _ (show ((List.range (w + 1)).map fun k => ((ch w k * wy l.prod.toNat k (decide (off l ts t c = 0)) : Nat) : Int)).length < 1000 by simp; omega), ← eT]
        refine sat_seq (ssat_mono (N := fun e => ∃ x13 x14 x15, e = [some g', some (.v (.int w)), some (OSy l ts t), some (.v (.int l.prod)), some (.v (.str (Sy l ts t).shown)), some (.v (.int (l.prod ^ w))), x6, some (.v (Li c)), some (.v (.str (Li c).shown)), some (OLi d), some (.v (.int (off l ts t c))), some (.v (.int 0)), some (OLi (toldL l ts t c)), x13, x14, x15, x16]) (R := fun _ _ => False) ?_ ?_ (fun _ _ h => h.elim))
        · by_cases hlt : l.prod ^ w < 400
          · have hpw : l.prod.toNat ^ w < 400 := by
              have : ((l.prod.toNat ^ w : Nat) : Int) < 400 := by rw [Int.natCast_pow, ← hN]; exact hlt
              omega
            have eAll := p__law_all l.prod.toNat w (by omega) (by omega) (by omega) (by omega) (by omega)
            rw [← hN] at eAll
            have hal : (allC l.prod.toNat w).length < 400 := by rw [allC_len]; exact hpw
            simp only [exs, ex1, den, denPs, denP, denEs, denC, denO, denI, bind_ok, st_okq, seq_next, seq_ret, lift_some, look0, lookS, asBool_ok, lift_none, and_ok, or_ok, Tgt.slots, wipeE, backE, keepV, Tgt.put, setMany, ds_map_vq, ds_nilq, filter_ff, rev_mapq, mkTup_v, mkTupF_1, mkTupF_2, mkTupF_3, mkLst_1, seqD_list, seqD_tuple, seqD_own, all_isV, rsat_ok, ssat_next, ssat_ret, Function.comp_apply, addV_int, rdIdx, elems_own, elems_list, elems_tup, Bool.true_or, List.length_map, List.isEmpty_nil, List.isEmpty_cons, isiD_tuple, isiD_list, mkTupF_nil, mkLst_nil, shaped_int, shaped_none, shaped_bool, shaped_Li, shaped_Ti, shaped_LLi, shaped_Lnil, shaped_Tnil, eqv_int, eqv_Li, eqv_Ti, eqv_LLi, eqv_Lnil, eqv_Tnil, bool2, List.isEmpty_map, List.getElem_map, Int.reduceLT, Int.reduceLE, leafys_ints, leafys_lis, two_str, eqv_sstr, mkTupF_xo, mkTupF_ox, mkTupF_oxx, mkTupF_xox, mkTupF_xxo, mkTupF_xt, mkTupF_tx, mkTupF_txx, mkTupF_xtx, mkTupF_xxt, mkLst_2, mkLst_3, mkLst_4, elems_tupT, elems_ownT, Bool.or_true, List.contains_cons, List.contains_nil, res1, resAll, resAll_nil, Option.map_some, Option.map_none, pr, pr1, pr2, int1, int2, intOf, oI, oB, Ev.data2, isNone, rdVar, mvVar, argO, argOs, lent, Ev.borrowed, endCall, Ev.finish, outOf, doCall, leafy, leafyOut, List.map_cons, List.map_nil, List.cons_append, List.nil_append, List.append_nil, List.length_cons, List.length_nil, List.getElem?_cons_zero, List.getElem?_cons_succ, Nat.reduceAdd, Nat.reduceSub, Nat.zero_add, List.replicate_succ, List.replicate_zero, List.any_cons, List.any_nil, Bool.or_false, Bool.false_or, Bool.and_true, Bool.true_and, Bool.false_and, Bool.and_false, Bool.not_true, Bool.not_false, noList, noLists, leafys, Bool.false_eq_true, if_true, if_false, ite_true, ite_false, reduceIte, List.set_cons_zero, List.set_cons_succ, O.d, liftS, setN, doTg, doTgs, decide_true, decide_false, Nat.reduceLT, Nat.reduceBEq, Nat.reduceEqDiff, beq_self_eq_true, hlt, E__law_all_ps, E__law_all_io, eAll]
            repeat (first | with_reducible refine sat_seq ?_ | with_reducible refine sat_st ?_ | with_reducible refine sat_bind ?_ | with_reducible refine sat_asBool ?_)
            refine sat_compM (fun r : List Int => PyData.list (r.map .int)) (allC l.prod.toNat w) (fun e => ∃ x15, e = [some g', some (.v (.int w)), some (OSy l ts t), some (.v (.int l.prod)), some (.v (.str (Sy l ts t).shown)), some (.v (.int (l.prod ^ w))), x6, some (.v (Li c)), some (.v (.str (Li c).shown)), some (OLi d), some (.v (.int (off l ts t c))), some (.v (.int 0)), some (OLi (toldL l ts t c)), (match x13 with | some (O.v d) => some (O.v d) | x => none), x14, x15, x16]) (fun r => decide (off l ts t r = 0)) (fun r => O.v (Li r)) ⟨_, rfl⟩ (by rw [Sz]; omega) ?_ ?_
            · rintro r hr e ⟨y, rfl⟩
              have hrm := allC_mem hr
              have hrc : Code l ts r := ⟨by rw [hrm.1, hts], fun z hz => by have := hrm.2 z hz; rw [← hN] at this; exact this⟩
              refine ⟨_, rfl, ?_⟩
              simp only [exs, ex1, den, denPs, denP, denEs, denC, denO, denI, bind_ok, st_okq, seq_next, seq_ret, lift_some, look0, lookS, asBool_ok, lift_none, and_ok, or_ok, Tgt.slots, wipeE, backE, keepV, Tgt.put, setMany, ds_map_vq, ds_nilq, filter_ff, rev_mapq, mkTup_v, mkTupF_1, mkTupF_2, mkTupF_3, mkLst_1, seqD_list, seqD_tuple, seqD_own, all_isV, rsat_ok, ssat_next, ssat_ret, Function.comp_apply, addV_int, rdIdx, elems_own, elems_list, elems_tup, Bool.true_or, List.length_map, List.isEmpty_nil, List.isEmpty_cons, isiD_tuple, isiD_list, mkTupF_nil, mkLst_nil, shaped_int, shaped_none, shaped_bool, shaped_Li, shaped_Ti, shaped_LLi, shaped_Lnil, shaped_Tnil, eqv_int, eqv_Li, eqv_Ti, eqv_LLi, eqv_Lnil, eqv_Tnil, bool2, List.isEmpty_map, List.getElem_map, Int.reduceLT, Int.reduceLE, leafys_ints, leafys_lis, two_str, eqv_sstr, mkTupF_xo, mkTupF_ox, mkTupF_oxx, mkTupF_xox, mkTupF_xxo, mkTupF_xt, mkTupF_tx, mkTupF_txx, mkTupF_xtx, mkTupF_xxt, mkLst_2, mkLst_3, mkLst_4, elems_tupT, elems_ownT, Bool.or_true, List.contains_cons, List.contains_nil, res1, resAll, resAll_nil, Option.map_some, Option.map_none, pr, pr1, pr2, int1, int2, intOf, oI, oB, Ev.data2, isNone, rdVar, mvVar, argO, argOs, lent, Ev.borrowed, endCall, Ev.finish, outOf, doCall, leafy, leafyOut, List.map_cons, List.map_nil, List.cons_append, List.nil_append, List.append_nil, List.length_cons, List.length_nil, List.getElem?_cons_zero, List.getElem?_cons_succ, Nat.reduceAdd, Nat.reduceSub, Nat.zero_add, List.replicate_succ, List.replicate_zero, List.any_cons, List.any_nil, Bool.or_false, Bool.false_or, Bool.and_true, Bool.true_and, Bool.false_and, Bool.and_false, Bool.not_true, Bool.not_false, noList, noLists, leafys, Bool.false_eq_true, if_true, if_false, ite_true, ite_false, reduceIte, List.set_cons_zero, List.set_cons_succ, O.d, liftS, setN, doTg, doTgs, decide_true, decide_false, Nat.reduceLT, Nat.reduceBEq, Nat.reduceEqDiff, beq_self_eq_true, E__law_off_ps, E__law_off_io, dS, p__law_off l ts t hs r hrc]
              refine ⟨trivial, ?_⟩
              by_cases e : off l ts t r = 0 <;> simp [e, Res.sat]
            · rintro e ⟨y, rfl⟩
              simp only [exs, ex1, den, denPs, denP, denEs, denC, denO, denI, bind_ok, st_okq, seq_next, seq_ret, lift_some, look0, lookS, asBool_ok, lift_none, and_ok, or_ok, Tgt.slots, wipeE, backE, keepV, Tgt.put, setMany, ds_map_vq, ds_nilq, filter_ff, rev_mapq, mkTup_v, mkTupF_1, mkTupF_2, mkTupF_3, mkLst_1, seqD_list, seqD_tuple, seqD_own, all_isV, rsat_ok, ssat_next, ssat_ret, Function.comp_apply, addV_int, rdIdx, elems_own, elems_list, elems_tup, Bool.true_or, List.length_map, List.isEmpty_nil, List.isEmpty_cons, isiD_tuple, isiD_list, mkTupF_nil, mkLst_nil, shaped_int, shaped_none, shaped_bool, shaped_Li, shaped_Ti, shaped_LLi, shaped_Lnil, shaped_Tnil, eqv_int, eqv_Li, eqv_Ti, eqv_LLi, eqv_Lnil, eqv_Tnil, bool2, List.isEmpty_map, List.getElem_map, Int.reduceLT, Int.reduceLE, leafys_ints, leafys_lis, two_str, eqv_sstr, mkTupF_xo, mkTupF_ox, mkTupF_oxx, mkTupF_xox, mkTupF_xxo, mkTupF_xt, mkTupF_tx, mkTupF_txx, mkTupF_xtx, mkTupF_xxt, mkLst_2, mkLst_3, mkLst_4, elems_tupT, elems_ownT, Bool.or_true, List.contains_cons, List.contains_nil, res1, resAll, resAll_nil, Option.map_some, Option.map_none, pr, pr1, pr2, int1, int2, intOf, oI, oB, Ev.data2, isNone, rdVar, mvVar, argO, argOs, lent, Ev.borrowed, endCall, Ev.finish, outOf, doCall, leafy, leafyOut, List.map_cons, List.map_nil, List.cons_append, List.nil_append, List.append_nil, List.length_cons, List.length_nil, List.getElem?_cons_zero, List.getElem?_cons_succ, Nat.reduceAdd, Nat.reduceSub, Nat.zero_add, List.replicate_succ, List.replicate_zero, List.any_cons, List.any_nil, Bool.or_false, Bool.false_or, Bool.and_true, Bool.true_and, Bool.false_and, Bool.and_false, Bool.not_true, Bool.not_false, noList, noLists, leafys, Bool.false_eq_true, if_true, if_false, ite_true, ite_false, reduceIte, List.set_cons_zero, List.set_cons_succ, O.d, liftS, setN, doTg, doTgs, decide_true, decide_false, Nat.reduceLT, Nat.reduceBEq, Nat.reduceEqDiff, beq_self_eq_true, rT, rangeIt1 (w + 2) (by omega), show (w : Int) + 2 = ((w + 2 : Nat) : Int) from rfl, rangeD_rng]
              have hfl : ((allC l.prod.toNat w).filter fun r => decide (off l ts t r = 0)).length ≤ (allC l.prod.toNat w).length := List.length_filter_le _ _
              repeat (first | with_reducible refine sat_seq ?_ | with_reducible refine sat_st ?_ | with_reducible refine sat_bind ?_ | with_reducible refine sat_asBool ?_)
              refine sat_compA PyData.int (rng (w + 2)) (fun e => ∃ o x13 x15, o.d = Lli ((allC l.prod.toNat w).filter fun r => decide (off l ts t r = 0)) ∧ e = [some g', some (.v (.int w)), some (OSy l ts t), some (.v (.int l.prod)), some (.v (.str (Sy l ts t).shown)), some (.v (.int (l.prod ^ w))), x6, some (.v (Li c)), some (.v (.str (Li c).shown)), some (OLi d), some (.v (.int (off l ts t c))), some (.v (.int 0)), some (OLi (toldL l ts t c)), x13, some o, x15, x16]) (fun x => O.v (.int (toldF l ts t c x))) ⟨_, _, _, by simp only [O.d, ds_vLi], rfl⟩ (by rw [rng_len, Sz]; omega) ?_ ?_
              · rintro x hx e ⟨o, y13, y15, ho, rfl⟩
                refine ⟨_, rfl, ?_⟩
                simp only [exs, ex1, den, denPs, denP, denEs, denC, denO, denI, bind_ok, st_okq, seq_next, seq_ret, lift_some, look0, lookS, asBool_ok, lift_none, and_ok, or_ok, Tgt.slots, wipeE, backE, keepV, Tgt.put, setMany, ds_map_vq, ds_nilq, filter_ff, rev_mapq, mkTup_v, mkTupF_1, mkTupF_2, mkTupF_3, mkLst_1, seqD_list, seqD_tuple, seqD_own, all_isV, rsat_ok, ssat_next, ssat_ret, Function.comp_apply, addV_int, rdIdx, elems_own, elems_list, elems_tup, Bool.true_or, List.length_map, List.isEmpty_nil, List.isEmpty_cons, isiD_tuple, isiD_list, mkTupF_nil, mkLst_nil, shaped_int, shaped_none, shaped_bool, shaped_Li, shaped_Ti, shaped_LLi, shaped_Lnil, shaped_Tnil, eqv_int, eqv_Li, eqv_Ti, eqv_LLi, eqv_Lnil, eqv_Tnil, bool2, List.isEmpty_map, List.getElem_map, Int.reduceLT, Int.reduceLE, leafys_ints, leafys_lis, two_str, eqv_sstr, mkTupF_xo, mkTupF_ox, mkTupF_oxx, mkTupF_xox, mkTupF_xxo, mkTupF_xt, mkTupF_tx, mkTupF_txx, mkTupF_xtx, mkTupF_xxt, mkLst_2, mkLst_3, mkLst_4, elems_tupT, elems_ownT, Bool.or_true, List.contains_cons, List.contains_nil, res1, resAll, resAll_nil, Option.map_some, Option.map_none, pr, pr1, pr2, int1, int2, intOf, oI, oB, Ev.data2, isNone, rdVar, mvVar, argO, argOs, lent, Ev.borrowed, endCall, Ev.finish, outOf, doCall, leafy, leafyOut, List.map_cons, List.map_nil, List.cons_append, List.nil_append, List.append_nil, List.length_cons, List.length_nil, List.getElem?_cons_zero, List.getElem?_cons_succ, Nat.reduceAdd, Nat.reduceSub, Nat.zero_add, List.replicate_succ, List.replicate_zero, List.any_cons, List.any_nil, Bool.or_false, Bool.false_or, Bool.and_true, Bool.true_and, Bool.false_and, Bool.and_false, Bool.not_true, Bool.not_false, noList, noLists, leafys, Bool.false_eq_true, if_true, if_false, ite_true, ite_false, reduceIte, List.set_cons_zero, List.set_cons_succ, O.d, liftS, setN, doTg, doTgs, decide_true, decide_false, Nat.reduceLT, Nat.reduceBEq, Nat.reduceEqDiff, beq_self_eq_true, ho, true_and]
                repeat (first | with_reducible refine sat_seq ?_ | with_reducible refine sat_st ?_ | with_reducible refine sat_bind ?_ | with_reducible refine sat_asBool ?_)
                refine sat_compM (fun r : List Int => PyData.list (r.map .int)) ((allC l.prod.toNat w).filter fun r => decide (off l ts t r = 0)) (fun e => ∃ x15, e = [some g', some (.v (.int w)), some (OSy l ts t), some (.v (.int l.prod)), some (.v (.str (Sy l ts t).shown)), some (.v (.int (l.prod ^ w))), x6, some (.v (Li c)), some (.v (.str (Li c).shown)), some (OLi d), some (.v (.int (off l ts t c))), some (.v (.int 0)), some (OLi (toldL l ts t c)), some (.v (.int x)), some (.v (Lli ((allC l.prod.toNat w).filter fun r => decide (off l ts t r = 0)))), x15, x16]) (fun r => decide ((apartN r c : Int) = x)) (fun r => O.v (Li r)) ⟨_, rfl⟩ (by rw [Sz]; omega) ?_ ?_
                · rintro r hr e ⟨y, rfl⟩
                  have hrm := allC_mem (List.mem_filter.1 hr).1
                  refine ⟨_, rfl, ?_⟩
                  simp only [exs, ex1, den, denPs, denP, denEs, denC, denO, denI, bind_ok, st_okq, seq_next, seq_ret, lift_some, look0, lookS, asBool_ok, lift_none, and_ok, or_ok, Tgt.slots, wipeE, backE, keepV, Tgt.put, setMany, ds_map_vq, ds_nilq, filter_ff, rev_mapq, mkTup_v, mkTupF_1, mkTupF_2, mkTupF_3, mkLst_1, seqD_list, seqD_tuple, seqD_own, all_isV, rsat_ok, ssat_next, ssat_ret, Function.comp_apply, addV_int, rdIdx, elems_own, elems_list, elems_tup, Bool.true_or, List.length_map, List.isEmpty_nil, List.isEmpty_cons, isiD_tuple, isiD_list, mkTupF_nil, mkLst_nil, shaped_int, shaped_none, shaped_bool, shaped_Li, shaped_Ti, shaped_LLi, shaped_Lnil, shaped_Tnil, eqv_int, eqv_Li, eqv_Ti, eqv_LLi, eqv_Lnil, eqv_Tnil, bool2, List.isEmpty_map, List.getElem_map, Int.reduceLT, Int.reduceLE, leafys_ints, leafys_lis, two_str, eqv_sstr, mkTupF_xo, mkTupF_ox, mkTupF_oxx, mkTupF_xox, mkTupF_xxo, mkTupF_xt, mkTupF_tx, mkTupF_txx, mkTupF_xtx, mkTupF_xxt, mkLst_2, mkLst_3, mkLst_4, elems_tupT, elems_ownT, Bool.or_true, List.contains_cons, List.contains_nil, res1, resAll, resAll_nil, Option.map_some, Option.map_none, pr, pr1, pr2, int1, int2, intOf, oI, oB, Ev.data2, isNone, rdVar, mvVar, argO, argOs, lent, Ev.borrowed, endCall, Ev.finish, outOf, doCall, leafy, leafyOut, List.map_cons, List.map_nil, List.cons_append, List.nil_append, List.append_nil, List.length_cons, List.length_nil, List.getElem?_cons_zero, List.getElem?_cons_succ, Nat.reduceAdd, Nat.reduceSub, Nat.zero_add, List.replicate_succ, List.replicate_zero, List.any_cons, List.any_nil, Bool.or_false, Bool.false_or, Bool.and_true, Bool.true_and, Bool.false_and, Bool.and_false, Bool.not_true, Bool.not_false, noList, noLists, leafys, Bool.false_eq_true, if_true, if_false, ite_true, ite_false, reduceIte, List.set_cons_zero, List.set_cons_succ, O.d, liftS, setN, doTg, doTgs, decide_true, decide_false, Nat.reduceLT, Nat.reduceBEq, Nat.reduceEqDiff, beq_self_eq_true, E__law_apart_ps, E__law_apart_io, p__law_apart r c (by omega) (by omega)]
                  refine ⟨trivial, ?_⟩
                  by_cases e : (apartN r c : Int) = x <;> simp [e, Res.sat]
                · rintro e ⟨y, rfl⟩
                  have hb := brute hs hc x (by rw [hts]; exact hx)
                  rw [hts] at hb
                  simp only [exs, ex1, den, denPs, denP, denEs, denC, denO, denI, bind_ok, st_okq, seq_next, seq_ret, lift_some, look0, lookS, asBool_ok, lift_none, and_ok, or_ok, Tgt.slots, wipeE, backE, keepV, Tgt.put, setMany, ds_map_vq, ds_nilq, filter_ff, rev_mapq, mkTup_v, mkTupF_1, mkTupF_2, mkTupF_3, mkLst_1, seqD_list, seqD_tuple, seqD_own, all_isV, rsat_ok, ssat_next, ssat_ret, Function.comp_apply, addV_int, rdIdx, elems_own, elems_list, elems_tup, Bool.true_or, List.length_map, List.isEmpty_nil, List.isEmpty_cons, isiD_tuple, isiD_list, mkTupF_nil, mkLst_nil, shaped_int, shaped_none, shaped_bool, shaped_Li, shaped_Ti, shaped_LLi, shaped_Lnil, shaped_Tnil, eqv_int, eqv_Li, eqv_Ti, eqv_LLi, eqv_Lnil, eqv_Tnil, bool2, List.isEmpty_map, List.getElem_map, Int.reduceLT, Int.reduceLE, leafys_ints, leafys_lis, two_str, eqv_sstr, mkTupF_xo, mkTupF_ox, mkTupF_oxx, mkTupF_xox, mkTupF_xxo, mkTupF_xt, mkTupF_tx, mkTupF_txx, mkTupF_xtx, mkTupF_xxt, mkLst_2, mkLst_3, mkLst_4, elems_tupT, elems_ownT, Bool.or_true, List.contains_cons, List.contains_nil, res1, resAll, resAll_nil, Option.map_some, Option.map_none, pr, pr1, pr2, int1, int2, intOf, oI, oB, Ev.data2, isNone, rdVar, mvVar, argO, argOs, lent, Ev.borrowed, endCall, Ev.finish, outOf, doCall, leafy, leafyOut, List.map_cons, List.map_nil, List.cons_append, List.nil_append, List.append_nil, List.length_cons, List.length_nil, List.getElem?_cons_zero, List.getElem?_cons_succ, Nat.reduceAdd, Nat.reduceSub, Nat.zero_add, List.replicate_succ, List.replicate_zero, List.any_cons, List.any_nil, Bool.or_false, Bool.false_or, Bool.and_true, Bool.true_and, Bool.false_and, Bool.and_false, Bool.not_true, Bool.not_false, noList, noLists, leafys, Bool.false_eq_true, if_true, if_false, ite_true, ite_false, reduceIte, List.set_cons_zero, List.set_cons_succ, O.d, liftS, setN, doTg, doTgs, decide_true, decide_false, Nat.reduceLT, Nat.reduceBEq, Nat.reduceEqDiff, beq_self_eq_true, lenV, ds_vLi, hb, true_and]
                  exact ⟨_, _, _, rfl, rfl⟩
              · rintro e ⟨o, y13, y15, ho, rfl⟩
                simp only [hT]
                simp only [exs, ex1, den, denPs, denP, denEs, denC, denO, denI, bind_ok, st_okq, seq_next, seq_ret, lift_some, look0, lookS, asBool_ok, lift_none, and_ok, or_ok, Tgt.slots, wipeE, backE, keepV, Tgt.put, setMany, ds_map_vq, ds_nilq, filter_ff, rev_mapq, mkTup_v, mkTupF_1, mkTupF_2, mkTupF_3, mkLst_1, seqD_list, seqD_tuple, seqD_own, all_isV, rsat_ok, ssat_next, ssat_ret, Function.comp_apply, addV_int, rdIdx, elems_own, elems_list, elems_tup, Bool.true_or, List.length_map, List.isEmpty_nil, List.isEmpty_cons, isiD_tuple, isiD_list, mkTupF_nil, mkLst_nil, shaped_int, shaped_none, shaped_bool, shaped_Li, shaped_Ti, shaped_LLi, shaped_Lnil, shaped_Tnil, eqv_int, eqv_Li, eqv_Ti, eqv_LLi, eqv_Lnil, eqv_Tnil, bool2, List.isEmpty_map, List.getElem_map, Int.reduceLT, Int.reduceLE, leafys_ints, leafys_lis, two_str, eqv_sstr, mkTupF_xo, mkTupF_ox, mkTupF_oxx, mkTupF_xox, mkTupF_xxo, mkTupF_xt, mkTupF_tx, mkTupF_txx, mkTupF_xtx, mkTupF_xxt, mkLst_2, mkLst_3, mkLst_4, elems_tupT, elems_ownT, Bool.or_true, List.contains_cons, List.contains_nil, res1, resAll, resAll_nil, Option.map_some, Option.map_none, pr, pr1, pr2, int1, int2, intOf, oI, oB, Ev.data2, isNone, rdVar, mvVar, argO, argOs, lent, Ev.borrowed, endCall, Ev.finish, outOf, doCall, leafy, leafyOut, List.map_cons, List.map_nil, List.cons_append, List.nil_append, List.append_nil, List.length_cons, List.length_nil, List.getElem?_cons_zero, List.getElem?_cons_succ, Nat.reduceAdd, Nat.reduceSub, Nat.zero_add, List.replicate_succ, List.replicate_zero, List.any_cons, List.any_nil, Bool.or_false, Bool.false_or, Bool.and_true, Bool.true_and, Bool.false_and, Bool.and_false, Bool.not_true, Bool.not_false, noList, noLists, leafys, Bool.false_eq_true, if_true, if_false, ite_true, ite_false, reduceIte, List.set_cons_zero, List.set_cons_succ, O.d, liftS, setN, doTg, doTgs, decide_true, decide_false, Nat.reduceLT, Nat.reduceBEq, Nat.reduceEqDiff, beq_self_eq_true, rT]
                refine ⟨_, rfl, ?_⟩
                simp only [exs, ex1, den, denPs, denP, denEs, denC, denO, denI, bind_ok, st_okq, seq_next, seq_ret, lift_some, look0, lookS, asBool_ok, lift_none, and_ok, or_ok, Tgt.slots, wipeE, backE, keepV, Tgt.put, setMany, ds_map_vq, ds_nilq, filter_ff, rev_mapq, mkTup_v, mkTupF_1, mkTupF_2, mkTupF_3, mkLst_1, seqD_list, seqD_tuple, seqD_own, all_isV, rsat_ok, ssat_next, ssat_ret, Function.comp_apply, addV_int, rdIdx, elems_own, elems_list, elems_tup, Bool.true_or, List.length_map, List.isEmpty_nil, List.isEmpty_cons, isiD_tuple, isiD_list, mkTupF_nil, mkLst_nil, shaped_int, shaped_none, shaped_bool, shaped_Li, shaped_Ti, shaped_LLi, shaped_Lnil, shaped_Tnil, eqv_int, eqv_Li, eqv_Ti, eqv_LLi, eqv_Lnil, eqv_Tnil, bool2, List.isEmpty_map, List.getElem_map, Int.reduceLT, Int.reduceLE, leafys_ints, leafys_lis, two_str, eqv_sstr, mkTupF_xo, mkTupF_ox, mkTupF_oxx, mkTupF_xox, mkTupF_xxo, mkTupF_xt, mkTupF_tx, mkTupF_txx, mkTupF_xtx, mkTupF_xxt, mkLst_2, mkLst_3, mkLst_4, elems_tupT, elems_ownT, Bool.or_true, List.contains_cons, List.contains_nil, res1, resAll, resAll_nil, Option.map_some, Option.map_none, pr, pr1, pr2, int1, int2, intOf, oI, oB, Ev.data2, isNone, rdVar, mvVar, argO, argOs, lent, Ev.borrowed, endCall, Ev.finish, outOf, doCall, leafy, leafyOut, List.map_cons, List.map_nil, List.cons_append, List.nil_append, List.append_nil, List.length_cons, List.length_nil, List.getElem?_cons_zero, List.getElem?_cons_succ, Nat.reduceAdd, Nat.reduceSub, Nat.zero_add, List.replicate_succ, List.replicate_zero, List.any_cons, List.any_nil, Bool.or_false, Bool.false_or, Bool.and_true, Bool.true_and, Bool.false_and, Bool.and_false, Bool.not_true, Bool.not_false, noList, noLists, leafys, Bool.false_eq_true, if_true, if_false, ite_true, ite_false, reduceIte, List.set_cons_zero, List.set_cons_succ, O.d, liftS, setN, doTg, doTgs, decide_true, decide_false, Nat.reduceLT, Nat.reduceBEq, Nat.reduceEqDiff, beq_self_eq_true]
                exact ⟨_, _, _, rfl⟩
          · simp only [exs, ex1, den, denPs, denP, denEs, denC, denO, denI, bind_ok, st_okq, seq_next, seq_ret, lift_some, look0, lookS, asBool_ok, lift_none, and_ok, or_ok, Tgt.slots, wipeE, backE, keepV, Tgt.put, setMany, ds_map_vq, ds_nilq, filter_ff, rev_mapq, mkTup_v, mkTupF_1, mkTupF_2, mkTupF_3, mkLst_1, seqD_list, seqD_tuple, seqD_own, all_isV, rsat_ok, ssat_next, ssat_ret, Function.comp_apply, addV_int, rdIdx, elems_own, elems_list, elems_tup, Bool.true_or, List.length_map, List.isEmpty_nil, List.isEmpty_cons, isiD_tuple, isiD_list, mkTupF_nil, mkLst_nil, shaped_int, shaped_none, shaped_bool, shaped_Li, shaped_Ti, shaped_LLi, shaped_Lnil, shaped_Tnil, eqv_int, eqv_Li, eqv_Ti, eqv_LLi, eqv_Lnil, eqv_Tnil, bool2, List.isEmpty_map, List.getElem_map, Int.reduceLT, Int.reduceLE, leafys_ints, leafys_lis, two_str, eqv_sstr, mkTupF_xo, mkTupF_ox, mkTupF_oxx, mkTupF_xox, mkTupF_xxo, mkTupF_xt, mkTupF_tx, mkTupF_txx, mkTupF_xtx, mkTupF_xxt, mkLst_2, mkLst_3, mkLst_4, elems_tupT, elems_ownT, Bool.or_true, List.contains_cons, List.contains_nil, res1, resAll, resAll_nil, Option.map_some, Option.map_none, pr, pr1, pr2, int1, int2, intOf, oI, oB, Ev.data2, isNone, rdVar, mvVar, argO, argOs, lent, Ev.borrowed, endCall, Ev.finish, outOf, doCall, leafy, leafyOut, List.map_cons, List.map_nil, List.cons_append, List.nil_append, List.append_nil, List.length_cons, List.length_nil, List.getElem?_cons_zero, List.getElem?_cons_succ, Nat.reduceAdd, Nat.reduceSub, Nat.zero_add, List.replicate_succ, List.replicate_zero, List.any_cons, List.any_nil, Bool.or_false, Bool.false_or, Bool.and_true, Bool.true_and, Bool.false_and, Bool.and_false, Bool.not_true, Bool.not_false, noList, noLists, leafys, Bool.false_eq_true, if_true, if_false, ite_true, ite_false, reduceIte, List.set_cons_zero, List.set_cons_succ, O.d, liftS, setN, doTg, doTgs, decide_true, decide_false, Nat.reduceLT, Nat.reduceBEq, Nat.reduceEqDiff, beq_self_eq_true, hlt]
            exact ⟨_, _, _, rfl⟩
        · rintro e ⟨y13, y14, y15, rfl⟩
          have eN := p_nearest_right l ts t hs c hc
          have rN : reprOk (Lli (nearL l ts t c)) = true := rep_near hs (by omega) hc
          have e2 : E_how_many_at.sem [.v (Sy l ts t), .v (Li c), .v (.int 2)] = .ok (.v (.int ((hmN l ts t c 2 : Nat) : Int))) none := p_how_many_at l ts t hs (by omega) c hc 2 (by omega)
          have hT2 : (toldL l ts t c)[2]'(by simp [toldL, rng_len]; omega) = ((hmN l ts t c 2 : Nat) : Int) := by
            simp only [toldL, rng, List.getElem_map, List.getElem_range, toldF]
            rw [if_pos (by show 2 ≤ _; omega)]; rfl
          have hTl : 2 < ((toldL l ts t c)).length := by simp [toldL, rng_len]; omega
          have hix : ixN (toldL l ts t c).length 2 = some 2 := ixN_natq hTl
          simp only [exs, ex1, den, denPs, denP, denEs, denC, denO, denI, bind_ok, st_okq, seq_next, seq_ret, lift_some, look0, lookS, asBool_ok, lift_none, and_ok, or_ok, Tgt.slots, wipeE, backE, keepV, Tgt.put, setMany, ds_map_vq, ds_nilq, filter_ff, rev_mapq, mkTup_v, mkTupF_1, mkTupF_2, mkTupF_3, mkLst_1, seqD_list, seqD_tuple, seqD_own, all_isV, rsat_ok, ssat_next, ssat_ret, Function.comp_apply, addV_int, rdIdx, elems_own, elems_list, elems_tup, Bool.true_or, List.length_map, List.isEmpty_nil, List.isEmpty_cons, isiD_tuple, isiD_list, mkTupF_nil, mkLst_nil, shaped_int, shaped_none, shaped_bool, shaped_Li, shaped_Ti, shaped_LLi, shaped_Lnil, shaped_Tnil, eqv_int, eqv_Li, eqv_Ti, eqv_LLi, eqv_Lnil, eqv_Tnil, bool2, List.isEmpty_map, List.getElem_map, Int.reduceLT, Int.reduceLE, leafys_ints, leafys_lis, two_str, eqv_sstr, mkTupF_xo, mkTupF_ox, mkTupF_oxx, mkTupF_xox, mkTupF_xxo, mkTupF_xt, mkTupF_tx, mkTupF_txx, mkTupF_xtx, mkTupF_xxt, mkLst_2, mkLst_3, mkLst_4, elems_tupT, elems_ownT, Bool.or_true, List.contains_cons, List.contains_nil, res1, resAll, resAll_nil, Option.map_some, Option.map_none, pr, pr1, pr2, int1, int2, intOf, oI, oB, Ev.data2, isNone, rdVar, mvVar, argO, argOs, lent, Ev.borrowed, endCall, Ev.finish, outOf, doCall, leafy, leafyOut, List.map_cons, List.map_nil, List.cons_append, List.nil_append, List.append_nil, List.length_cons, List.length_nil, List.getElem?_cons_zero, List.getElem?_cons_succ, Nat.reduceAdd, Nat.reduceSub, Nat.zero_add, List.replicate_succ, List.replicate_zero, List.any_cons, List.any_nil, Bool.or_false, Bool.false_or, Bool.and_true, Bool.true_and, Bool.false_and, Bool.and_false, Bool.not_true, Bool.not_false, noList, noLists, leafys, Bool.false_eq_true, if_true, if_false, ite_true, ite_false, reduceIte, List.set_cons_zero, List.set_cons_succ, O.d, liftS, setN, doTg, doTgs, decide_true, decide_false, Nat.reduceLT, Nat.reduceBEq, Nat.reduceEqDiff, beq_self_eq_true]
          refine sat_seq (ssat_mono (N := fun e => ∃ x6 q, q.d = Lli (nearL l ts t c) ∧ e = [some g', some (.v (.int w)), some (OSy l ts t), some (.v (.int l.prod)), some (.v (.str (Sy l ts t).shown)), some (.v (.int (l.prod ^ w))), x6, some (.v (Li c)), some (.v (.str (Li c).shown)), some (OLi d), some (.v (.int (off l ts t c))), some (.v (.int 0)), some (OLi (toldL l ts t c)), y13, y14, y15, some q]) (R := fun _ _ => False) ?_ ?_ (fun _ _ h => h.elim))
          · by_cases ho : off l ts t c = 0
            · simp only [exs, ex1, den, denPs, denP, denEs, denC, denO, denI, bind_ok, st_okq, seq_next, seq_ret, lift_some, look0, lookS, asBool_ok, lift_none, and_ok, or_ok, Tgt.slots, wipeE, backE, keepV, Tgt.put, setMany, ds_map_vq, ds_nilq, filter_ff, rev_mapq, mkTup_v, mkTupF_1, mkTupF_2, mkTupF_3, mkLst_1, seqD_list, seqD_tuple, seqD_own, all_isV, rsat_ok, ssat_next, ssat_ret, Function.comp_apply, addV_int, rdIdx, elems_own, elems_list, elems_tup, Bool.true_or, List.length_map, List.isEmpty_nil, List.isEmpty_cons, isiD_tuple, isiD_list, mkTupF_nil, mkLst_nil, shaped_int, shaped_none, shaped_bool, shaped_Li, shaped_Ti, shaped_LLi, shaped_Lnil, shaped_Tnil, eqv_int, eqv_Li, eqv_Ti, eqv_LLi, eqv_Lnil, eqv_Tnil, bool2, List.isEmpty_map, List.getElem_map, Int.reduceLT, Int.reduceLE, leafys_ints, leafys_lis, two_str, eqv_sstr, mkTupF_xo, mkTupF_ox, mkTupF_oxx, mkTupF_xox, mkTupF_xxo, mkTupF_xt, mkTupF_tx, mkTupF_txx, mkTupF_xtx, mkTupF_xxt, mkLst_2, mkLst_3, mkLst_4, elems_tupT, elems_ownT, Bool.or_true, List.contains_cons, List.contains_nil, res1, resAll, resAll_nil, Option.map_some, Option.map_none, pr, pr1, pr2, int1, int2, intOf, oI, oB, Ev.data2, isNone, rdVar, mvVar, argO, argOs, lent, Ev.borrowed, endCall, Ev.finish, outOf, doCall, leafy, leafyOut, List.map_cons, List.map_nil, List.cons_append, List.nil_append, List.append_nil, List.length_cons, List.length_nil, List.getElem?_cons_zero, List.getElem?_cons_succ, Nat.reduceAdd, Nat.reduceSub, Nat.zero_add, List.replicate_succ, List.replicate_zero, List.any_cons, List.any_nil, Bool.or_false, Bool.false_or, Bool.and_true, Bool.true_and, Bool.false_and, Bool.and_false, Bool.not_true, Bool.not_false, noList, noLists, leafys, Bool.false_eq_true, if_true, if_false, ite_true, ite_false, reduceIte, List.set_cons_zero, List.set_cons_succ, O.d, liftS, setN, doTg, doTgs, decide_true, decide_false, Nat.reduceLT, Nat.reduceBEq, Nat.reduceEqDiff, beq_self_eq_true, ho]
              exact ⟨_, _, by simp only [O.d, O.ds, nearL, ho, if_true]; rfl, rfl⟩
            · simp only [exs, ex1, den, denPs, denP, denEs, denC, denO, denI, bind_ok, st_okq, seq_next, seq_ret, lift_some, look0, lookS, asBool_ok, lift_none, and_ok, or_ok, Tgt.slots, wipeE, backE, keepV, Tgt.put, setMany, ds_map_vq, ds_nilq, filter_ff, rev_mapq, mkTup_v, mkTupF_1, mkTupF_2, mkTupF_3, mkLst_1, seqD_list, seqD_tuple, seqD_own, all_isV, rsat_ok, ssat_next, ssat_ret, Function.comp_apply, addV_int, rdIdx, elems_own, elems_list, elems_tup, Bool.true_or, List.length_map, List.isEmpty_nil, List.isEmpty_cons, isiD_tuple, isiD_list, mkTupF_nil, mkLst_nil, shaped_int, shaped_none, shaped_bool, shaped_Li, shaped_Ti, shaped_LLi, shaped_Lnil, shaped_Tnil, eqv_int, eqv_Li, eqv_Ti, eqv_LLi, eqv_Lnil, eqv_Tnil, bool2, List.isEmpty_map, List.getElem_map, Int.reduceLT, Int.reduceLE, leafys_ints, leafys_lis, two_str, eqv_sstr, mkTupF_xo, mkTupF_ox, mkTupF_oxx, mkTupF_xox, mkTupF_xxo, mkTupF_xt, mkTupF_tx, mkTupF_txx, mkTupF_xtx, mkTupF_xxt, mkLst_2, mkLst_3, mkLst_4, elems_tupT, elems_ownT, Bool.or_true, List.contains_cons, List.contains_nil, res1, resAll, resAll_nil, Option.map_some, Option.map_none, pr, pr1, pr2, int1, int2, intOf, oI, oB, Ev.data2, isNone, rdVar, mvVar, argO, argOs, lent, Ev.borrowed, endCall, Ev.finish, outOf, doCall, leafy, leafyOut, List.map_cons, List.map_nil, List.cons_append, List.nil_append, List.append_nil, List.length_cons, List.length_nil, List.getElem?_cons_zero, List.getElem?_cons_succ, Nat.reduceAdd, Nat.reduceSub, Nat.zero_add, List.replicate_succ, List.replicate_zero, List.any_cons, List.any_nil, Bool.or_false, Bool.false_or, Bool.and_true, Bool.true_and, Bool.false_and, Bool.and_false, Bool.not_true, Bool.not_false, noList, noLists, leafys, Bool.false_eq_true, if_true, if_false, ite_true, ite_false, reduceIte, List.set_cons_zero, List.set_cons_succ, O.d, liftS, setN, doTg, doTgs, decide_true, decide_false, Nat.reduceLT, Nat.reduceBEq, Nat.reduceEqDiff, beq_self_eq_true, ho, rangeIt1 w (by omega)]
              repeat (first | with_reducible refine sat_seq ?_ | with_reducible refine sat_st ?_ | with_reducible refine sat_bind ?_ | with_reducible refine sat_asBool ?_)
              refine sat_compI (fun k os e => os = (((List.range w).map fun k => c.set k (wantN l ts t c k)).take k).map OLi ∧ ∃ x6, e = [some g', some (.v (.int w)), some (OSy l ts t), some (.v (.int l.prod)), some (.v (.str (Sy l ts t).shown)), some (.v (.int (l.prod ^ w))), x6, some (.v (Li c)), some (.v (.str (Li c).shown)), some (OLi d), some (.v (.int (off l ts t c))), some (.v (.int 0)), some (OLi (toldL l ts t c)), y13, y14, y15, some (.own [.v (Li c)])]) ⟨rfl, _, rfl⟩ (by simp only [rangeD_len, Sz]; omega) ?_ ?_
              · rintro k hk os e ⟨rfl, x, rfl⟩
                have hk' : k < w := by simpa [rangeD_len] using hk
                refine ⟨_, by rw [rangeD_get]; rfl, ?_⟩
                simp only [exs, ex1, den, denPs, denP, denEs, denC, denO, denI, bind_ok, st_okq, seq_next, seq_ret, lift_some, look0, lookS, asBool_ok, lift_none, and_ok, or_ok, Tgt.slots, wipeE, backE, keepV, Tgt.put, setMany, ds_map_vq, ds_nilq, filter_ff, rev_mapq, mkTup_v, mkTupF_1, mkTupF_2, mkTupF_3, mkLst_1, seqD_list, seqD_tuple, seqD_own, all_isV, rsat_ok, ssat_next, ssat_ret, Function.comp_apply, addV_int, rdIdx, elems_own, elems_list, elems_tup, Bool.true_or, List.length_map, List.isEmpty_nil, List.isEmpty_cons, isiD_tuple, isiD_list, mkTupF_nil, mkLst_nil, shaped_int, shaped_none, shaped_bool, shaped_Li, shaped_Ti, shaped_LLi, shaped_Lnil, shaped_Tnil, eqv_int, eqv_Li, eqv_Ti, eqv_LLi, eqv_Lnil, eqv_Tnil, bool2, List.isEmpty_map, List.getElem_map, Int.reduceLT, Int.reduceLE, leafys_ints, leafys_lis, two_str, eqv_sstr, mkTupF_xo, mkTupF_ox, mkTupF_oxx, mkTupF_xox, mkTupF_xxo, mkTupF_xt, mkTupF_tx, mkTupF_txx, mkTupF_xtx, mkTupF_xxt, mkLst_2, mkLst_3, mkLst_4, elems_tupT, elems_ownT, Bool.or_true, List.contains_cons, List.contains_nil, res1, resAll, resAll_nil, Option.map_some, Option.map_none, pr, pr1, pr2, int1, int2, intOf, oI, oB, Ev.data2, isNone, rdVar, mvVar, argO, argOs, lent, Ev.borrowed, endCall, Ev.finish, outOf, doCall, leafy, leafyOut, List.map_cons, List.map_nil, List.cons_append, List.nil_append, List.append_nil, List.length_cons, List.length_nil, List.getElem?_cons_zero, List.getElem?_cons_succ, Nat.reduceAdd, Nat.reduceSub, Nat.zero_add, List.replicate_succ, List.replicate_zero, List.any_cons, List.any_nil, Bool.or_false, Bool.false_or, Bool.and_true, Bool.true_and, Bool.false_and, Bool.and_false, Bool.not_true, Bool.not_false, noList, noLists, leafys, Bool.false_eq_true, if_true, if_false, ite_true, ite_false, reduceIte, List.set_cons_zero, List.set_cons_succ, O.d, liftS, setN, doTg, doTgs, decide_true, decide_false, Nat.reduceLT, Nat.reduceBEq, Nat.reduceEqDiff, beq_self_eq_true, E__law_put_ps, E__law_put_io, E__law_wanted_ps, E__law_wanted_io, dS, p__law_wanted l ts t hs c hc k (by omega), p__law_put c k _ (by omega) (by omega), true_and]
                refine ⟨?_, _, rfl⟩
                rw [List.take_succ_eq_append_getElem (by simpa using hk')]
                simp
              · rintro os e ⟨rfl, x, rfl⟩
                rw [rangeD_len, List.take_of_length_le (by simp)]
                simp only [exs, ex1, den, denPs, denP, denEs, denC, denO, denI, bind_ok, st_okq, seq_next, seq_ret, lift_some, look0, lookS, asBool_ok, lift_none, and_ok, or_ok, Tgt.slots, wipeE, backE, keepV, Tgt.put, setMany, ds_map_vq, ds_nilq, filter_ff, rev_mapq, mkTup_v, mkTupF_1, mkTupF_2, mkTupF_3, mkLst_1, seqD_list, seqD_tuple, seqD_own, all_isV, rsat_ok, ssat_next, ssat_ret, Function.comp_apply, addV_int, rdIdx, elems_own, elems_list, elems_tup, Bool.true_or, List.length_map, List.isEmpty_nil, List.isEmpty_cons, isiD_tuple, isiD_list, mkTupF_nil, mkLst_nil, shaped_int, shaped_none, shaped_bool, shaped_Li, shaped_Ti, shaped_LLi, shaped_Lnil, shaped_Tnil, eqv_int, eqv_Li, eqv_Ti, eqv_LLi, eqv_Lnil, eqv_Tnil, bool2, List.isEmpty_map, List.getElem_map, Int.reduceLT, Int.reduceLE, leafys_ints, leafys_lis, two_str, eqv_sstr, mkTupF_xo, mkTupF_ox, mkTupF_oxx, mkTupF_xox, mkTupF_xxo, mkTupF_xt, mkTupF_tx, mkTupF_txx, mkTupF_xtx, mkTupF_xxt, mkLst_2, mkLst_3, mkLst_4, elems_tupT, elems_ownT, Bool.or_true, List.contains_cons, List.contains_nil, res1, resAll, resAll_nil, Option.map_some, Option.map_none, pr, pr1, pr2, int1, int2, intOf, oI, oB, Ev.data2, isNone, rdVar, mvVar, argO, argOs, lent, Ev.borrowed, endCall, Ev.finish, outOf, doCall, leafy, leafyOut, List.map_cons, List.map_nil, List.cons_append, List.nil_append, List.append_nil, List.length_cons, List.length_nil, List.getElem?_cons_zero, List.getElem?_cons_succ, Nat.reduceAdd, Nat.reduceSub, Nat.zero_add, List.replicate_succ, List.replicate_zero, List.any_cons, List.any_nil, Bool.or_false, Bool.false_or, Bool.and_true, Bool.true_and, Bool.false_and, Bool.and_false, Bool.not_true, Bool.not_false, noList, noLists, leafys, Bool.false_eq_true, if_true, if_false, ite_true, ite_false, reduceIte, List.set_cons_zero, List.set_cons_succ, O.d, liftS, setN, doTg, doTgs, decide_true, decide_false, Nat.reduceLT, Nat.reduceBEq, Nat.reduceEqDiff, beq_self_eq_true, elems_OL, ds_OLi, sortable_lis, sortO_lis]
                refine ⟨_, _, ?_, rfl⟩
                simp only [O.d, ds_OLi, nearL, ho, if_false, hts]
          · rintro e ⟨z6, q, hq, rfl⟩
            simp only [exs, ex1, den, denPs, denP, denEs, denC, denO, denI, bind_ok, st_okq, seq_next, seq_ret, lift_some, look0, lookS, asBool_ok, lift_none, and_ok, or_ok, Tgt.slots, wipeE, backE, keepV, Tgt.put, setMany, ds_map_vq, ds_nilq, filter_ff, rev_mapq, mkTup_v, mkTupF_1, mkTupF_2, mkTupF_3, mkLst_1, seqD_list, seqD_tuple, seqD_own, all_isV, rsat_ok, ssat_next, ssat_ret, Function.comp_apply, addV_int, rdIdx, elems_own, elems_list, elems_tup, Bool.true_or, List.length_map, List.isEmpty_nil, List.isEmpty_cons, isiD_tuple, isiD_list, mkTupF_nil, mkLst_nil, shaped_int, shaped_none, shaped_bool, shaped_Li, shaped_Ti, shaped_LLi, shaped_Lnil, shaped_Tnil, eqv_int, eqv_Li, eqv_Ti, eqv_LLi, eqv_Lnil, eqv_Tnil, bool2, List.isEmpty_map, List.getElem_map, Int.reduceLT, Int.reduceLE, leafys_ints, leafys_lis, two_str, eqv_sstr, mkTupF_xo, mkTupF_ox, mkTupF_oxx, mkTupF_xox, mkTupF_xxo, mkTupF_xt, mkTupF_tx, mkTupF_txx, mkTupF_xtx, mkTupF_xxt, mkLst_2, mkLst_3, mkLst_4, elems_tupT, elems_ownT, Bool.or_true, List.contains_cons, List.contains_nil, res1, resAll, resAll_nil, Option.map_some, Option.map_none, pr, pr1, pr2, int1, int2, intOf, oI, oB, Ev.data2, isNone, rdVar, mvVar, argO, argOs, lent, Ev.borrowed, endCall, Ev.finish, outOf, doCall, leafy, leafyOut, List.map_cons, List.map_nil, List.cons_append, List.nil_append, List.append_nil, List.length_cons, List.length_nil, List.getElem?_cons_zero, List.getElem?_cons_succ, Nat.reduceAdd, Nat.reduceSub, Nat.zero_add, List.replicate_succ, List.replicate_zero, List.any_cons, List.any_nil, Bool.or_false, Bool.false_or, Bool.and_true, Bool.true_and, Bool.false_and, Bool.and_false, Bool.not_true, Bool.not_false, noList, noLists, leafys, Bool.false_eq_true, if_true, if_false, ite_true, ite_false, reduceIte, List.set_cons_zero, List.set_cons_succ, O.d, liftS, setN, doTg, doTgs, decide_true, decide_false, Nat.reduceLT, Nat.reduceBEq, Nat.reduceEqDiff, beq_self_eq_true, E_nearest_right_ps, E_nearest_right_io, E_how_many_at_ps, E_how_many_at_io, dS, eN, hq, ds_OLi, rN, rC, e2, perm2, perm3, hix, List.getElem?_map, List.getElem?_eq_getElem hTl, hT2]
            have hne : ∃ r rs, nearL l ts t c = r :: rs := by
              have := near_pos hs c
              cases hn : nearL l ts t c with
              | nil => rw [hn] at this; simp at this
              | cons r rs => exact ⟨r, rs, rfl⟩
            obtain ⟨r, rs, hrr⟩ := hne
            have hrl : r.length < 1000 := by
              have := near_in hs hc r (by rw [hrr]; simp)
              rw [this.1]; omega
            have eL : OLi r :: rs.map OLi = (r :: rs).map OLi := rfl
            have eL2 : Li r :: rs.map (fun r => Li r) = (r :: rs).map (fun r => Li r) := rfl
            have dL : PyData.list (O.ds (OLi r :: List.map OLi rs)) = Lli (r :: rs) := by rw [eL, ds_OLi]
            rw [hrr] at eN rN hq ⊢
            simp only [exs, ex1, den, denPs, denP, denEs, denC, denO, denI, bind_ok, st_okq, seq_next, seq_ret, lift_some, look0, lookS, asBool_ok, lift_none, and_ok, or_ok, Tgt.slots, wipeE, backE, keepV, Tgt.put, setMany, ds_map_vq, ds_nilq, filter_ff, rev_mapq, mkTup_v, mkTupF_1, mkTupF_2, mkTupF_3, mkLst_1, seqD_list, seqD_tuple, seqD_own, all_isV, rsat_ok, ssat_next, ssat_ret, Function.comp_apply, addV_int, rdIdx, elems_own, elems_list, elems_tup, Bool.true_or, List.length_map, List.isEmpty_nil, List.isEmpty_cons, isiD_tuple, isiD_list, mkTupF_nil, mkLst_nil, shaped_int, shaped_none, shaped_bool, shaped_Li, shaped_Ti, shaped_LLi, shaped_Lnil, shaped_Tnil, eqv_int, eqv_Li, eqv_Ti, eqv_LLi, eqv_Lnil, eqv_Tnil, bool2, List.isEmpty_map, List.getElem_map, Int.reduceLT, Int.reduceLE, leafys_ints, leafys_lis, two_str, eqv_sstr, mkTupF_xo, mkTupF_ox, mkTupF_oxx, mkTupF_xox, mkTupF_xxo, mkTupF_xt, mkTupF_tx, mkTupF_txx, mkTupF_xtx, mkTupF_xxt, mkLst_2, mkLst_3, mkLst_4, elems_tupT, elems_ownT, Bool.or_true, List.contains_cons, List.contains_nil, res1, resAll, resAll_nil, Option.map_some, Option.map_none, pr, pr1, pr2, int1, int2, intOf, oI, oB, Ev.data2, isNone, rdVar, mvVar, argO, argOs, lent, Ev.borrowed, endCall, Ev.finish, outOf, doCall, leafy, leafyOut, List.map_cons, List.map_nil, List.cons_append, List.nil_append, List.append_nil, List.length_cons, List.length_nil, List.getElem?_cons_zero, List.getElem?_cons_succ, Nat.reduceAdd, Nat.reduceSub, Nat.zero_add, List.replicate_succ, List.replicate_zero, List.any_cons, List.any_nil, Bool.or_false, Bool.false_or, Bool.and_true, Bool.true_and, Bool.false_and, Bool.and_false, Bool.not_true, Bool.not_false, noList, noLists, leafys, Bool.false_eq_true, if_true, if_false, ite_true, ite_false, reduceIte, List.set_cons_zero, List.set_cons_succ, O.d, liftS, setN, doTg, doTgs, decide_true, decide_false, Nat.reduceLT, Nat.reduceBEq, Nat.reduceEqDiff, beq_self_eq_true, E_nearest_right_ps, E_nearest_right_io, atI_lit0, Sz' (show r.length < 16777216 by omega), dS, eN, hq, rN, rC, dL]
            exact ⟨_, _, _, _, _, _, _, _, _, _, _, _, rfl, hg'.mono (by omega)⟩
    · rintro e ⟨g, x6, x7, x8, x9, x10, x11, x12, x13, x14, x15, x16, rfl, hg⟩
      simp only [exs, ex1, den, denPs, denP, denEs, denC, denO, denI, bind_ok, st_okq, seq_next, seq_ret, lift_some, look0, lookS, asBool_ok, lift_none, and_ok, or_ok, Tgt.slots, wipeE, backE, keepV, Tgt.put, setMany, ds_map_vq, ds_nilq, filter_ff, rev_mapq, mkTup_v, mkTupF_1, mkTupF_2, mkTupF_3, mkLst_1, seqD_list, seqD_tuple, seqD_own, all_isV, rsat_ok, ssat_next, ssat_ret, Function.comp_apply, addV_int, rdIdx, elems_own, elems_list, elems_tup, Bool.true_or, List.length_map, List.isEmpty_nil, List.isEmpty_cons, isiD_tuple, isiD_list, mkTupF_nil, mkLst_nil, shaped_int, shaped_none, shaped_bool, shaped_Li, shaped_Ti, shaped_LLi, shaped_Lnil, shaped_Tnil, eqv_int, eqv_Li, eqv_Ti, eqv_LLi, eqv_Lnil, eqv_Tnil, bool2, List.isEmpty_map, List.getElem_map, Int.reduceLT, Int.reduceLE, leafys_ints, leafys_lis, two_str, eqv_sstr, mkTupF_xo, mkTupF_ox, mkTupF_oxx, mkTupF_xox, mkTupF_xxo, mkTupF_xt, mkTupF_tx, mkTupF_txx, mkTupF_xtx, mkTupF_xxt, mkLst_2, mkLst_3, mkLst_4, elems_tupT, elems_ownT, Bool.or_true, List.contains_cons, List.contains_nil, res1, resAll, resAll_nil, Option.map_some, Option.map_none, pr, pr1, pr2, int1, int2, intOf, oI, oB, Ev.data2, isNone, rdVar, mvVar, argO, argOs, lent, Ev.borrowed, endCall, Ev.finish, outOf, doCall, leafy, leafyOut, List.map_cons, List.map_nil, List.cons_append, List.nil_append, List.append_nil, List.length_cons, List.length_nil, List.getElem?_cons_zero, List.getElem?_cons_succ, Nat.reduceAdd, Nat.reduceSub, Nat.zero_add, List.replicate_succ, List.replicate_zero, List.any_cons, List.any_nil, Bool.or_false, Bool.false_or, Bool.and_true, Bool.true_and, Bool.false_and, Bool.and_false, Bool.not_true, Bool.not_false, noList, noLists, leafys, Bool.false_eq_true, if_true, if_false, ite_true, ite_false, reduceIte, List.set_cons_zero, List.set_cons_succ, O.d, liftS, setN, doTg, doTgs, decide_true, decide_false, Nat.reduceLT, Nat.reduceBEq, Nat.reduceEqDiff, beq_self_eq_true, dS, rS]
end Lw
set_option Elab.async false
set_option linter.all false
set_option maxRecDepth 100000
set_option maxHeartbeats 0
namespace Lw
open PySem PySem.Spec PyProof.Rows L2 Ev
theorem rep_flat (q : D) (w : Nat) : (List.replicate w [q]).flatten = List.replicate w q := by
  induction w with
  | zero => rfl
  | succ w ih => rw [List.replicate_succ, List.flatten_cons, ih, List.replicate_succ]; rfl
theorem mul_rep (s : Bool) (o : O) (w : Nat) (hw : w < 1000000) : mulV true (.own [o]) (.v (.int w)) = some (.own ((List.replicate w o.d).map .v)) := by
  have h1 : mag (w : Int) = true := mag_of (by omega)
  have h2 : decide (w ≤ sizeLine) = true := decide_eq_true (by rw [Sz]; omega)
  simp only [mulV, intOf, Bool.true_or, if_true, h1, Int.toNat_natCast, List.length_cons, List.length_nil, Nat.zero_add, Nat.one_mul, h2, Bool.and_self, O.ds, rep_flat]
theorem great_sys (n w : Nat) (hn : 2 ≤ n) (hn1 : n < 100) (hw : 2 ≤ w) (hw1 : w ≤ 60) : Sys [(n : Int)] (List.replicate w (rng n)) 0 := by
  have hp : [(n : Int)].prod = n := by simp
  exact ⟨⟨by simp, by simp, by simp; omega⟩, by simp; omega, by simpa using hw, by rw [hp]; omega, fun r hr => by
    rw [List.eq_of_mem_replicate hr, hp]; exact List.Perm.refl _, by omega, by rw [hp]; omega⟩
theorem prod1 (n : Nat) : [(n : Int)].prod = n := by simp
section
variable (n w : Nat) (hn : 2 ≤ n) (hn1 : n < 100) (hw : 2 ≤ w) (hw1 : w ≤ 60)
def nought (w : Nat) : List Int := List.replicate w 0
def oneC (w : Nat) : List Int := 1 :: List.replicate (w - 1) 0
include hn hn1 hw hw1
theorem code_nought : Code [(n : Int)] (List.replicate w (rng n)) (nought w) := by
  refine ⟨by simp [nought], fun x hx => ?_⟩
  rw [List.eq_of_mem_replicate hx, prod1]; omega
theorem code_one : Code [(n : Int)] (List.replicate w (rng n)) (oneC w) := by
  refine ⟨by simp [oneC]; omega, fun x hx => ?_⟩
  rw [prod1]
  rcases List.mem_cons.1 hx with e | e
  · subst e; omega
  · rw [List.eq_of_mem_replicate e]; omega
theorem tot_code {c : List Int} (hc : Code [(n : Int)] (List.replicate w (rng n)) c) : mems (List.replicate w (rng n)) c = c :=
  mems_rng n w c (by simpa using hc.1) fun x hx => by have := hc.2 x hx; rw [prod1] at this; exact this
theorem pos1 : Pos [(n : Int)] := by intro o ho; simp at ho; omega
theorem off_nought : off [(n : Int)] (List.replicate w (rng n)) 0 (nought w) = 0 := by
  rw [off_zero (great_sys n w hn hn1 hw hw1), tot_code n w hn hn1 hw hw1 (code_nought n w hn hn1 hw hw1)]
  exact fold_zeros _ (pos1 n w hn hn1 hw hw1) 0 (by rw [prod1]; exact ⟨by omega, by omega⟩) w
theorem tot_one : tot [(n : Int)] (oneC w) = 1 := by
  unfold tot oneC
  rw [List.foldl_cons, plus_one]
  have e : ((0 : Int) % n + 1 % n) % n = 1 := by
    have e1 : (1 : Int) % n = 1 := Int.emod_eq_of_lt (by omega) (by omega)
    rw [Int.zero_emod, Int.zero_add, e1, e1]
  rw [e]
  exact fold_zeros _ (pos1 n w hn hn1 hw hw1) 1 (by rw [prod1]; exact ⟨by omega, by omega⟩) (w - 1)
theorem off_one : ¬ off [(n : Int)] (List.replicate w (rng n)) 0 (oneC w) = 0 := by
  rw [off_zero (great_sys n w hn hn1 hw hw1), tot_code n w hn hn1 hw hw1 (code_one n w hn hn1 hw hw1), tot_one n w hn hn1 hw hw1]
  decide
theorem want_one0 : wantN [(n : Int)] (List.replicate w (rng n)) 0 (oneC w) 0 = 0 := by
  have hs := great_sys n w hn hn1 hw hw1
  have h := (wantN_sp hs (code_one n w hn hn1 hw hw1) 0 (by simp; omega)).2 0 (by rw [prod1]; exact ⟨by omega, by omega⟩)
  have e : (oneC w).set 0 0 = nought w := by
    obtain ⟨k, rfl⟩ : ∃ k, w = k + 1 := ⟨w - 1, by omega⟩
    simp [oneC, nought, List.replicate_succ]
  rw [e] at h
  have := h.1 (off_nought n w hn hn1 hw hw1)
  omega
theorem want_one (k : Nat) (hk0 : 1 ≤ k) (hk : k < w) : ((wantN [(n : Int)] (List.replicate w (rng n)) 0 (oneC w) k : Nat) : Int) = n - 1 := by
  have hs := great_sys n w hn hn1 hw hw1
  have hc := code_one n w hn hn1 hw hw1
  have hr : InR [(n : Int)].prod ((n : Int) - 1) := by rw [prod1]; exact ⟨by omega, by omega⟩
  have h := (wantN_sp hs hc k (by simpa using hk)).2 _ hr
  refine (h.1 ?_).symm
  have hc2 := hc.set k hr
  rw [off_zero hs, tot_code n w hn hn1 hw hw1 hc2]
  have hkl : k < (oneC w).length := by simp [oneC]; omega
  have hin : ∀ x ∈ oneC w, InR [(n : Int)].prod x := fun x hx => hc.2 x hx
  have hz : (oneC w)[k] = 0 := by
    obtain ⟨j, rfl⟩ : ∃ j, k = j + 1 := ⟨k - 1, by omega⟩
    simp [oneC]
  show ((oneC w).set k _).foldl (plus [(n : Int)]) 0 = 0
  rw [hs.ab.fold_set hr _ k hkl hin, hz]
  have ht := tot_one n w hn hn1 hw hw1
  unfold tot at ht
  rw [ht, plus_one, plus_one, neg_one']
  have e1 : (1 : Int) % n = 1 := Int.emod_eq_of_lt (by omega) (by omega)
  have e2 : ((n : Int) - 1) % n = n - 1 := Int.emod_eq_of_lt (by omega) (by omega)
  rw [Int.zero_emod, Int.sub_zero, Int.emod_self, Int.zero_emod, Int.add_zero, e1, e1, e1, e2, show (1 : Int) + (n - 1) = n by omega, Int.emod_self]
theorem near_nought : nearL [(n : Int)] (List.replicate w (rng n)) 0 (nought w) = [nought w] := by
  unfold nearL
  rw [if_pos (off_nought n w hn hn1 hw hw1)]
theorem near_one : nearL [(n : Int)] (List.replicate w (rng n)) 0 (oneC w) = sortL (nought w :: (List.range (w - 1)).map fun k => (oneC w).set (k + 1) ((n : Int) - 1)) := by
  unfold nearL
  rw [if_neg (off_one n w hn hn1 hw hw1)]
  congr 1
  rw [List.length_replicate]
  obtain ⟨v, rfl⟩ : ∃ v, w = v + 1 := ⟨w - 1, by omega⟩
  rw [List.range_succ_eq_map, List.map_cons, List.map_map, want_one0 n (v + 1) hn hn1 hw hw1]
  congr 1
  refine List.map_congr_left fun k hk => ?_
  have := List.mem_range.1 hk
  simp only [Function.comp_apply]
  rw [want_one n (v + 1) hn hn1 hw hw1 (k + 1) (by omega) (by omega)]
end
end Lw
set_option Elab.async false
set_option linter.all false
set_option maxRecDepth 100000
set_option maxHeartbeats 0
namespace Lw
open PySem PySem.Spec PyProof.Rows L2 Ev
theorem map_rep_v (w : Nat) (d : D) : O.ds ((List.replicate w d).map .v) = List.replicate w d := ds_map_vq _
theorem mul_zeros (s : Bool) (w : Int) (h0 : 0 ≤ w) (hw : w < 1000000) : mulV true (.own [.v (.int 0)]) (.v (.int w)) = some (OLi (List.replicate w.toNat 0)) := by
  obtain ⟨k, rfl⟩ := Int.eq_ofNat_of_zero_le h0
  rw [mul_rep true _ k (by omega)]
  simp [O.d]
theorem sortO_ds {os : List O} {rs : List (List Int)} (h : O.ds os = rs.map fun r => Li r) : O.ds (sortO os) = (sortL rs).map fun r => Li r := by
  rw [O.ds_map] at h ⊢
  have e1 : (sortO os).map O.d = (os.map O.d).mergeSort (PySem.W.dataLe false id) := by
    unfold sortO
    exact List.map_mergeSort (f := O.d) (r := PySem.W.dataLe false O.d) (s := PySem.W.dataLe false id) fun a _ b _ => rfl
  rw [e1, h, sortL]
  refine (List.map_mergeSort (f := fun r : List Int => Li r) (r := fun a b => decide (a ≤ b)) (s := PySem.W.dataLe false id) fun a _ b _ => ?_).symm
  have e := congrFun (congrFun (PySem.W.dataLe_rows (fun r : List Int => r)) a) b
  exact e.symm
theorem p__law_great_right (m : Nat) (g : O) (h : Gen m g) (hm : m < 1000000) :
    ∃ out, E__law_great_right.sem [g] = .ok (.v (.bool true)) out := by
  obtain ⟨r1, g1, e1, a0, a1, hg1⟩ := p__law_random m g h (by omega) 39 (by decide) (by decide)
  obtain ⟨r2, g2, e2, b0, b1, hg2⟩ := p__law_random _ g1 hg1 (by omega) 39 (by decide) (by decide)
  obtain ⟨n, hn⟩ : ∃ n : Nat, 2 + r1 = (n : Int) := ⟨(2 + r1).toNat, by omega⟩
  obtain ⟨w, hw⟩ : ∃ w : Nat, 2 + r2 = (w : Int) := ⟨(2 + r2).toNat, by omega⟩
  have n2 : 2 ≤ n := by omega
  have n3 : n < 100 := by omega
  have w2 : 2 ≤ w := by omega
  have w3 : w ≤ 60 := by omega
  have hs := great_sys n w n2 n3 w2 w3
  have hcN := code_nought n w n2 n3 w2 w3
  have hcO := code_one n w n2 n3 w2 w3
  suffices hh : (E__law_great_right.sem [g]).sat fun o out => o = .v (.bool true) by
    obtain ⟨o, out, e, rfl⟩ := fsat_ex hh
    exact ⟨out, e⟩
  rw [show E__law_great_right.sem = S__law_great_right from rfl, S__law_great_right, runDef]
  refine fsat_fin ?_
  have hro : rangeO 0 (n : Int) = ((rng n).map .int).map .v := by rw [rangeO_rng]; rfl
  have hrg : rgOk 0 (n : Int) = true := rgOk_0 (by omega) (by omega)
  have m1 : mulV true (.own [.own (((rng n).map .int).map .v)]) (.v (.int w)) = some (.own ((List.replicate w (Li (rng n))).map .v)) := by
    rw [mul_rep true _ w (by omega), show (O.own (((rng n).map .int).map .v)).d = Li (rng n) from OLi_d _]
  have m2 := mul_zeros true w (by omega) (by omega)
  have m3 := mul_zeros true ((w : Int) - 1) (by omega) (by omega)
  rw [Int.toNat_natCast] at m2
  rw [show ((w : Int) - 1).toNat = w - 1 by omega] at m3
  have a1' : addV true (.own [.v (.int 1)]) true (OLi (List.replicate (w - 1) 0)) = some (OLi (oneC w)) := by
    have := addV_oo true true [PyData.int 1] ((List.replicate (w - 1) (0 : Int)).map .int) (by simp [Sz]; omega)
    exact this
  have dS : O.d (.tup [.v (Ti [(n : Int)]), .own ((List.replicate w (Li (rng n))).map .v), .v (.int 0)]) = Sy [(n : Int)] (List.replicate w (rng n)) 0 := by
    simp only [O.d, O.ds, map_rep_v]
    show PyData.tuple [Ti [(n : Int)], .list (List.replicate w (Li (rng n))), .int 0] = .tuple [Ti [(n : Int)], .list ((List.replicate w (rng n)).map fun r => Li r), .int 0]
    rw [List.map_replicate]
  simp only [O.d] at dS
  simp only [S__law_great_right, I__law_great_right, L__law_great_right, runDef, exs, ex1, den, denPs, denP, denEs, denC, denO, denI, bind_ok, st_okq, seq_next, seq_ret, lift_some, look0, lookS, asBool_ok, lift_none, and_ok, or_ok, Tgt.slots, wipeE, backE, keepV, Tgt.put, setMany, ds_map_vq, ds_nilq, filter_ff, rev_mapq, mkTup_v, mkTupF_1, mkTupF_2, mkTupF_3, mkLst_1, seqD_list, seqD_tuple, seqD_own, all_isV, rsat_ok, ssat_next, ssat_ret, Function.comp_apply, addV_int, rdIdx, elems_own, elems_list, elems_tup, Bool.true_or, List.length_map, List.isEmpty_nil, List.isEmpty_cons, isiD_tuple, isiD_list, mkTupF_nil, mkLst_nil, shaped_int, shaped_none, shaped_bool, shaped_Li, shaped_Ti, shaped_LLi, shaped_Lnil, shaped_Tnil, eqv_int, eqv_Li, eqv_Ti, eqv_LLi, eqv_Lnil, eqv_Tnil, bool2, List.isEmpty_map, List.getElem_map, Int.reduceLT, Int.reduceLE, leafys_ints, leafys_lis, two_str, eqv_sstr, mkTupF_xo, mkTupF_ox, mkTupF_oxx, mkTupF_xox, mkTupF_xxo, mkTupF_xt, mkTupF_tx, mkTupF_txx, mkTupF_xtx, mkTupF_xxt, mkLst_2, mkLst_3, mkLst_4, elems_tupT, elems_ownT, Bool.or_true, List.contains_cons, List.contains_nil, res1, resAll, resAll_nil, Option.map_some, Option.map_none, pr, pr1, pr2, int1, int2, intOf, oI, oB, Ev.data2, isNone, rdVar, mvVar, argO, argOs, lent, Ev.borrowed, endCall, Ev.finish, outOf, doCall, leafy, leafyOut, List.map_cons, List.map_nil, List.cons_append, List.nil_append, List.append_nil, List.length_cons, List.length_nil, List.getElem?_cons_zero, List.getElem?_cons_succ, Nat.reduceAdd, Nat.reduceSub, Nat.zero_add, List.replicate_succ, List.replicate_zero, List.any_cons, List.any_nil, Bool.or_false, Bool.false_or, Bool.and_true, Bool.true_and, Bool.false_and, Bool.and_false, Bool.not_true, Bool.not_false, noList, noLists, leafys, Bool.false_eq_true, if_true, if_false, ite_true, ite_false, reduceIte, List.set_cons_zero, List.set_cons_succ, O.d, liftS, setN, doTg, doTgs, decide_true, decide_false, Nat.reduceLT, Nat.reduceBEq, Nat.reduceEqDiff, beq_self_eq_true, E__law_random_ps, E__law_random_io, e1, e2, hn, hw, hro, hrg, m1, m2, m3, a1', rangeIt1 (w + 1) (by omega), show (w : Int) + 1 = ((w + 1 : Nat) : Int) from rfl]
  repeat (first | with_reducible refine sat_seq ?_ | with_reducible refine sat_st ?_ | with_reducible refine sat_bind ?_ | with_reducible refine sat_asBool ?_)
  have hch : ∀ k, (((ch w k : Nat) : Int)).natAbs < 18446744073709551616 := fun k => by
    have h1 := ch_le w k
    have h2 : (2 : Nat) ^ w ≤ 2 ^ 60 := Nat.pow_le_pow_right (by omega) w3
    omega
  have hpN : [(n : Int)].prod.toNat = n := by rw [prod1]; omega
  have eN : ∀ k : Nat, k ≤ w → E_how_many_at.sem [.v (Sy [(n : Int)] (List.replicate w (rng n)) 0), .v (Li (nought w)), .v (.int k)] = .ok (.v (.int ((ch w k : Nat) * (wy n k true : Nat)))) none := fun k hk => by
    rw [p_how_many_at _ _ _ hs (by simpa using w3) _ hcN k (by simpa using hk)]
    simp [hmN, off_nought n w n2 n3 w2 w3]
  have eO : ∀ k : Nat, k ≤ w → E_how_many_at.sem [.v (Sy [(n : Int)] (List.replicate w (rng n)) 0), .v (Li (oneC w)), .v (.int k)] = .ok (.v (.int ((ch w k : Nat) * (wy n k false : Nat)))) none := fun k hk => by
    rw [p_how_many_at _ _ _ hs (by simpa using w3) _ hcO k (by simpa using hk)]
    simp [hmN, off_one n w n2 n3 w2 w3]
  refine sat_for (fun k e => ∃ x8 x9, e = [some g2, some (.v (.int n)), some (.v (.int w)), some (.tup [.v (Ti [(n : Int)]), .own ((List.replicate w (Li (rng n))).map .v), .v (.int 0)]), some (OLi (nought w)), some (OLi (oneC w)), some (.v (.int (wy n k true : Nat))), some (.v (.int (wy n k false : Nat))), x8, x9, none, none]) ⟨none, none, rfl⟩ ?_ ?_
  · rintro k hk e ⟨x8, x9, rfl⟩
    have hk' : k < w + 1 := by simpa [rangeD_len] using hk
    refine ⟨_, by rw [rangeD_get]; exact putT_io _ _ _ (by simp), ?_⟩
    have c1 : ((n : Int) - 1).natAbs < 18446744073709551616 := by omega
    have c2 : ((n : Int) - 2).natAbs < 18446744073709551616 := by omega
    simp only [exs, ex1, den, denPs, denP, denEs, denC, denO, denI, bind_ok, st_okq, seq_next, seq_ret, lift_some, look0, lookS, asBool_ok, lift_none, and_ok, or_ok, Tgt.slots, wipeE, backE, keepV, Tgt.put, setMany, ds_map_vq, ds_nilq, filter_ff, rev_mapq, mkTup_v, mkTupF_1, mkTupF_2, mkTupF_3, mkLst_1, seqD_list, seqD_tuple, seqD_own, all_isV, rsat_ok, ssat_next, ssat_ret, Function.comp_apply, addV_int, rdIdx, elems_own, elems_list, elems_tup, Bool.true_or, List.length_map, List.isEmpty_nil, List.isEmpty_cons, isiD_tuple, isiD_list, mkTupF_nil, mkLst_nil, shaped_int, shaped_none, shaped_bool, shaped_Li, shaped_Ti, shaped_LLi, shaped_Lnil, shaped_Tnil, eqv_int, eqv_Li, eqv_Ti, eqv_LLi, eqv_Lnil, eqv_Tnil, bool2, List.isEmpty_map, List.getElem_map, Int.reduceLT, Int.reduceLE, leafys_ints, leafys_lis, two_str, eqv_sstr, mkTupF_xo, mkTupF_ox, mkTupF_oxx, mkTupF_xox, mkTupF_xxo, mkTupF_xt, mkTupF_tx, mkTupF_txx, mkTupF_xtx, mkTupF_xxt, mkLst_2, mkLst_3, mkLst_4, elems_tupT, elems_ownT, Bool.or_true, List.contains_cons, List.contains_nil, res1, resAll, resAll_nil, Option.map_some, Option.map_none, pr, pr1, pr2, int1, int2, intOf, oI, oB, Ev.data2, isNone, rdVar, mvVar, argO, argOs, lent, Ev.borrowed, endCall, Ev.finish, outOf, doCall, leafy, leafyOut, List.map_cons, List.map_nil, List.cons_append, List.nil_append, List.append_nil, List.length_cons, List.length_nil, List.getElem?_cons_zero, List.getElem?_cons_succ, Nat.reduceAdd, Nat.reduceSub, Nat.zero_add, List.replicate_succ, List.replicate_zero, List.any_cons, List.any_nil, Bool.or_false, Bool.false_or, Bool.and_true, Bool.true_and, Bool.false_and, Bool.and_false, Bool.not_true, Bool.not_false, noList, noLists, leafys, Bool.false_eq_true, if_true, if_false, ite_true, ite_false, reduceIte, List.set_cons_zero, List.set_cons_succ, O.d, liftS, setN, doTg, doTgs, decide_true, decide_false, Nat.reduceLT, Nat.reduceBEq, Nat.reduceEqDiff, beq_self_eq_true, E__law_sets_ps, E__law_sets_io, E_how_many_at_ps, E_how_many_at_io, p__law_sets w k (by omega) (by omega), dS, eN k (by omega), eO k (by omega), mulV, mulOk_l (hch k), mulOk_l c1, mulOk_l c2]
    refine ⟨some (.v (.int (k : Int))), some (.v (.int (ch w k : Nat))), ?_⟩
    have q1 : ((n : Int) - 1) * ((wy n k false : Nat) : Int) = ((wy n (k + 1) true : Nat) : Int) := by
      rw [wy, Int.natCast_mul]; congr 1; omega
    have q2 : ((wy n k true : Nat) : Int) + ((n : Int) - 2) * ((wy n k false : Nat) : Int) = ((wy n (k + 1) false : Nat) : Int) := by
      rw [wy, Int.natCast_add, Int.natCast_mul]; congr 2; omega
    rw [q1, q2]
  · rintro e ⟨x8, x9, rfl⟩
    rw [rangeD_len]
    have hmw : mag (w : Int) = true := mag_of (by omega)
    have m11 : mag 1 = true := by decide
    have hrI : rangeIt [.v (.int 1), .v (.int w)] = some ((List.range (w - 1)).map fun k => PyData.int ((k + 1 : Nat) : Int)) := by
      simp only [rangeIt, m11, hmw, Bool.and_self, if_true]
      congr 1
      simp only [rangeD]
      rw [show ((w : Int) - 1).toNat = w - 1 by omega]
      refine List.map_congr_left fun k _ => ?_
      congr 1; omega
    simp only [exs, ex1, den, denPs, denP, denEs, denC, denO, denI, bind_ok, st_okq, seq_next, seq_ret, lift_some, look0, lookS, asBool_ok, lift_none, and_ok, or_ok, Tgt.slots, wipeE, backE, keepV, Tgt.put, setMany, ds_map_vq, ds_nilq, filter_ff, rev_mapq, mkTup_v, mkTupF_1, mkTupF_2, mkTupF_3, mkLst_1, seqD_list, seqD_tuple, seqD_own, all_isV, rsat_ok, ssat_next, ssat_ret, Function.comp_apply, addV_int, rdIdx, elems_own, elems_list, elems_tup, Bool.true_or, List.length_map, List.isEmpty_nil, List.isEmpty_cons, isiD_tuple, isiD_list, mkTupF_nil, mkLst_nil, shaped_int, shaped_none, shaped_bool, shaped_Li, shaped_Ti, shaped_LLi, shaped_Lnil, shaped_Tnil, eqv_int, eqv_Li, eqv_Ti, eqv_LLi, eqv_Lnil, eqv_Tnil, bool2, List.isEmpty_map, List.getElem_map, Int.reduceLT, Int.reduceLE, leafys_ints, leafys_lis, two_str, eqv_sstr, mkTupF_xo, mkTupF_ox, mkTupF_oxx, mkTupF_xox, mkTupF_xxo, mkTupF_xt, mkTupF_tx, mkTupF_txx, mkTupF_xtx, mkTupF_xxt, mkLst_2, mkLst_3, mkLst_4, elems_tupT, elems_ownT, Bool.or_true, List.contains_cons, List.contains_nil, res1, resAll, resAll_nil, Option.map_some, Option.map_none, pr, pr1, pr2, int1, int2, intOf, oI, oB, Ev.data2, isNone, rdVar, mvVar, argO, argOs, lent, Ev.borrowed, endCall, Ev.finish, outOf, doCall, leafy, leafyOut, List.map_cons, List.map_nil, List.cons_append, List.nil_append, List.append_nil, List.length_cons, List.length_nil, List.getElem?_cons_zero, List.getElem?_cons_succ, Nat.reduceAdd, Nat.reduceSub, Nat.zero_add, List.replicate_succ, List.replicate_zero, List.any_cons, List.any_nil, Bool.or_false, Bool.false_or, Bool.and_true, Bool.true_and, Bool.false_and, Bool.and_false, Bool.not_true, Bool.not_false, noList, noLists, leafys, Bool.false_eq_true, if_true, if_false, ite_true, ite_false, reduceIte, List.set_cons_zero, List.set_cons_succ, O.d, liftS, setN, doTg, doTgs, decide_true, decide_false, Nat.reduceLT, Nat.reduceBEq, Nat.reduceEqDiff, beq_self_eq_true, hrI]
    repeat (first | with_reducible refine sat_seq ?_ | with_reducible refine sat_st ?_ | with_reducible refine sat_bind ?_ | with_reducible refine sat_asBool ?_)
    have hol : (oneC w).length = w := by simp [oneC]; omega
    refine sat_compA (fun k : Nat => PyData.int ((k + 1 : Nat) : Int)) (List.range (w - 1)) (fun e => ∃ x8 x9 x11, e = [some g2, some (.v (.int n)), some (.v (.int w)), some (.tup [.v (Ti [(n : Int)]), .own ((List.replicate w (Li (rng n))).map .v), .v (.int 0)]), some (.v (Li (nought w))), some (OLi (oneC w)), some (.v (.int (wy n (w + 1) true : Nat))), some (.v (.int (wy n (w + 1) false : Nat))), x8, x9, none, x11]) (fun k => OLi ((oneC w).set (k + 1) ((n : Int) - 1))) ⟨_, _, _, rfl⟩ (by rw [List.length_range, Sz]; omega) ?_ ?_
    · rintro k hk e ⟨x8, x9, x11, rfl⟩
      have hk := List.mem_range.1 hk
      refine ⟨_, rfl, ?_⟩
      have e1 : (((k + 1 : Nat) : Int) + 1) = ((k + 1 + 1 : Nat) : Int) := rfl
      simp only [exs, ex1, den, denPs, denP, denEs, denC, denO, denI, bind_ok, st_okq, seq_next, seq_ret, lift_some, look0, lookS, asBool_ok, lift_none, and_ok, or_ok, Tgt.slots, wipeE, backE, keepV, Tgt.put, setMany, ds_map_vq, ds_nilq, filter_ff, rev_mapq, mkTup_v, mkTupF_1, mkTupF_2, mkTupF_3, mkLst_1, seqD_list, seqD_tuple, seqD_own, all_isV, rsat_ok, ssat_next, ssat_ret, Function.comp_apply, addV_int, rdIdx, elems_own, elems_list, elems_tup, Bool.true_or, List.length_map, List.isEmpty_nil, List.isEmpty_cons, isiD_tuple, isiD_list, mkTupF_nil, mkLst_nil, shaped_int, shaped_none, shaped_bool, shaped_Li, shaped_Ti, shaped_LLi, shaped_Lnil, shaped_Tnil, eqv_int, eqv_Li, eqv_Ti, eqv_LLi, eqv_Lnil, eqv_Tnil, bool2, List.isEmpty_map, List.getElem_map, Int.reduceLT, Int.reduceLE, leafys_ints, leafys_lis, two_str, eqv_sstr, mkTupF_xo, mkTupF_ox, mkTupF_oxx, mkTupF_xox, mkTupF_xxo, mkTupF_xt, mkTupF_tx, mkTupF_txx, mkTupF_xtx, mkTupF_xxt, mkLst_2, mkLst_3, mkLst_4, elems_tupT, elems_ownT, Bool.or_true, List.contains_cons, List.contains_nil, res1, resAll, resAll_nil, Option.map_some, Option.map_none, pr, pr1, pr2, int1, int2, intOf, oI, oB, Ev.data2, isNone, rdVar, mvVar, argO, argOs, lent, Ev.borrowed, endCall, Ev.finish, outOf, doCall, leafy, leafyOut, List.map_cons, List.map_nil, List.cons_append, List.nil_append, List.append_nil, List.length_cons, List.length_nil, List.getElem?_cons_zero, List.getElem?_cons_succ, Nat.reduceAdd, Nat.reduceSub, Nat.zero_add, List.replicate_succ, List.replicate_zero, List.any_cons, List.any_nil, Bool.or_false, Bool.false_or, Bool.and_true, Bool.true_and, Bool.false_and, Bool.and_false, Bool.not_true, Bool.not_false, noList, noLists, leafys, Bool.false_eq_true, if_true, if_false, ite_true, ite_false, reduceIte, List.set_cons_zero, List.set_cons_succ, O.d, liftS, setN, doTg, doTgs, decide_true, decide_false, Nat.reduceLT, Nat.reduceBEq, Nat.reduceEqDiff, beq_self_eq_true, seqO, cut_lo, cut_hi, e1, put_val (oneC w) (k + 1) _ (by omega) (by omega), put_val2 (oneC w) (k + 1) _ (by omega) (by omega), true_and]
      exact ⟨_, _, _, rfl⟩
    · rintro e ⟨x8, x9, x11, rfl⟩
      have hlen : [O.v (Li (nought w))].length + ((List.range (w - 1)).map fun k => OLi ((oneC w).set (k + 1) ((n : Int) - 1))).length ≤ sizeLine := by
        simp [Sz]; omega
      have hrow : O.ds ([O.v (Li (nought w))] ++ (List.range (w - 1)).map fun k => OLi ((oneC w).set (k + 1) ((n : Int) - 1))) = (nought w :: (List.range (w - 1)).map fun k => (oneC w).set (k + 1) ((n : Int) - 1)).map fun r => Li r := by
        show Li (nought w) :: O.ds ((List.range (w - 1)).map fun k => OLi ((oneC w).set (k + 1) ((n : Int) - 1))) = Li (nought w) :: _
        congr 1
        rw [show ((List.range (w - 1)).map fun k => OLi ((oneC w).set (k + 1) ((n : Int) - 1))) = ((List.range (w - 1)).map fun k => (oneC w).set (k + 1) ((n : Int) - 1)).map OLi by rw [List.map_map]; rfl, ds_OLi]
      have hsd := sortO_ds hrow
      have n1 := p_nearest_right _ _ _ hs _ hcN
      have n2' := p_nearest_right _ _ _ hs _ hcO
      rw [near_nought n w n2 n3 w2 w3] at n1
      rw [near_one n w n2 n3 w2 w3] at n2'
      have pw : powOk 10 20 = true := by decide +kernel
      have p20 : ((10 : Int) ^ (20 : Int).toNat) = 100000000000000000000 := by decide +kernel
      have nF := p_how_many_far _ _ _ hs _ hcN 100000000000000000000 (by simp; omega)
      have hsd1 : O.ds (sortO (O.v (Li (nought w)) :: (List.range (w - 1)).map fun k => OLi ((oneC w).set (k + 1) ((n : Int) - 1)))) = _ := hsd
      have hrow1 : O.ds (O.v (Li (nought w)) :: (List.range (w - 1)).map fun k => OLi ((oneC w).set (k + 1) ((n : Int) - 1))) = _ := hrow
      have o1 : O.ds [OLi (nought w)] = [Li (nought w)] := congrArg (fun d => [d]) (OLi_d _)
      have o2 : O.ds [O.v (Li (nought w))] = [Li (nought w)] := rfl
      have o3 : SeqAt.shaped (PyData.list [Li (nought w)]) = true := shaped_LLi [nought w]
      have o4 : PyData.eqv (PyData.list [Li (nought w)]) (PyData.list [Li (nought w)]) = true := by
        have := eqv_LLi [nought w] [nought w]
        rw [decide_eq_true rfl] at this; exact this
      have hso : sortable (Li (nought w) :: ((List.range (w - 1)).map fun k => (oneC w).set (k + 1) ((n : Int) - 1)).map fun r => Li r) = true := sortable_lis (nought w :: (List.range (w - 1)).map fun k => (oneC w).set (k + 1) ((n : Int) - 1))
      simp only [exs, ex1, den, denPs, denP, denEs, denC, denO, denI, bind_ok, st_okq, seq_next, seq_ret, lift_some, look0, lookS, asBool_ok, lift_none, and_ok, or_ok, Tgt.slots, wipeE, backE, keepV, Tgt.put, setMany, ds_map_vq, ds_nilq, filter_ff, rev_mapq, mkTup_v, mkTupF_1, mkTupF_2, mkTupF_3, mkLst_1, seqD_list, seqD_tuple, seqD_own, all_isV, rsat_ok, ssat_next, ssat_ret, Function.comp_apply, addV_int, rdIdx, elems_own, elems_list, elems_tup, Bool.true_or, List.length_map, List.isEmpty_nil, List.isEmpty_cons, isiD_tuple, isiD_list, mkTupF_nil, mkLst_nil, shaped_int, shaped_none, shaped_bool, shaped_Li, shaped_Ti, shaped_LLi, shaped_Lnil, shaped_Tnil, eqv_int, eqv_Li, eqv_Ti, eqv_LLi, eqv_Lnil, eqv_Tnil, bool2, List.isEmpty_map, List.getElem_map, Int.reduceLT, Int.reduceLE, leafys_ints, leafys_lis, two_str, eqv_sstr, mkTupF_xo, mkTupF_ox, mkTupF_oxx, mkTupF_xox, mkTupF_xxo, mkTupF_xt, mkTupF_tx, mkTupF_txx, mkTupF_xtx, mkTupF_xxt, mkLst_2, mkLst_3, mkLst_4, elems_tupT, elems_ownT, Bool.or_true, List.contains_cons, List.contains_nil, res1, resAll, resAll_nil, Option.map_some, Option.map_none, pr, pr1, pr2, int1, int2, intOf, oI, oB, Ev.data2, isNone, rdVar, mvVar, argO, argOs, lent, Ev.borrowed, endCall, Ev.finish, outOf, doCall, leafy, leafyOut, List.map_cons, List.map_nil, List.cons_append, List.nil_append, List.append_nil, List.length_cons, List.length_nil, List.getElem?_cons_zero, List.getElem?_cons_succ, Nat.reduceAdd, Nat.reduceSub, Nat.zero_add, List.replicate_succ, List.replicate_zero, List.any_cons, List.any_nil, Bool.or_false, Bool.false_or, Bool.and_true, Bool.true_and, Bool.false_and, Bool.and_false, Bool.not_true, Bool.not_false, noList, noLists, leafys, Bool.false_eq_true, if_true, if_false, ite_true, ite_false, reduceIte, List.set_cons_zero, List.set_cons_succ, O.d, liftS, setN, doTg, doTgs, decide_true, decide_false, Nat.reduceLT, Nat.reduceBEq, Nat.reduceEqDiff, beq_self_eq_true, E_nearest_right_ps, E_nearest_right_io, E_how_many_at_ps, E_how_many_at_io, addV_ooO true _ _ hlen, hrow1, hso, hsd1, dS, n1, n2', ds_OLi, pw, p20, nF, o1, o2, o3, o4]
end Lw
set_option Elab.async false
set_option linter.all false
set_option maxRecDepth 100000
set_option maxHeartbeats 0
namespace Lw
open PySem PySem.Spec PyProof.Rows L2 Ev
def upL : List Int := [0, 1, 2, 3, 4, 5, 6, 7, 8, 9]
def threeL : List Int := [0, 3, 6, 9, 2, 5, 8, 1, 4, 7]
def gts : List (List Int) := [upL, threeL, upL, threeL]
theorem goods_sys : Sys [10] gts 0 where
  o := ⟨by decide, by decide, by decide⟩
  w := by decide
  w2 := by decide
  p := by decide
  rp := by
    intro r hr
    simp only [gts, List.mem_cons, List.not_mem_nil, or_false] at hr
    rcases hr with rfl | rfl | rfl | rfl <;> decide
  t0 := by decide
  t1 := by decide
theorem wrong_code : Code [10] gts [1, 2, 3, 4] := ⟨by decide, by decide⟩
theorem mate_code : Code [10] gts [1, 2, 0, 0] := ⟨by decide, by decide⟩
theorem right_code : Code [10] gts [1, 2, 3, 0] := ⟨by decide, by decide⟩
theorem near_wrong : nearL [10] gts 0 [1, 2, 3, 4] = [[1, 2, 1, 4], [1, 2, 3, 0], [1, 8, 3, 4], [9, 2, 3, 4]] := by
  unfold nearL
  rw [if_neg (by decide +kernel)]
  exact sortL_eq (by decide +kernel) (by decide +kernel)
theorem near_right : nearL [10] gts 0 [1, 2, 3, 0] = [[1, 2, 3, 0]] := by
  unfold nearL
  rw [if_pos (by decide +kernel)]
theorem told_wrong : toldL [10] gts 0 [1, 2, 3, 4] = [0, 4, 48, 292, 656, 0] := by decide +kernel
theorem mkLst_of (os : List O) (h : os.length ≤ 100) : mkLst os = some (.own os) := by
  have : os.length ≤ sizeLine := by rw [Sz]; omega
  simp [mkLst, fits, this]
abbrev upD : D := .list [.int 0, .int 1, .int 2, .int 3, .int 4, .int 5, .int 6, .int 7, .int 8, .int 9]
abbrev litD : D := .list [.int 2, .list [.int 0, .int 4, .int 48, .int 292, .int 656, .int 0], .list [.list [.int 1, .int 2, .int 1, .int 4], .list [.int 1, .int 2, .int 3, .int 0], .list [.int 1, .int 8, .int 3, .int 4], .list [.int 9, .int 2, .int 3, .int 4]], .list [.list [.int 1, .int 2, .int 3, .int 0]]]
abbrev thD : D := .list [.int 0, .int 3, .int 6, .int 9, .int 2, .int 5, .int 8, .int 1, .int 4, .int 7]
theorem w_at (k : Nat) (hk : k < 4) : ∃ w : Nat, 2 ≤ w ∧ w ≤ 5 ∧ atI [O.v (.int 2), O.v (.int 3), O.v (.int 4), O.v (.int 5)] (k : Int) = some (.v (.int w)) := by
  match k, hk with
  | 0, _ => exact ⟨2, by omega, by omega, rfl⟩
  | 1, _ => exact ⟨3, by omega, by omega, rfl⟩
  | 2, _ => exact ⟨4, by omega, by omega, rfl⟩
  | 3, _ => exact ⟨5, by omega, by omega, rfl⟩
theorem plainD (ns : List Int) : E_law.sem [.v (Li ns)] = .ok (.v (.bool true)) none := by
  (rw [show E_law.sem = S_law from rfl, S_law, runDef]; refine sat_fin ?_)
  have ud : rangeO 0 10 = [.v (.int 0), .v (.int 1), .v (.int 2), .v (.int 3), .v (.int 4), .v (.int 5), .v (.int 6), .v (.int 7), .v (.int 8), .v (.int 9)] := rfl
  have hr4 : rangeIt [.v (.int 4)] = some (rangeD 0 1 4) := rangeIt1 4 (by decide)
  have hr6 : rangeIt [.v (.int 6)] = some ((rng 6).map .int) := by rw [← rangeD_rng]; exact rangeIt1 6 (by decide)
  have hrg : rgOk 0 10 = true := by decide
  simp only [S_law, I_law, L_law, runDef, exs, ex1, den, denPs, denP, denEs, denC, denO, denI, bind_ok, st_okq, seq_next, seq_ret, lift_some, look0, lookS, asBool_ok, lift_none, and_ok, or_ok, Tgt.slots, wipeE, backE, keepV, Tgt.put, setMany, ds_map_vq, ds_nilq, filter_ff, rev_mapq, mkTup_v, mkTupF_1, mkTupF_2, mkTupF_3, mkLst_1, seqD_list, seqD_tuple, seqD_own, all_isV, rsat_ok, ssat_next, ssat_ret, Function.comp_apply, addV_int, rdIdx, elems_own, elems_list, elems_tup, Bool.true_or, List.length_map, List.isEmpty_nil, List.isEmpty_cons, isiD_tuple, isiD_list, mkTupF_nil, mkLst_nil, shaped_int, shaped_none, shaped_bool, shaped_Li, shaped_Ti, shaped_LLi, shaped_Lnil, shaped_Tnil, eqv_int, eqv_Li, eqv_Ti, eqv_LLi, eqv_Lnil, eqv_Tnil, bool2, List.isEmpty_map, List.getElem_map, Int.reduceLT, Int.reduceLE, leafys_ints, leafys_lis, two_str, eqv_sstr, mkTupF_xo, mkTupF_ox, mkTupF_oxx, mkTupF_xox, mkTupF_xxo, mkTupF_xt, mkTupF_tx, mkTupF_txx, mkTupF_xtx, mkTupF_xxt, mkLst_2, mkLst_3, mkLst_4, elems_tupT, elems_ownT, Bool.or_true, List.contains_cons, List.contains_nil, res1, resAll, resAll_nil, Option.map_some, Option.map_none, pr, pr1, pr2, int1, int2, intOf, oI, oB, Ev.data2, isNone, rdVar, mvVar, argO, argOs, lent, Ev.borrowed, endCall, Ev.finish, outOf, doCall, leafy, leafyOut, List.map_cons, List.map_nil, List.cons_append, List.nil_append, List.append_nil, List.length_cons, List.length_nil, List.getElem?_cons_zero, List.getElem?_cons_succ, Nat.reduceAdd, Nat.reduceSub, Nat.zero_add, List.replicate_succ, List.replicate_zero, List.any_cons, List.any_nil, Bool.or_false, Bool.false_or, Bool.and_true, Bool.true_and, Bool.false_and, Bool.and_false, Bool.not_true, Bool.not_false, noList, noLists, leafys, Bool.false_eq_true, if_true, if_false, ite_true, ite_false, reduceIte, List.set_cons_zero, List.set_cons_succ, O.d, liftS, setN, doTg, doTgs, decide_true, decide_false, Nat.reduceLT, Nat.reduceBEq, Nat.reduceEqDiff, beq_self_eq_true, hr4]
  repeat (first | with_reducible refine sat_seq ?_ | with_reducible refine sat_st ?_ | with_reducible refine sat_bind ?_ | with_reducible refine sat_asBool ?_)
  refine sat_for (fun k e => ∃ x1, e = [some (.v (Li ns)), x1, none, none, none, none, none, none]) ⟨_, rfl⟩ ?_ ?_
  · rintro k hk e ⟨x1, rfl⟩
    have hk' : k < 4 := by simpa [rangeD_len] using hk
    obtain ⟨g, hg, hG⟩ := p__law_generator ns k (by omega)
    obtain ⟨w, w1, w2, hw⟩ := w_at k hk'
    obtain ⟨out, hR⟩ := p__law_right (1000 * k) g hG (by omega) w w1 w2
    refine ⟨_, by rw [rangeD_get]; exact putT_one _ _ _ (by simp), ?_⟩
    simp only [exs, ex1, den, denPs, denP, denEs, denC, denO, denI, bind_ok, st_okq, seq_next, seq_ret, lift_some, look0, lookS, asBool_ok, lift_none, and_ok, or_ok, Tgt.slots, wipeE, backE, keepV, Tgt.put, setMany, ds_map_vq, ds_nilq, filter_ff, rev_mapq, mkTup_v, mkTupF_1, mkTupF_2, mkTupF_3, mkLst_1, seqD_list, seqD_tuple, seqD_own, all_isV, rsat_ok, ssat_next, ssat_ret, Function.comp_apply, addV_int, rdIdx, elems_own, elems_list, elems_tup, Bool.true_or, List.length_map, List.isEmpty_nil, List.isEmpty_cons, isiD_tuple, isiD_list, mkTupF_nil, mkLst_nil, shaped_int, shaped_none, shaped_bool, shaped_Li, shaped_Ti, shaped_LLi, shaped_Lnil, shaped_Tnil, eqv_int, eqv_Li, eqv_Ti, eqv_LLi, eqv_Lnil, eqv_Tnil, bool2, List.isEmpty_map, List.getElem_map, Int.reduceLT, Int.reduceLE, leafys_ints, leafys_lis, two_str, eqv_sstr, mkTupF_xo, mkTupF_ox, mkTupF_oxx, mkTupF_xox, mkTupF_xxo, mkTupF_xt, mkTupF_tx, mkTupF_txx, mkTupF_xtx, mkTupF_xxt, mkLst_2, mkLst_3, mkLst_4, elems_tupT, elems_ownT, Bool.or_true, List.contains_cons, List.contains_nil, res1, resAll, resAll_nil, Option.map_some, Option.map_none, pr, pr1, pr2, int1, int2, intOf, oI, oB, Ev.data2, isNone, rdVar, mvVar, argO, argOs, lent, Ev.borrowed, endCall, Ev.finish, outOf, doCall, leafy, leafyOut, List.map_cons, List.map_nil, List.cons_append, List.nil_append, List.append_nil, List.length_cons, List.length_nil, List.getElem?_cons_zero, List.getElem?_cons_succ, Nat.reduceAdd, Nat.reduceSub, Nat.zero_add, List.replicate_succ, List.replicate_zero, List.any_cons, List.any_nil, Bool.or_false, Bool.false_or, Bool.and_true, Bool.true_and, Bool.false_and, Bool.and_false, Bool.not_true, Bool.not_false, noList, noLists, leafys, Bool.false_eq_true, if_true, if_false, ite_true, ite_false, reduceIte, List.set_cons_zero, List.set_cons_succ, O.d, liftS, setN, doTg, doTgs, decide_true, decide_false, Nat.reduceLT, Nat.reduceBEq, Nat.reduceEqDiff, beq_self_eq_true, E__law_right_ps, E__law_right_io, E__law_generator_ps, E__law_generator_io, hg, hw, hR]
    exact ⟨_, rfl⟩
  · rintro e ⟨x1, rfl⟩
    have hml : ∀ a b c d e f g h i j : O, mkLst [a, b, c, d, e, f, g, h, i, j] = some (.own [a, b, c, d, e, f, g, h, i, j]) := by intros; rfl
    have hm6 : ∀ a b c d e f : O, mkLst [a, b, c, d, e, f] = some (.own [a, b, c, d, e, f]) := by intros; rfl
    have f1 : E_distance.sem [.v (Sy [10] gts 0), .v (Li [1, 2, 3, 4]), .v (Li [1, 2, 0, 0])] = .ok (.v (.int 2)) none := p_distance [10] gts 0 goods_sys _ _ wrong_code mate_code
    have f3 := p_nearest_right [10] gts 0 goods_sys _ wrong_code
    have f4 := p_nearest_right [10] gts 0 goods_sys _ right_code
    rw [near_wrong] at f3
    rw [near_right] at f4
    have f2 : ∀ x, x ∈ rng 6 → E_how_many_at.sem [.v (Sy [10] gts 0), .v (Li [1, 2, 3, 4]), .v (.int x)] = .ok (.v (.int (toldF [10] gts 0 [1, 2, 3, 4] x))) none := by
      intro x hx
      obtain ⟨j, hj, rfl⟩ := List.mem_map.1 hx
      simp only [Int.ofNat_eq_natCast]
      unfold toldF
      rw [Int.toNat_natCast]
      split
      · exact p_how_many_at [10] gts 0 goods_sys (by decide) _ wrong_code j (by assumption)
      · exact p_how_many_far [10] gts 0 goods_sys _ wrong_code j (by omega)
    simp only [Sy, Ti, Lli, Li, gts, upL, threeL, List.map_cons, List.map_nil, OLi] at f1 f2 f3 f4
    simp only [exs, ex1, den, denPs, denP, denEs, denC, denO, denI, bind_ok, st_okq, seq_next, seq_ret, lift_some, look0, lookS, asBool_ok, lift_none, and_ok, or_ok, Tgt.slots, wipeE, backE, keepV, Tgt.put, setMany, ds_map_vq, ds_nilq, filter_ff, rev_mapq, mkTup_v, mkTupF_1, mkTupF_2, mkTupF_3, mkLst_1, seqD_list, seqD_tuple, seqD_own, all_isV, rsat_ok, ssat_next, ssat_ret, Function.comp_apply, addV_int, rdIdx, elems_own, elems_list, elems_tup, Bool.true_or, List.length_map, List.isEmpty_nil, List.isEmpty_cons, isiD_tuple, isiD_list, mkTupF_nil, mkLst_nil, shaped_int, shaped_none, shaped_bool, shaped_Li, shaped_Ti, shaped_LLi, shaped_Lnil, shaped_Tnil, eqv_int, eqv_Li, eqv_Ti, eqv_LLi, eqv_Lnil, eqv_Tnil, bool2, List.isEmpty_map, List.getElem_map, Int.reduceLT, Int.reduceLE, leafys_ints, leafys_lis, two_str, eqv_sstr, mkTupF_xo, mkTupF_ox, mkTupF_oxx, mkTupF_xox, mkTupF_xxo, mkTupF_xt, mkTupF_tx, mkTupF_txx, mkTupF_xtx, mkTupF_xxt, mkLst_2, mkLst_3, mkLst_4, elems_tupT, elems_ownT, Bool.or_true, List.contains_cons, List.contains_nil, res1, resAll, resAll_nil, Option.map_some, Option.map_none, pr, pr1, pr2, int1, int2, intOf, oI, oB, Ev.data2, isNone, rdVar, mvVar, argO, argOs, lent, Ev.borrowed, endCall, Ev.finish, outOf, doCall, leafy, leafyOut, List.map_cons, List.map_nil, List.cons_append, List.nil_append, List.append_nil, List.length_cons, List.length_nil, List.getElem?_cons_zero, List.getElem?_cons_succ, Nat.reduceAdd, Nat.reduceSub, Nat.zero_add, List.replicate_succ, List.replicate_zero, List.any_cons, List.any_nil, Bool.or_false, Bool.false_or, Bool.and_true, Bool.true_and, Bool.false_and, Bool.and_false, Bool.not_true, Bool.not_false, noList, noLists, leafys, Bool.false_eq_true, if_true, if_false, ite_true, ite_false, reduceIte, List.set_cons_zero, List.set_cons_succ, O.d, liftS, setN, doTg, doTgs, decide_true, decide_false, Nat.reduceLT, Nat.reduceBEq, Nat.reduceEqDiff, beq_self_eq_true, E_distance_ps, E_distance_io, E_how_many_at_ps, E_how_many_at_io, E_nearest_right_ps, E_nearest_right_io, ud, hrg, hml, hm6, hr6, O.ds, f1]
    repeat (first | with_reducible refine sat_seq ?_ | with_reducible refine sat_st ?_ | with_reducible refine sat_bind ?_ | with_reducible refine sat_asBool ?_)
    refine sat_compA PyData.int (rng 6) (fun e => ∃ x7, e = [some (.v (Li ns)), x1, some (.v upD), some (.v thD), some (.tup [.v (.tuple [.int 10]), .own [.v upD, .v thD, .v upD, .v thD], .v (.int 0)]), some (.own [.v (.int 1), .v (.int 2), .v (.int 3), .v (.int 4)]), none, x7]) (fun x => O.v (.int (toldF [10] gts 0 [1, 2, 3, 4] x))) ⟨_, rfl⟩ (by rw [rng_len, Sz]; omega) ?_ ?_
    · rintro x hx e ⟨x7, rfl⟩
      refine ⟨_, rfl, ?_⟩
      have f2 := f2 x hx
      simp only [exs, ex1, den, denPs, denP, denEs, denC, denO, denI, bind_ok, st_okq, seq_next, seq_ret, lift_some, look0, lookS, asBool_ok, lift_none, and_ok, or_ok, Tgt.slots, wipeE, backE, keepV, Tgt.put, setMany, ds_map_vq, ds_nilq, filter_ff, rev_mapq, mkTup_v, mkTupF_1, mkTupF_2, mkTupF_3, mkLst_1, seqD_list, seqD_tuple, seqD_own, all_isV, rsat_ok, ssat_next, ssat_ret, Function.comp_apply, addV_int, rdIdx, elems_own, elems_list, elems_tup, Bool.true_or, List.length_map, List.isEmpty_nil, List.isEmpty_cons, isiD_tuple, isiD_list, mkTupF_nil, mkLst_nil, shaped_int, shaped_none, shaped_bool, shaped_Li, shaped_Ti, shaped_LLi, shaped_Lnil, shaped_Tnil, eqv_int, eqv_Li, eqv_Ti, eqv_LLi, eqv_Lnil, eqv_Tnil, bool2, List.isEmpty_map, List.getElem_map, Int.reduceLT, Int.reduceLE, leafys_ints, leafys_lis, two_str, eqv_sstr, mkTupF_xo, mkTupF_ox, mkTupF_oxx, mkTupF_xox, mkTupF_xxo, mkTupF_xt, mkTupF_tx, mkTupF_txx, mkTupF_xtx, mkTupF_xxt, mkLst_2, mkLst_3, mkLst_4, elems_tupT, elems_ownT, Bool.or_true, List.contains_cons, List.contains_nil, res1, resAll, resAll_nil, Option.map_some, Option.map_none, pr, pr1, pr2, int1, int2, intOf, oI, oB, Ev.data2, isNone, rdVar, mvVar, argO, argOs, lent, Ev.borrowed, endCall, Ev.finish, outOf, doCall, leafy, leafyOut, List.map_cons, List.map_nil, List.cons_append, List.nil_append, List.append_nil, List.length_cons, List.length_nil, List.getElem?_cons_zero, List.getElem?_cons_succ, Nat.reduceAdd, Nat.reduceSub, Nat.zero_add, List.replicate_succ, List.replicate_zero, List.any_cons, List.any_nil, Bool.or_false, Bool.false_or, Bool.and_true, Bool.true_and, Bool.false_and, Bool.and_false, Bool.not_true, Bool.not_false, noList, noLists, leafys, Bool.false_eq_true, if_true, if_false, ite_true, ite_false, reduceIte, List.set_cons_zero, List.set_cons_succ, O.d, liftS, setN, doTg, doTgs, decide_true, decide_false, Nat.reduceLT, Nat.reduceBEq, Nat.reduceEqDiff, beq_self_eq_true, E_how_many_at_ps, E_how_many_at_io, O.ds, upD, thD, f2, true_and]
      exact ⟨rfl, _, rfl⟩
    · rintro e ⟨x7, rfl⟩
      obtain ⟨g, hg, hG⟩ := p__law_generator ns 4 (by decide)
      have hg : E__law_generator.sem [.v (Li ns), .v (.int 4)] = .ok g none := hg
      obtain ⟨out, hR⟩ := p__law_great_right (1000 * 4) g hG (by decide)
      have ht : (rng 6).map (fun x => O.v (.int (toldF [10] gts 0 [1, 2, 3, 4] x))) = [.v (.int 0), .v (.int 4), .v (.int 48), .v (.int 292), .v (.int 656), .v (.int 0)] := by
        have e : (rng 6).map (fun x => O.v (.int (toldF [10] gts 0 [1, 2, 3, 4] x))) = (toldL [10] gts 0 [1, 2, 3, 4]).map fun x => O.v (.int x) := by
          show (rng 6).map _ = ((rng 6).map _).map _
          rw [List.map_map]; rfl
        rw [e, told_wrong]; rfl
      have hsh : SeqAt.shaped litD = true := by decide +kernel
      have heq : PyData.eqv litD litD = true := by decide +kernel
      simp only [litD] at hsh heq
      simp only [exs, ex1, den, denPs, denP, denEs, denC, denO, denI, bind_ok, st_okq, seq_next, seq_ret, lift_some, look0, lookS, asBool_ok, lift_none, and_ok, or_ok, Tgt.slots, wipeE, backE, keepV, Tgt.put, setMany, ds_map_vq, ds_nilq, filter_ff, rev_mapq, mkTup_v, mkTupF_1, mkTupF_2, mkTupF_3, mkLst_1, seqD_list, seqD_tuple, seqD_own, all_isV, rsat_ok, ssat_next, ssat_ret, Function.comp_apply, addV_int, rdIdx, elems_own, elems_list, elems_tup, Bool.true_or, List.length_map, List.isEmpty_nil, List.isEmpty_cons, isiD_tuple, isiD_list, mkTupF_nil, mkLst_nil, shaped_int, shaped_none, shaped_bool, shaped_Li, shaped_Ti, shaped_LLi, shaped_Lnil, shaped_Tnil, eqv_int, eqv_Li, eqv_Ti, eqv_LLi, eqv_Lnil, eqv_Tnil, bool2, List.isEmpty_map, List.getElem_map, Int.reduceLT, Int.reduceLE, leafys_ints, leafys_lis, two_str, eqv_sstr, mkTupF_xo, mkTupF_ox, mkTupF_oxx, mkTupF_xox, mkTupF_xxo, mkTupF_xt, mkTupF_tx, mkTupF_txx, mkTupF_xtx, mkTupF_xxt, mkLst_2, mkLst_3, mkLst_4, elems_tupT, elems_ownT, Bool.or_true, List.contains_cons, List.contains_nil, res1, resAll, resAll_nil, Option.map_some, Option.map_none, pr, pr1, pr2, int1, int2, intOf, oI, oB, Ev.data2, isNone, rdVar, mvVar, argO, argOs, lent, Ev.borrowed, endCall, Ev.finish, outOf, doCall, leafy, leafyOut, List.map_cons, List.map_nil, List.cons_append, List.nil_append, List.append_nil, List.length_cons, List.length_nil, List.getElem?_cons_zero, List.getElem?_cons_succ, Nat.reduceAdd, Nat.reduceSub, Nat.zero_add, List.replicate_succ, List.replicate_zero, List.any_cons, List.any_nil, Bool.or_false, Bool.false_or, Bool.and_true, Bool.true_and, Bool.false_and, Bool.and_false, Bool.not_true, Bool.not_false, noList, noLists, leafys, Bool.false_eq_true, if_true, if_false, ite_true, ite_false, reduceIte, List.set_cons_zero, List.set_cons_succ, O.d, liftS, setN, doTg, doTgs, decide_true, decide_false, Nat.reduceLT, Nat.reduceBEq, Nat.reduceEqDiff, beq_self_eq_true, E_nearest_right_ps, E_nearest_right_io, E__law_great_right_ps, E__law_great_right_io, E__law_generator_ps, E__law_generator_io, O.ds, upD, thD, ht, f3, f4, hg, hR, hsh, heq, and_self]
end Lw
theorem Lw.plain (ns : List Int) (_ : ns.length ≤ 63) (_ : ∀ z ∈ ns, PySem.Builtin.Int.intBits z ≤ 1048576) : ∃ out, Lw.E_law.sem [Ev.intsO ns] = .ok (.v (.bool true)) out := ⟨none, Lw.plainD ns⟩
open PySem PySem.W PySem.Calls PyProof.Rows
theorem PySem.Challenge.cw_checkwright_k61_whole_distances_holds : PySem.Challenge.rw_checkwright_k61_whole_distances.Holds := by
  w_on; o_law
  refine HandSHeadRun.head_any (r := OpenLaw.row PySem.Challenge.rw_checkwright_k61_whole_distances) (q := view (OpenLaw.row PySem.Challenge.rw_checkwright_k61_whole_distances).prog [62]) (H := Lw.hk) (ob := Lw.ob) (M := 20000) (loose := Lw.loose) (d := HandSHeadRun.topDef (OpenLaw.row PySem.Challenge.rw_checkwright_k61_whole_distances).prog 62) (kwd := []) Lw.ob_eq
    (by kernel_rfl) (fun s => by kernel_rfl) Lw.run (by kernel_rfl) (by kernel_rfl) (by kernel_rfl) (by rfl) (by first | assumption | decide +kernel) (by decide +kernel) ⟨rfl, rfl, rfl, rfl, rfl, by decide +kernel⟩ ?hw ?hc
  case hw => w_witness2
  case hc =>
    refine Ev.walk_G (l := PySem.Challenge.rw_checkwright_k61_whole_distances) (n := 63) (k := 10) (x := "script") (g := Lw.E_law) rfl (by decide) (by kernel_rfl) ⟨rfl, by decide, by decide⟩ rfl ?F Lw.plain
    intro w mg fa h Y G hmg0
    obtain ⟨K, KX, no, c⟩ := Y
    have hmg : mg ("law" : PySem.Str) = some (.ref fa) := by
      have e : (HandSHeadRun.topDef (OpenLaw.row PySem.Challenge.rw_checkwright_k61_whole_distances).prog 62).name = ("law" : PySem.Str) := by kernel_rfl
      rw [← e]
      exact hmg0
    obtain ⟨fd, hb, hF⟩ := Lw.law_facts (P := (PySem.Challenge.rw_checkwright_k61_whole_distances).prog) (w := w) KX G hmg c
    exact ⟨K, fd, KX, no, hb, hF⟩

