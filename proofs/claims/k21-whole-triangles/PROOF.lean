import PyProof.Rows.All
import Wide.All
import OpenK.AllK
import Wide.FinOn
import HandS.ForMost
import HandS.Exc
import HandS.ExcOwn
import HandS.WordsExc
import HandS.TryOnly
import HandS.More
import HandS.Wide
import HandS.Conv
import HandS.IsInst
import HandS.Lambda
import HandS.Flow
import KE.DataMinMax
import HandS.SortInts
import HandS.EndBits
import HandS.Codes
import HandS.Style
import PySem.Challenge.RW_sharedbits_k21_whole_triangles
set_option Elab.async false
set_option linter.all false
set_option maxRecDepth 100000
set_option maxHeartbeats 400000
/-! DL0: pure data over the hand layer: what a value stands for, what is known, what is owned. -/
namespace DL
open PySem L2

/-- a text by its codes -/
abbrev S (l : List Nat) : Str := ⟨l.toArray⟩
abbrev tx (x : Str) : List Nat := x.cps.toList
theorem S_tx (x : Str) : S (tx x) = x := by cases x; simp
theorem tx_S (l : List Nat) : tx (S l) = l := by simp
theorem S_inj {l m : List Nat} (h : S l = S m) : l = m := by have := congrArg tx h; simpa using this
theorem S_len (l : List Nat) : (S l).length = l.length := by simp [Str.length]

inductive D where
  | non | bl (b : Bool) | int (i : Int) | str (l : List Nat) | lst (xs : List D) | tup (xs : List D) | dct (kvs : List (Key × D)) | scr (ns : List Int) | raw (v : V)

/-- nothing but a table may be there -/
def NT (H : Hp) (p : Addr) : Prop := ∀ o, H p = some o → ∃ ps, o = .tbl ps
/-- what is known of H -/
def Kn (G H : Hp) : Prop := ∀ b o, G b = some o → H b = some o ∧ ∀ ps, o ≠ .tbl ps
def Sub (G G' : Hp) : Prop := ∀ b o, G b = some o → G' b = some o
/-- all but the tables stay, the tables stay tables -/
structure Ex (T : List (Addr × Str)) (H H' : Hp) : Prop where
  keep : ∀ b o, H b = some o → (∀ ps, o ≠ .tbl ps) → H' b = some o
  tab : LamX.Tabs T H → LamX.Tabs T H'
section
variable {T : List (Addr × Str)} {H H1 H2 G G1 G2 : Hp}
theorem Ex.refl (H : Hp) : Ex T H H := ⟨fun _ _ h _ => h, id⟩
theorem Ex.trans (a : Ex T H H1) (b : Ex T H1 H2) : Ex T H H2 := ⟨fun c o h n => b.keep c o (a.keep c o h n) n, fun t => b.tab (a.tab t)⟩
theorem Ex.all (e : ∀ b o, H b = some o → H1 b = some o) : Ex T H H1 := ⟨fun b o h _ => e b o h, fun t => t.ext e⟩
theorem Ex.new {p : Addr} {o : HO} (h : H p = none) : Ex T H (upd H p o) := Ex.all fun b u e => by rw [upd_ne (ne_of_none e h)]; exact e
theorem Ex.nt (e : Ex T H H1) {p : Addr} (n : NT H1 p) : NT H p := fun o h => by
  by_cases q : ∃ ps, o = .tbl ps
  · exact q
  · exact n o (e.keep p o h fun ps z => q ⟨ps, z⟩)
theorem nt_none {p : Addr} (h : H p = none) : NT H p := fun o e => by rw [h] at e; cases e
theorem Sub.refl (G : Hp) : Sub G G := fun _ _ h => h
theorem Sub.trans (a : Sub G G1) (b : Sub G1 G2) : Sub G G2 := fun c o h => b c o (a c o h)
theorem Kn.ex (k : Kn G H) (e : Ex T H H1) : Kn G H1 := fun b o h => ⟨e.keep b o (k b o h).1 (k b o h).2, (k b o h).2⟩
theorem Kn.sub (s : Sub G G1) (k : Kn G1 H) : Kn G H := fun b o h => k b o (s b o h)
theorem Kn.none (k : Kn G H) {p : Addr} (n : NT H p) : G p = none := by
  cases e : G p with
  | none => rfl
  | some o =>
    obtain ⟨h1, h2⟩ := k p o e
    obtain ⟨ps, z⟩ := n o h1
    exact absurd z (h2 ps)
/-- one step on: what is known grows by new things -/
structure Nxt (T : List (Addr × Str)) (G H G' H' : Hp) : Prop where
  sub : Sub G G'
  kn : Kn G' H'
  ex : Ex T H H'
  new : ∀ b, ¬ NT H b → G b = none → G' b = none
theorem Nxt.refl (k : Kn G H) : Nxt T G H G H := ⟨Sub.refl G, k, Ex.refl H, fun _ _ h => h⟩
theorem Nxt.trans {G' H' : Hp} (a : Nxt T G H G1 H1) (b : Nxt T G1 H1 G' H') : Nxt T G H G' H' :=
  ⟨a.sub.trans b.sub, b.kn, a.ex.trans b.ex, fun c n h => b.new c (fun z => n (a.ex.nt z)) (a.new c n h)⟩
/-- the heap goes on, nothing new is known -/
theorem Nxt.heap (k : Kn G H) (e : Ex T H H1) : Nxt T G H G H1 := ⟨Sub.refl G, k.ex e, e, fun _ _ h => h⟩
/-- a new thing, known -/
theorem Nxt.fresh (k : Kn G H) {p : Addr} {o : HO} (h : H p = Option.none) (ho : ∀ ps, o ≠ .tbl ps) : Nxt T G H (upd G p o) (upd H p o) := by
  have gp : G p = Option.none := k.none (nt_none h)
  refine ⟨fun b u e => by rw [upd_ne (ne_of_none e gp)]; exact e, fun b u e => ?_, Ex.new h, fun b n e => ?_⟩
  · by_cases hb : b = p
    · subst hb; rw [upd_same] at e; cases e; exact ⟨upd_same, ho⟩
    · rw [upd_ne hb] at e ⊢; exact k b u e
  · by_cases hb : b = p
    · subst hb; exact absurd (nt_none h) n
    · rw [upd_ne hb]; exact e
end

mutual
inductive Rp (K : PySem.W.Frag) (G : Hp) : V → D → Prop
  | non : Rp K G .non .non
  | bl (b : Bool) : Rp K G (.bl b) (.bl b)
  | int (i : Int) : Rp K G (.int i) (.int i)
  | str (l : List Nat) : Rp K G (.str (S l)) (.str l)
  | lst {a : Addr} {xs : List V} {ds : List D} : G a = some (.lst xs) → RpA K G xs ds → Rp K G (.ref a) (.lst ds)
  | tup {a : Addr} {xs : List V} {ds : List D} : SqT K G a xs → RpA K G xs ds → Rp K G (.ref a) (.tup ds)
  | dct {a : Addr} {o : Obj} {kvs : List (Key × V)} {ds : List (Key × D)} : G a = some (.frz o (.dK kvs)) → RpK K G kvs ds → Rp K G (.ref a) (.dct ds)
  | scr {a : Addr} {ns : List Int} : SqL K G a (ns.map V.int) → Rp K G (.ref a) (.scr ns)
  | raw (v : V) : Rp K G v (.raw v)
inductive RpA (K : PySem.W.Frag) (G : Hp) : List V → List D → Prop
  | nil : RpA K G [] []
  | cons {v : V} {vs : List V} {d : D} {ds : List D} : Rp K G v d → RpA K G vs ds → RpA K G (v :: vs) (d :: ds)
inductive RpK (K : PySem.W.Frag) (G : Hp) : List (Key × V) → List (Key × D) → Prop
  | nil : RpK K G [] []
  | cons {k : Key} {v : V} {vs : List (Key × V)} {d : D} {ds : List (Key × D)} : Rp K G v d → RpK K G vs ds → RpK K G ((k, v) :: vs) ((k, d) :: ds)
end
section
variable {T : List (Addr × Str)} {K : PySem.W.Frag} {G G' H : Hp}
theorem sub_rd {a : Addr} {u : HO} (e : Sub G G') (h : Rd G a u) : Rd G' a u := by
  rcases h with h | ⟨o, h⟩
  · exact .inl (e _ _ h)
  · exact .inr ⟨o, e _ _ h⟩
theorem kn_rd {a : Addr} {u : HO} (e : Kn G H) (h : Rd G a u) : Rd H a u := by
  rcases h with h | ⟨o, h⟩
  · exact .inl (e _ _ h).1
  · exact .inr ⟨o, (e _ _ h).1⟩
theorem sub_t {a : Addr} {xs : List V} (e : Sub G G') (h : SqT K G a xs) : SqT K G' a xs := by
  rcases h with h | h
  · exact .inl (sub_rd e h)
  · exact .inr h
theorem kn_t {a : Addr} {xs : List V} (e : Kn G H) (h : SqT K G a xs) : SqT K H a xs := by
  rcases h with h | h
  · exact .inl (kn_rd e h)
  · exact .inr h
theorem sub_l {a : Addr} {xs : List V} (e : Sub G G') (h : SqL K G a xs) : SqL K G' a xs := by
  rcases h with h | h
  · exact .inl (sub_rd e h)
  · exact .inr h
theorem kn_l {a : Addr} {xs : List V} (e : Kn G H) (h : SqL K G a xs) : SqL K H a xs := by
  rcases h with h | h
  · exact .inl (kn_rd e h)
  · exact .inr h
mutual
theorem Rp.sub (e : Sub G G') : ∀ {v : V} {d : D}, Rp K G v d → Rp K G' v d
  | _, _, .non => .non
  | _, _, .bl b => .bl b
  | _, _, .int i => .int i
  | _, _, .str l => .str l
  | _, _, .lst h r => .lst (e _ _ h) (RpA.sub e r)
  | _, _, .tup h r => .tup (sub_t e h) (RpA.sub e r)
  | _, _, .dct h r => .dct (e _ _ h) (RpK.sub e r)
  | _, _, .scr h => .scr (sub_l e h)
  | _, _, .raw v => .raw v
theorem RpA.sub (e : Sub G G') : ∀ {vs : List V} {ds : List D}, RpA K G vs ds → RpA K G' vs ds
  | _, _, .nil => .nil
  | _, _, .cons h r => .cons (Rp.sub e h) (RpA.sub e r)
theorem RpK.sub (e : Sub G G') : ∀ {vs : List (Key × V)} {ds : List (Key × D)}, RpK K G vs ds → RpK K G' vs ds
  | _, _, .nil => .nil
  | _, _, .cons h r => .cons (Rp.sub e h) (RpK.sub e r)
end
theorem RpA.length {vs : List V} {ds : List D} (r : RpA K G vs ds) : vs.length = ds.length := by
  induction vs generalizing ds with
  | nil => cases r; rfl
  | cons v vs ih => cases r with | cons h r => simp [ih r]
theorem RpA.get {vs : List V} {ds : List D} (r : RpA K G vs ds) {i : Nat} {d : D} (h : ds[i]? = some d) : ∃ v, vs[i]? = some v ∧ Rp K G v d := by
  induction vs generalizing ds i with
  | nil => cases r; simp at h
  | cons v vs ih =>
    cases r with
    | cons h1 r =>
      cases i with
      | zero => simp at h; subst h; exact ⟨v, by simp, h1⟩
      | succ i => simp at h; obtain ⟨u, h2, h3⟩ := ih r h; exact ⟨u, by simpa using h2, h3⟩
theorem RpA.get' {vs : List V} {ds : List D} (r : RpA K G vs ds) {i : Nat} {v : V} (h : vs[i]? = some v) : ∃ d, ds[i]? = some d ∧ Rp K G v d := by
  induction vs generalizing ds i with
  | nil => simp at h
  | cons v vs ih =>
    cases r with
    | cons h1 r =>
      cases i with
      | zero => simp at h; subst h; exact ⟨_, by simp, h1⟩
      | succ i => simp at h; obtain ⟨u, h2, h3⟩ := ih r h; exact ⟨u, by simpa using h2, h3⟩
theorem RpA.append {vs ws : List V} {ds es : List D} (r : RpA K G vs ds) (q : RpA K G ws es) : RpA K G (vs ++ ws) (ds ++ es) := by
  induction vs generalizing ds with
  | nil => cases r; exact q
  | cons v vs ih => cases r with | cons h r => exact .cons h (ih r)
theorem RpA.one {v : V} {d : D} (h : Rp K G v d) : RpA K G [v] [d] := .cons h .nil
theorem RpA.take {vs : List V} {ds : List D} (r : RpA K G vs ds) (n : Nat) : RpA K G (vs.take n) (ds.take n) := by
  induction vs generalizing ds n with
  | nil => cases r; simpa using RpA.nil
  | cons v vs ih => cases r with | cons h r => cases n with
    | zero => simpa using RpA.nil
    | succ n => simpa using RpA.cons h (ih r n)
theorem RpA.drop {vs : List V} {ds : List D} (r : RpA K G vs ds) (n : Nat) : RpA K G (vs.drop n) (ds.drop n) := by
  induction vs generalizing ds n with
  | nil => cases r; simpa using RpA.nil
  | cons v vs ih => cases r with | cons h r => cases n with
    | zero => simpa using RpA.cons h r
    | succ n => simpa using ih r n
theorem RpA.set {vs : List V} {ds : List D} {v : V} {d : D} (r : RpA K G vs ds) (h : Rp K G v d) (n : Nat) : RpA K G (vs.set n v) (ds.set n d) := by
  induction vs generalizing ds n with
  | nil => cases r; simpa using RpA.nil
  | cons u vs ih => cases r with | cons h1 r => cases n with
    | zero => simpa using RpA.cons h r
    | succ n => simpa using RpA.cons h1 (ih r n)
theorem RpA.ints : ∀ ns : List Int, RpA K G (ns.map V.int) (ns.map D.int)
  | [] => .nil
  | n :: ns => .cons (.int n) (RpA.ints ns)
theorem RpA.of_ints {vs : List V} : ∀ {ns : List Int}, RpA K G vs (ns.map D.int) → vs = ns.map V.int := by
  intro ns r
  induction ns generalizing vs with
  | nil => cases r; rfl
  | cons n ns ih => cases r with | cons h r => cases h; rw [ih r]; rfl
theorem RpA.of_strs {vs : List V} : ∀ {ls : List (List Nat)}, RpA K G vs (ls.map D.str) → vs = (ls.map S).map V.str := by
  intro ns r
  induction ns generalizing vs with
  | nil => cases r; rfl
  | cons n ns ih => cases r with | cons h r => cases h; rw [ih r]; rfl
theorem RpA.strs : ∀ ls : List (List Nat), RpA K G ((ls.map S).map V.str) (ls.map D.str)
  | [] => .nil
  | l :: ls => .cons (.str l) (RpA.strs ls)
theorem RpA.of_bls {vs : List V} : ∀ {bs : List Bool}, RpA K G vs (bs.map D.bl) → vs = bs.map V.bl := by
  intro ns r
  induction ns generalizing vs with
  | nil => cases r; rfl
  | cons n ns ih => cases r with | cons h r => cases h; rw [ih r]; rfl
theorem RpK.length {vs : List (Key × V)} {ds : List (Key × D)} (r : RpK K G vs ds) : vs.length = ds.length := by
  induction vs generalizing ds with
  | nil => cases r; rfl
  | cons v vs ih => cases r with | cons h r => simp [ih r]
theorem RpK.keys {vs : List (Key × V)} {ds : List (Key × D)} (r : RpK K G vs ds) : vs.map (·.1) = ds.map (·.1) := by
  induction vs generalizing ds with
  | nil => cases r; rfl
  | cons v vs ih => cases r with | cons h r => simp [ih r]
end

/-! ### slots -/
inductive Sl where
  | sh (d : D) | ol (ds : List D) | od (kvs : List (Key × D))
abbrev Env' := List (Option Sl)

/-- slot i owns p -/
def Ow (σ : St) (ρ : Env') (i : Nat) (p : Addr) : Prop := σ[i]? = some (some (.ref p)) ∧ ((∃ ds, ρ[i]? = some (some (.ol ds))) ∨ ∃ kvs, ρ[i]? = some (some (.od kvs)))

structure At (K : PySem.W.Frag) (T : List (Addr × Str)) (G0 H0 G H : Hp) (σ : St) (ρ : Env') : Prop where
  len : σ.length = ρ.length
  nx : Nxt T G0 H0 G H
  tabs : LamX.Tabs T H
  sh : ∀ (i : Nat) (d : D), ρ[i]? = some (some (.sh d)) → ∃ v, σ[i]? = some (some v) ∧ Rp K G v d
  ol : ∀ (i : Nat) (ds : List D), ρ[i]? = some (some (.ol ds)) → ∃ p xs, σ[i]? = some (some (.ref p)) ∧ H p = some (.lst xs) ∧ RpA K G xs ds ∧ G p = none ∧ NT H0 p
  od : ∀ (i : Nat) (kvs : List (Key × D)), ρ[i]? = some (some (.od kvs)) → ∃ p xs, σ[i]? = some (some (.ref p)) ∧ H p = some (.dK xs) ∧ RpK K G xs kvs ∧ G p = none ∧ NT H0 p
  dis : ∀ (i j : Nat) (p : Addr), Ow σ ρ i p → Ow σ ρ j p → i = j
section
variable {K : PySem.W.Frag} {T : List (Addr × Str)} {G0 H0 G H G' H' : Hp} {σ : St} {ρ : Env'}
theorem lst_nt {p : Addr} {xs : List V} (h : H p = some (.lst xs)) : ¬ NT H p := fun n => by
  obtain ⟨ps, z⟩ := n _ h
  cases z
theorem dK_nt {p : Addr} {xs : List (Key × V)} (h : H p = some (.dK xs)) : ¬ NT H p := fun n => by
  obtain ⟨ps, z⟩ := n _ h
  cases z
theorem At.kn (a : At K T G0 H0 G H σ ρ) : Kn G H := a.nx.kn
theorem At.next (a : At K T G0 H0 G H σ ρ) (n : Nxt T G H G' H') : At K T G0 H0 G' H' σ ρ where
  len := a.len
  nx := a.nx.trans n
  tabs := n.ex.tab a.tabs
  sh := fun i d h => let ⟨v, h1, h2⟩ := a.sh i d h; ⟨v, h1, h2.sub n.sub⟩
  ol := fun i ds h => let ⟨p, xs, h1, h2, h3, h4, h5⟩ := a.ol i ds h; ⟨p, xs, h1, n.ex.keep _ _ h2 (fun _ z => by cases z), h3.sub n.sub, n.new p (lst_nt h2) h4, h5⟩
  od := fun i ds h => let ⟨p, xs, h1, h2, h3, h4, h5⟩ := a.od i ds h; ⟨p, xs, h1, n.ex.keep _ _ h2 (fun _ z => by cases z), h3.sub n.sub, n.new p (dK_nt h2) h4, h5⟩
  dis := a.dis
/-- a slot is set to a known value -/
theorem At.set (a : At K T G0 H0 G H σ ρ) {i : Nat} {v : V} {d : D} (r : Rp K G v d) : At K T G0 H0 G H (σ.set i (some v)) (ρ.set i (some (.sh d))) where
  len := by simp [a.len]
  nx := a.nx
  tabs := a.tabs
  sh := fun j e h => by
    by_cases hj : i = j
    · subst hj
      by_cases hl : i < ρ.length
      · rw [List.getElem?_set_self hl] at h; cases h
        exact ⟨v, by rw [List.getElem?_set_self (by rw [a.len]; exact hl)], r⟩
      · rw [List.getElem?_eq_none (by simpa using hl)] at h; cases h
    · rw [List.getElem?_set_ne hj] at h ⊢; exact a.sh j e h
  ol := fun j e h => by
    by_cases hj : i = j
    · subst hj
      by_cases hl : i < ρ.length
      · rw [List.getElem?_set_self hl] at h; cases h
      · rw [List.getElem?_eq_none (by simpa using hl)] at h; cases h
    · rw [List.getElem?_set_ne hj] at h ⊢; exact a.ol j e h
  od := fun j e h => by
    by_cases hj : i = j
    · subst hj
      by_cases hl : i < ρ.length
      · rw [List.getElem?_set_self hl] at h; cases h
      · rw [List.getElem?_eq_none (by simpa using hl)] at h; cases h
    · rw [List.getElem?_set_ne hj] at h ⊢; exact a.od j e h
  dis := fun j k p h1 h2 => by
    have key : ∀ m, Ow (σ.set i (some v)) (ρ.set i (some (.sh d))) m p → Ow σ ρ m p := by
      rintro m ⟨q1, q2⟩
      by_cases hm : i = m
      · subst hm
        by_cases hl : i < ρ.length
        · rw [List.getElem?_set_self hl] at q2
          rcases q2 with ⟨_, z⟩ | ⟨_, z⟩ <;> cases z
        · rw [List.getElem?_eq_none (by simpa using hl)] at q2
          rcases q2 with ⟨_, z⟩ | ⟨_, z⟩ <;> cases z
      · rw [List.getElem?_set_ne hm] at q1 q2
        exact ⟨q1, q2⟩
    exact a.dis j k p (key j h1) (key k h2)
/-- slots are forgotten (only the env) -/
theorem At.forget (a : At K T G0 H0 G H σ ρ) (i : Nat) : At K T G0 H0 G H σ (ρ.set i none) where
  len := by simp [a.len]
  nx := a.nx
  tabs := a.tabs
  sh := fun j e h => by
    by_cases hj : i = j
    · subst hj
      by_cases hl : i < ρ.length
      · rw [List.getElem?_set_self hl] at h; cases h
      · rw [List.getElem?_eq_none (by simpa using hl)] at h; cases h
    · rw [List.getElem?_set_ne hj] at h; exact a.sh j e h
  ol := fun j e h => by
    by_cases hj : i = j
    · subst hj
      by_cases hl : i < ρ.length
      · rw [List.getElem?_set_self hl] at h; cases h
      · rw [List.getElem?_eq_none (by simpa using hl)] at h; cases h
    · rw [List.getElem?_set_ne hj] at h; exact a.ol j e h
  od := fun j e h => by
    by_cases hj : i = j
    · subst hj
      by_cases hl : i < ρ.length
      · rw [List.getElem?_set_self hl] at h; cases h
      · rw [List.getElem?_eq_none (by simpa using hl)] at h; cases h
    · rw [List.getElem?_set_ne hj] at h; exact a.od j e h
  dis := fun j k p h1 h2 => by
    have key : ∀ m, Ow σ (ρ.set i none) m p → Ow σ ρ m p := by
      rintro m ⟨q1, q2⟩
      by_cases hm : i = m
      · subst hm
        by_cases hl : i < ρ.length
        · rw [List.getElem?_set_self hl] at q2
          rcases q2 with ⟨_, z⟩ | ⟨_, z⟩ <;> cases z
        · rw [List.getElem?_eq_none (by simpa using hl)] at q2
          rcases q2 with ⟨_, z⟩ | ⟨_, z⟩ <;> cases z
      · rw [List.getElem?_set_ne hm] at q2
        exact ⟨q1, q2⟩
    exact a.dis j k p (key j h1) (key k h2)
end
end DL
/-! DL1: what expressions, tests, arguments are worth, as data. -/
namespace DL
open PySem L2
section
variable (K : PySem.W.Frag) (T : List (Addr × Str))
def EvD (te : TE) (ρ : Env') (d : D) : Prop := ∀ G0 H0 G H σ, At K T G0 H0 G H σ ρ → ∀ Q : VK, (∀ v G' H', Nxt T G H G' H' → Rp K G' v d → Q v H') → te σ H Q
def EvT (tt : TT) (ρ : Env') (b : Bool) : Prop := ∀ G0 H0 G H σ, At K T G0 H0 G H σ ρ → ∀ Q : Bool → Hp → Prop, (∀ G' H', Nxt T G H G' H' → Q b H') → tt σ H Q
def EvA (ta : TA) (ρ : Env') (ds : List D) : Prop := ∀ G0 H0 G H σ, At K T G0 H0 G H σ ρ → ∀ Q : List V → Hp → Prop, (∀ vs G' H', Nxt T G H G' H' → RpA K G' vs ds → Q vs H') → ta σ H Q
def EvO (to : TO) (ρ : Env') (o : Option Int) : Prop := ∀ G0 H0 G H σ, At K T G0 H0 G H σ ρ → ∀ Q : Option Int → Hp → Prop, (∀ G' H', Nxt T G H G' H' → Q o H') → to σ H Q
/-- it raises -/
def EvX (E : XK) (te : TE) (ρ : Env') (c : Addr) : Prop := ∀ G0 H0 G H σ, At K T G0 H0 G H σ ρ → ∀ Q : VK, (∀ H', Ex T H H' → E (.ref c) none H') → te σ H Q
def Op2 (r : R2) (a b c : D) : Prop := ∀ G H x y, Kn G H → LamX.Tabs T H → Rp K G x a → Rp K G y b → ∀ Q : VK, (∀ v G' H', Nxt T G H G' H' → Rp K G' v c → Q v H') → r x y H Q
def Op1 (r : V → Hp → VK → Prop) (a c : D) : Prop := ∀ G H x, Kn G H → LamX.Tabs T H → Rp K G x a → ∀ Q : VK, (∀ v G' H', Nxt T G H G' H' → Rp K G' v c → Q v H') → r x H Q
def Cl (r : List V → Hp → VK → Prop) (ds : List D) (c : D) : Prop := ∀ G H vs, Kn G H → LamX.Tabs T H → RpA K G vs ds → ∀ Q : VK, (∀ v G' H', Nxt T G H G' H' → Rp K G' v c → Q v H') → r vs H Q
def Mt (r : V → List V → Hp → VK → Prop) (a : D) (ds : List D) (c : D) : Prop := ∀ G H x vs, Kn G H → LamX.Tabs T H → Rp K G x a → RpA K G vs ds → ∀ Q : VK, (∀ v G' H', Nxt T G H G' H' → Rp K G' v c → Q v H') → r x vs H Q
end
section
variable {K : PySem.W.Frag} {T : List (Addr × Str)} {ρ : Env'} {ta tb tc te : TE} {tt tu : TT} {a b c d : D} {r r' : R2}
theorem ev_var {i : Nat} (h : ρ[i]? = some (some (.sh d))) : EvD K T (tVar i) ρ d := fun G0 H0 G H σ A Q q =>
  let ⟨v, h1, h2⟩ := A.sh i d h
  ⟨v, h1, q v G H (Nxt.refl A.kn) h2⟩
theorem ev_c {v : V} (h : ∀ G, Rp K G v d) : EvD K T (tC v) ρ d := fun G0 H0 G H σ A Q q => q v G H (Nxt.refl A.kn) (h G)
theorem ev_int {i : Int} : EvD K T (tC (.int i)) ρ (.int i) := ev_c fun _ => .int i
theorem ev_bl {i : Bool} : EvD K T (tC (.bl i)) ρ (.bl i) := ev_c fun _ => .bl i
theorem ev_non : EvD K T (tC .non) ρ .non := ev_c fun _ => .non
theorem rp_str (K : PySem.W.Frag) (G : Hp) (x : Str) : Rp K G (.str x) (.str (tx x)) := by
  have h := Rp.str (K := K) (G := G) (tx x)
  rw [S_tx] at h
  exact h
theorem ev_str {x : Str} : EvD K T (tC (.str x)) ρ (.str (tx x)) := ev_c fun G => rp_str K G x
theorem ev_raw {v : V} : EvD K T (tC v) ρ (.raw v) := ev_c fun _ => .raw v
theorem EvD.is (h : EvD K T te ρ a) (e : a = b) : EvD K T te ρ b := e ▸ h
theorem EvT.is {x y : Bool} (h : EvT K T tt ρ x) (e : x = y) : EvT K T tt ρ y := e ▸ h
theorem ev_op (ha : EvD K T ta ρ a) (hb : EvD K T tb ρ b) (h : Op2 K T r a b c) : EvD K T (tOp r ta tb) ρ c := by
  intro G0 H0 G H σ A Q q
  refine ha _ _ _ _ _ A _ fun x G1 H1 n1 r1 => ?_
  refine hb _ _ _ _ _ (A.next n1) _ fun y G2 H2 n2 r2 => ?_
  exact h G2 H2 x y n2.kn ((A.next n1).next n2).tabs (r1.sub n2.sub) r2 Q fun v G' H' n3 r3 => q v G' H' ((n1.trans n2).trans n3) r3
theorem ev_un {r : V → Hp → VK → Prop} (ha : EvD K T ta ρ a) (h : Op1 K T r a c) : EvD K T (tUn r ta) ρ c := by
  intro G0 H0 G H σ A Q q
  refine ha _ _ _ _ _ A _ fun x G1 H1 n1 r1 => ?_
  exact h G1 H1 x n1.kn (A.next n1).tabs r1 Q fun v G' H' n3 r3 => q v G' H' (n1.trans n3) r3
theorem ea_nil : EvA K T tNil ρ [] := fun G0 H0 G H σ A Q q => q [] G H (Nxt.refl A.kn) .nil
theorem ea_cons {tr : TA} {ds : List D} (ha : EvD K T ta ρ a) (hr : EvA K T tr ρ ds) : EvA K T (tCons ta tr) ρ (a :: ds) := by
  intro G0 H0 G H σ A Q q
  refine ha _ _ _ _ _ A _ fun x G1 H1 n1 r1 => ?_
  refine hr _ _ _ _ _ (A.next n1) _ fun y G2 H2 n2 r2 => ?_
  exact q _ G2 H2 (n1.trans n2) (.cons (r1.sub n2.sub) r2)
theorem EvA.is {ta : TA} {ds es : List D} (h : EvA K T ta ρ ds) (e : ds = es) : EvA K T ta ρ es := e ▸ h
theorem ev_cb {ta : TA} {r : List V → Hp → VK → Prop} {ds : List D} (ha : EvA K T ta ρ ds) (h : Cl K T r ds c) : EvD K T (tCB r ta) ρ c := by
  intro G0 H0 G H σ A Q q
  refine ha _ _ _ _ _ A _ fun x G1 H1 n1 r1 => ?_
  exact h G1 H1 x n1.kn (A.next n1).tabs r1 Q fun v G' H' n3 r3 => q v G' H' (n1.trans n3) r3
theorem sz_of {n : Nat} (h : n ≤ 100000) : n ≤ sizeLine := Nat.le_trans h (by decide)
theorem sz_lt {n : Nat} (h : n < 100000) : n < sizeLine := Nat.lt_of_lt_of_le h (by decide)
theorem ev_tup {ta : TA} {ds : List D} (ha : EvA K T ta ρ ds) (hl : ds.length ≤ 100000) : EvD K T (tTup ta) ρ (.tup ds) := by
  intro G0 H0 G H σ A Q q
  refine ha _ _ _ _ _ A _ fun x G1 H1 n1 r1 => ⟨by rw [r1.length]; exact sz_of hl, fun p hp => ?_⟩
  have n2 : Nxt T G1 H1 (upd G1 p (.tup x)) (upd H1 p (.tup x)) := Nxt.fresh n1.kn hp (fun _ z => by cases z)
  exact q _ _ _ (n1.trans n2) (.tup (SqT.of upd_same) (r1.sub n2.sub))
theorem ev_lst {ta : TA} {ds : List D} (ha : EvA K T ta ρ ds) (hl : ds.length ≤ 100000) : EvD K T (tLst ta) ρ (.lst ds) := by
  intro G0 H0 G H σ A Q q
  refine ha _ _ _ _ _ A _ fun x G1 H1 n1 r1 => ⟨by rw [r1.length]; exact sz_of hl, fun p hp => ?_⟩
  have n2 : Nxt T G1 H1 (upd G1 p (.lst x)) (upd H1 p (.lst x)) := Nxt.fresh n1.kn hp (fun _ z => by cases z)
  exact q _ _ _ (n1.trans n2) (.lst upd_same (r1.sub n2.sub))
/-! tests -/
theorem et_test {x : Bool} (h : EvD K T te ρ (.bl x)) : EvT K T (tTest te) ρ x := fun G0 H0 G H σ A Q q => h _ _ _ _ _ A _ fun v G' H' n r => by cases r; exact ⟨x, rfl, q G' H' n⟩
theorem et_B {x : Bool} (h : EvD K T te ρ (.bl x)) : EvT K T (tB te) ρ x := fun G0 H0 G H σ A Q q => h _ _ _ _ _ A _ fun v G' H' n r => by cases r; exact ⟨x, rfl, q G' H' n⟩
theorem et_and {x y : Bool} (h1 : EvT K T tt ρ x) (h2 : x = true → EvT K T tu ρ y) : EvT K T (tAnd tt tu) ρ (x && y) := by
  intro G0 H0 G H σ A Q q
  refine h1 _ _ _ _ _ A _ fun G1 H1 n1 => ?_
  cases x with
  | true => show tu σ H1 Q; exact h2 rfl _ _ _ _ _ (A.next n1) _ fun G2 H2 n2 => q G2 H2 (n1.trans n2)
  | false => show Q false H1; exact q G1 H1 n1
theorem et_or {x y : Bool} (h1 : EvT K T tt ρ x) (h2 : x = false → EvT K T tu ρ y) : EvT K T (tOr tt tu) ρ (x || y) := by
  intro G0 H0 G H σ A Q q
  refine h1 _ _ _ _ _ A _ fun G1 H1 n1 => ?_
  cases x with
  | false => show tu σ H1 Q; exact h2 rfl _ _ _ _ _ (A.next n1) _ fun G2 H2 n2 => q G2 H2 (n1.trans n2)
  | true => show Q true H1; exact q G1 H1 n1
theorem et_not {x : Bool} (h1 : EvT K T tt ρ x) : EvT K T (tNot tt) ρ (!x) := fun G0 H0 G H σ A Q q => h1 _ _ _ _ _ A _ fun G1 H1 n1 => q G1 H1 n1
theorem ev_andV {x y : Bool} (h1 : EvD K T ta ρ (.bl x)) (h2 : x = true → EvD K T tb ρ (.bl y)) : EvD K T (tAndV ta tb) ρ (.bl (x && y)) := by
  intro G0 H0 G H σ A Q q
  refine h1 _ _ _ _ _ A _ fun v G1 H1 n1 r1 => ?_
  cases r1
  refine ⟨x, rfl, ?_⟩
  cases x with
  | true => show tb σ H1 Q; exact h2 rfl _ _ _ _ _ (A.next n1) _ fun v G2 H2 n2 r2 => q v G2 H2 (n1.trans n2) r2
  | false => show Q (.bl false) H1; exact q _ G1 H1 n1 (.bl _)
theorem ev_orV {x y : Bool} (h1 : EvD K T ta ρ (.bl x)) (h2 : x = false → EvD K T tb ρ (.bl y)) : EvD K T (tOrV ta tb) ρ (.bl (x || y)) := by
  intro G0 H0 G H σ A Q q
  refine h1 _ _ _ _ _ A _ fun v G1 H1 n1 r1 => ?_
  cases r1
  refine ⟨x, rfl, ?_⟩
  cases x with
  | false => show tb σ H1 Q; exact h2 rfl _ _ _ _ _ (A.next n1) _ fun v G2 H2 n2 r2 => q v G2 H2 (n1.trans n2) r2
  | true => show Q (.bl true) H1; exact q _ G1 H1 n1 (.bl _)
theorem ev_notV {x : Bool} (h1 : EvD K T ta ρ (.bl x)) : EvD K T (tNotV ta) ρ (.bl (!x)) := fun G0 H0 G H σ A Q q => h1 _ _ _ _ _ A _ fun v G1 H1 n1 r1 => by cases r1; exact ⟨x, rfl, q _ G1 H1 n1 (.bl _)⟩
theorem ev_if {x : Bool} (h : EvT K T tt ρ x) (h1 : x = true → EvD K T ta ρ d) (h2 : x = false → EvD K T tb ρ d) : EvD K T (tIf tt ta tb) ρ d := by
  intro G0 H0 G H σ A Q q
  refine h _ _ _ _ _ A _ fun G1 H1 n1 => ?_
  cases x with
  | true => show ta σ H1 Q; exact h1 rfl _ _ _ _ _ (A.next n1) _ fun v G2 H2 n2 r2 => q v G2 H2 (n1.trans n2) r2
  | false => show tb σ H1 Q; exact h2 rfl _ _ _ _ _ (A.next n1) _ fun v G2 H2 n2 r2 => q v G2 H2 (n1.trans n2) r2
theorem ev_chain {x y : Bool} (ha : EvD K T ta ρ a) (hb : EvD K T tb ρ b) (h1 : Op2 K T r a b (.bl x)) (hc : x = true → EvD K T tc ρ c) (h2 : x = true → Op2 K T r' b c (.bl y)) : EvD K T (tChain r r' ta tb tc) ρ (.bl (x && y)) := by
  intro G0 H0 G H σ A Q q
  refine ha _ _ _ _ _ A _ fun u G1 H1 n1 r1 => ?_
  have A1 := A.next n1
  refine hb _ _ _ _ _ A1 _ fun w G2 H2 n2 r2 => ?_
  have A2 := A1.next n2
  refine h1 G2 H2 u w n2.kn A2.tabs (r1.sub n2.sub) r2 _ fun z G3 H3 n3 r3 => ?_
  cases r3
  have A3 := A2.next n3
  refine ⟨x, rfl, ?_⟩
  cases x with
  | true =>
    rw [if_pos rfl]
    refine hc rfl _ _ _ _ _ A3 _ fun z G4 H4 n4 r4 => ?_
    exact h2 rfl G4 H4 w z n4.kn (A3.next n4).tabs (r2.sub (n3.trans n4).sub) r4 _ fun v G5 H5 n5 r5 => q v G5 H5 ((((n1.trans n2).trans n3).trans n4).trans n5) r5
  | false =>
    rw [if_neg Bool.false_ne_true]
    exact q _ G3 H3 ((n1.trans n2).trans n3) (.bl _)
/-! slices' parts -/
theorem eo_none : EvO K T tNoPart ρ none := fun G0 H0 G H σ A Q q => q G H (Nxt.refl A.kn)
theorem eo_some {i : Int} (h : EvD K T te ρ (.int i)) : EvO K T (tPart te) ρ (some i) := fun G0 H0 G H σ A Q q => h _ _ _ _ _ A _ fun v G' H' n r => by cases r; exact ⟨i, rfl, q G' H' n⟩
def SlV (K : PySem.W.Frag) (T : List (Addr × Str)) (r : V → Option Int → Option Int → Hp → VK → Prop) (a : D) (lo hi : Option Int) (c : D) : Prop := ∀ G H x, Kn G H → LamX.Tabs T H → Rp K G x a → ∀ Q : VK, (∀ v G' H', Nxt T G H G' H' → Rp K G' v c → Q v H') → r x lo hi H Q
theorem ev_sl {r : V → Option Int → Option Int → Hp → VK → Prop} {tl th : TO} {lo hi : Option Int} (ha : EvD K T ta ρ a) (hl : EvO K T tl ρ lo) (hh : EvO K T th ρ hi) (h : SlV K T r a lo hi c) : EvD K T (tSl r ta tl th) ρ c := by
  intro G0 H0 G H σ A Q q
  refine ha _ _ _ _ _ A _ fun u G1 H1 n1 r1 => ?_
  have A1 := A.next n1
  refine hl _ _ _ _ _ A1 _ fun G2 H2 n2 => ?_
  have A2 := A1.next n2
  refine hh _ _ _ _ _ A2 _ fun G3 H3 n3 => ?_
  have A3 := A2.next n3
  exact h G3 H3 u n3.kn A3.tabs (r1.sub (n2.trans n3).sub) _ fun v G4 H4 n4 r4 => q v G4 H4 (((n1.trans n2).trans n3).trans n4) r4
/-! calls of defs -/
inductive Res where
  | ok (d : D) | xc (c : Addr)
def Post (K : PySem.W.Frag) (T : List (Addr × Str)) (r : Res) (G H : Hp) (Q : VK) (E : XK) : Prop := match r with
  | .ok d => ∀ v G' H', Nxt T G H G' H' → Rp K G' v d → Q v H'
  | .xc c => ∀ H', Ex T H H' → E (.ref c) none H'
def spR (K : PySem.W.Frag) (T : List (Addr × Str)) (R : List D → Res → Prop) : Sp := fun vs H Q E => ∃ G ds r, Kn G H ∧ LamX.Tabs T H ∧ RpA K G vs ds ∧ R ds r ∧ Post K T r G H Q E
theorem ev_call {R : List D → Res → Prop} {E : XK} {ta : TA} {ds : List D} (ha : EvA K T ta ρ ds) (h : R ds (.ok d)) : EvD K T (tCall (spR K T R) [] E ta) ρ d := by
  intro G0 H0 G H σ A Q q
  refine ha _ _ _ _ _ A _ fun vs G1 H1 n1 r1 => ?_
  refine ⟨G1, ds, .ok d, n1.kn, (A.next n1).tabs, ?_, h, fun v G' H' n2 r2 => q v G' H' (n1.trans n2) r2⟩
  rw [List.append_nil]; exact r1
theorem ex_call {R : List D → Res → Prop} {E : XK} {ta : TA} {ds : List D} {x : Addr} (ha : EvA K T ta ρ ds) (h : R ds (.xc x)) : EvX K T E (tCall (spR K T R) [] E ta) ρ x := by
  intro G0 H0 G H σ A Q q
  refine ha _ _ _ _ _ A _ fun vs G1 H1 n1 r1 => ?_
  refine ⟨G1, ds, .xc x, n1.kn, (A.next n1).tabs, ?_, h, fun H' e => q H' (n1.ex.trans e)⟩
  rw [List.append_nil]; exact r1
/-! an owned thing read in passing: the answer is flat -/
def flat : D → Bool
  | .non | .bl _ | .int _ | .str _ | .raw _ => true
  | _ => false
theorem Rp.flat {G G' : Hp} {v : V} {d : D} (f : DL.flat d = true) (h : Rp K G v d) : Rp K G' v d := by
  cases h with
  | non => exact .non
  | bl => exact .bl _
  | int => exact .int _
  | str => exact .str _
  | raw => exact .raw _
  | lst => cases f
  | tup => cases f
  | dct => cases f
  | scr => cases f
end
end DL
/-! DL2: statements, targets, walks, comprehensions, what is owned. -/
namespace DL
open PySem L2
/-! ### a dict is frozen -/
def tFrz (t : TE) : TE := fun σ H Q => t σ H fun v H' => Q v H' ∨ ∃ p kvs, v = .ref p ∧ H' p = some (.dK kvs) ∧ ∀ o, Q v (upd H' p (.frz o (.dK kvs)))
theorem pe_frz {X : Cx} {e : Expr} {t : TE} (h : PE X e t) : PE X e (tFrz t) := by
  refine ⟨fun pins s σ H Q I hw => ?_⟩
  refine thn (h.run pins s σ H _ I hw) fun v s1 ⟨x, H1, I1, r, q⟩ => ?_
  rcases q with q | ⟨p, kvs, rfl, hp, q⟩
  · exact ⟨x, H1, I1, r, q⟩
  · obtain ⟨od, I2⟩ := I1.lock hp True.intro
    exact ⟨_, _, I2, r, q od⟩
section
variable {T : List (Addr × Str)} {H H' G G' : Hp} {p : Addr}
theorem tabs_mut {o o' : HO} (t : LamX.Tabs T H) (h : H p = some o) (h1 : ∀ ps, o ≠ .tbl ps) (h2 : ∀ φ, o ≠ .ext φ) : LamX.Tabs T (upd H p o') := by
  intro q hq
  obtain ⟨ps, a, b, c⟩ := t q hq
  have n1 : q.1 ≠ p := fun z => by rw [z, h] at a; cases a; exact h1 _ rfl
  refine ⟨ps, by rw [upd_ne n1]; exact a, b, fun pos cv hc => ?_⟩
  obtain ⟨d, e1, e2⟩ := c pos cv hc
  have n2 : d ≠ p := fun z => by rw [z, h] at e2; cases e2; exact h2 _ rfl
  exact ⟨d, e1, by rw [upd_ne n2]; exact e2⟩
/-- a thing that H did not know changes -/
theorem Nxt.mut {o o' : HO} (n : Nxt T G H G' H') (np : NT H p) (gp : G' p = none) (h : H' p = some o) (h1 : ∀ ps, o ≠ .tbl ps) (h2 : ∀ φ, o ≠ .ext φ) : Nxt T G H G' (upd H' p o') := by
  refine ⟨n.sub, fun b u e => ?_, ⟨fun b u e z => ?_, fun t => tabs_mut (n.ex.tab t) h h1 h2⟩, n.new⟩
  · have hb : b ≠ p := fun z => by rw [z, gp] at e; cases e
    rw [upd_ne hb]; exact n.kn b u e
  · have hb : b ≠ p := fun q => by rw [q] at e; obtain ⟨ps, y⟩ := np u e; exact z ps y
    rw [upd_ne hb]; exact n.ex.keep b u e z
/-- .. and is known from now on -/
theorem Nxt.freeze {o o' : HO} (n : Nxt T G H G' H') (np : NT H p) (gp : G' p = none) (h : H' p = some o) (h1 : ∀ ps, o ≠ .tbl ps) (h2 : ∀ φ, o ≠ .ext φ) (h3 : ∀ ps, o' ≠ .tbl ps) : Nxt T G H (upd G' p o') (upd H' p o') := by
  have m := n.mut (o' := o') np gp h h1 h2
  refine ⟨fun b u e => ?_, fun b u e => ?_, m.ex, fun b z e => ?_⟩
  · have := m.sub b u e
    rw [upd_ne (ne_of_none this gp)]; exact this
  · by_cases hb : b = p
    · subst hb; rw [upd_same] at e; cases e; exact ⟨upd_same, h3⟩
    · rw [upd_ne hb] at e; exact m.kn b u e
  · have hb : b ≠ p := fun q => by rw [q] at z; exact z np
    rw [upd_ne hb]; exact m.new b z e
end

/-! ### owned slots -/
section
variable {K : PySem.W.Frag} {T : List (Addr × Str)} {G0 H0 G H G' H' : Hp} {σ : St} {ρ : Env'} {i : Nat} {p : Addr}
/-- every slot but i as it was, i owns p, which holds o' now -/
theorem At.own {o' : HO} {sl : Sl} (a : At K T G0 H0 G H σ ρ) (np : NT H0 p) (gp : G p = none) (nx : Nxt T G0 H0 G (upd H p o')) (tb : LamX.Tabs T (upd H p o'))
    (hp : ∀ j q, j ≠ i → Ow σ ρ j q → q ≠ p)
    (hl : ∀ ds, sl = .ol ds → ∃ xs, o' = .lst xs ∧ RpA K G xs ds) (hd : ∀ kvs, sl = .od kvs → ∃ xs, o' = .dK xs ∧ RpK K G xs kvs) (hs : ∀ d, sl ≠ .sh d) :
    At K T G0 H0 G (upd H p o') (σ.set i (some (.ref p))) (ρ.set i (some sl)) := by
  have ois : ∀ {y}, (ρ.set i (some sl))[i]? = some (some y) → y = sl ∧ i < ρ.length := fun {y} h => by
    by_cases hl : i < ρ.length
    · rw [List.getElem?_set_self hl] at h; cases h; exact ⟨rfl, hl⟩
    · rw [List.getElem?_eq_none (by simpa using hl)] at h; cases h
  have σis : i < ρ.length → (σ.set i (some (V.ref p)))[i]? = some (some (.ref p)) := fun h => by rw [List.getElem?_set_self (by rw [a.len]; exact h)]
  have key : ∀ m q, m ≠ i → Ow (σ.set i (some (.ref p))) (ρ.set i (some sl)) m q → Ow σ ρ m q := by
    rintro m q hm ⟨q1, q2⟩
    rw [List.getElem?_set_ne (Ne.symm hm)] at q1 q2
    exact ⟨q1, q2⟩
  refine ⟨by simp [a.len], nx, tb, fun j d h => ?_, fun j ds h => ?_, fun j ds h => ?_, fun j k q h1 h2 => ?_⟩
  · by_cases hj : j = i
    · subst hj; exact absurd (ois h).1.symm (hs d)
    · rw [List.getElem?_set_ne (Ne.symm hj)] at h ⊢; exact a.sh j d h
  · by_cases hj : j = i
    · subst hj
      obtain ⟨e, hlt⟩ := ois h
      obtain ⟨xs, rfl, r⟩ := hl ds e.symm
      exact ⟨p, xs, σis hlt, upd_same, r, gp, np⟩
    · rw [List.getElem?_set_ne (Ne.symm hj)] at h ⊢
      obtain ⟨q, xs, e1, e2, e3, e4, e5⟩ := a.ol j ds h
      exact ⟨q, xs, e1, by rw [upd_ne (hp j q hj ⟨e1, .inl ⟨ds, h⟩⟩)]; exact e2, e3, e4, e5⟩
  · by_cases hj : j = i
    · subst hj
      obtain ⟨e, hlt⟩ := ois h
      obtain ⟨xs, rfl, r⟩ := hd ds e.symm
      exact ⟨p, xs, σis hlt, upd_same, r, gp, np⟩
    · rw [List.getElem?_set_ne (Ne.symm hj)] at h ⊢
      obtain ⟨q, xs, e1, e2, e3, e4, e5⟩ := a.od j ds h
      exact ⟨q, xs, e1, by rw [upd_ne (hp j q hj ⟨e1, .inr ⟨ds, h⟩⟩)]; exact e2, e3, e4, e5⟩
  · by_cases hj : j = i
    · by_cases hk : k = i
      · rw [hj, hk]
      · have z := hp k q hk (key k q hk h2)
        have e : q = p := by
          subst hj
          obtain ⟨w1, w2⟩ := h1
          have hlt : j < ρ.length := by
            rcases w2 with ⟨_, w⟩ | ⟨_, w⟩
            · exact (ois w).2
            · exact (ois w).2
          rw [σis hlt] at w1; cases w1; rfl
        exact absurd e z
    · by_cases hk : k = i
      · have z := hp j q hj (key j q hj h1)
        have e : q = p := by
          subst hk
          obtain ⟨w1, w2⟩ := h2
          have hlt : k < ρ.length := by
            rcases w2 with ⟨_, w⟩ | ⟨_, w⟩
            · exact (ois w).2
            · exact (ois w).2
          rw [σis hlt] at w1; cases w1; rfl
        exact absurd e z
      · exact a.dis j k q (key j q hj h1) (key k q hk h2)
theorem At.ow_some (a : At K T G0 H0 G H σ ρ) {j : Nat} {q : Addr} (h : Ow σ ρ j q) : (∃ xs, H q = some (.lst xs)) ∨ ∃ kvs, H q = some (.dK kvs) := by
  obtain ⟨h1, ⟨ds, h2⟩ | ⟨ds, h2⟩⟩ := h
  · obtain ⟨p, xs, e1, e2, _⟩ := a.ol j ds h2
    rw [h1] at e1; cases e1; exact .inl ⟨xs, e2⟩
  · obtain ⟨p, xs, e1, e2, _⟩ := a.od j ds h2
    rw [h1] at e1; cases e1; exact .inr ⟨xs, e2⟩
/-- a new list, a new dict, owned -/
theorem At.newL (a : At K T G0 H0 G H σ ρ) (hp : H p = none) {xs : List V} {ds : List D} (r : RpA K G xs ds) : At K T G0 H0 G (upd H p (.lst xs)) (σ.set i (some (.ref p))) (ρ.set i (some (.ol ds))) := by
  have e : Ex T H (upd H p (.lst xs)) := Ex.new hp
  refine a.own (o' := .lst xs) (a.nx.ex.nt (nt_none hp)) (a.kn.none (nt_none hp)) (a.nx.trans (Nxt.heap a.kn e)) (e.tab a.tabs) (fun j q _ h z => ?_) (fun es z => ⟨xs, rfl, by cases z; exact r⟩) (fun _ z => nomatch z) (fun _ z => nomatch z)
  rcases a.ow_some h with ⟨ys, w⟩ | ⟨ys, w⟩ <;> (rw [z, hp] at w; cases w)
theorem At.newD (a : At K T G0 H0 G H σ ρ) (hp : H p = none) {xs : List (Key × V)} {ds : List (Key × D)} (r : RpK K G xs ds) : At K T G0 H0 G (upd H p (.dK xs)) (σ.set i (some (.ref p))) (ρ.set i (some (.od ds))) := by
  have e : Ex T H (upd H p (.dK xs)) := Ex.new hp
  refine a.own (o' := .dK xs) (a.nx.ex.nt (nt_none hp)) (a.kn.none (nt_none hp)) (a.nx.trans (Nxt.heap a.kn e)) (e.tab a.tabs) (fun j q _ h z => ?_) (fun _ z => nomatch z) (fun es z => ⟨xs, rfl, by cases z; exact r⟩) (fun _ z => nomatch z)
  rcases a.ow_some h with ⟨ys, w⟩ | ⟨ys, w⟩ <;> (rw [z, hp] at w; cases w)
theorem set_self {α : Type} {l : List α} {i : Nat} {x : α} (h : l[i]? = some x) : l.set i x = l := by
  obtain ⟨h1, h2⟩ := List.getElem?_eq_some_iff.mp h
  subst h2; exact List.set_getElem_self h1
/-- the owned list changes -/
theorem At.mutL (a : At K T G0 H0 G H σ ρ) {es : List D} (ho : ρ[i]? = some (some (.ol es))) (hσ : σ[i]? = some (some (.ref p))) {xs : List V} {ds : List D} (r : RpA K G xs ds) : At K T G0 H0 G (upd H p (.lst xs)) σ (ρ.set i (some (.ol ds))) := by
  obtain ⟨q, ys, e1, e2, e3, e4, e5⟩ := a.ol i es ho
  rw [hσ] at e1; cases e1
  have := a.own (i := i) (o' := .lst xs) (sl := .ol ds) e5 e4 (a.nx.mut e5 e4 e2 (fun _ z => nomatch z) (fun _ z => nomatch z)) (tabs_mut a.tabs e2 (fun _ z => nomatch z) (fun _ z => nomatch z))
    (fun j w hj h z => hj (a.dis j i w h ⟨by rw [z]; exact hσ, .inl ⟨es, ho⟩⟩)) (fun es z => ⟨xs, rfl, by cases z; exact r⟩) (fun _ z => nomatch z) (fun _ z => nomatch z)
  rw [set_self hσ] at this
  exact this
theorem At.mutD (a : At K T G0 H0 G H σ ρ) {es : List (Key × D)} (ho : ρ[i]? = some (some (.od es))) (hσ : σ[i]? = some (some (.ref p))) {xs : List (Key × V)} {ds : List (Key × D)} (r : RpK K G xs ds) : At K T G0 H0 G (upd H p (.dK xs)) σ (ρ.set i (some (.od ds))) := by
  obtain ⟨q, ys, e1, e2, e3, e4, e5⟩ := a.od i es ho
  rw [hσ] at e1; cases e1
  have := a.own (i := i) (o' := .dK xs) (sl := .od ds) e5 e4 (a.nx.mut e5 e4 e2 (fun _ z => nomatch z) (fun _ z => nomatch z)) (tabs_mut a.tabs e2 (fun _ z => nomatch z) (fun _ z => nomatch z))
    (fun j w hj h z => hj (a.dis j i w h ⟨by rw [z]; exact hσ, .inr ⟨es, ho⟩⟩)) (fun _ z => nomatch z) (fun es z => ⟨xs, rfl, by cases z; exact r⟩) (fun _ z => nomatch z)
  rw [set_self hσ] at this
  exact this
/-- an owned thing is let go: known from now on -/
theorem At.share {o : HO} (a : At K T G0 H0 G H σ ρ) {sl : Sl} (hρ : ρ[i]? = some (some sl)) (hσ : σ[i]? = some (some (.ref p))) (ho : Ow σ ρ i p) (hp : NT H0 p) (gp : G p = none) (h : H p = some o) (h1 : ∀ ps, o ≠ .tbl ps) (h2 : ∀ φ, o ≠ .ext φ) {o' : HO} (h3 : ∀ ps, o' ≠ .tbl ps) {d : D} (r : Rp K (upd G p o') (.ref p) d) :
    At K T G0 H0 (upd G p o') (upd H p o') σ (ρ.set i (some (.sh d))) ∧ Sub G (upd G p o') := by
  have sb : Sub G (upd G p o') := fun b u e => by rw [upd_ne (ne_of_none e gp)]; exact e
  have hil : i < ρ.length := (List.getElem?_eq_some_iff.mp hρ).1
  have ne : ∀ j q, j ≠ i → Ow σ ρ j q → q ≠ p := fun j q hj w z => hj (a.dis j i q w (z ▸ ho))
  refine ⟨⟨by simp [a.len], a.nx.freeze hp gp h h1 h2 h3, tabs_mut a.tabs h h1 h2, fun j e w => ?_, fun j es w => ?_, fun j es w => ?_, fun j k q w1 w2 => ?_⟩, sb⟩
  · by_cases hj : i = j
    · subst hj
      rw [List.getElem?_set_self hil] at w; cases w
      exact ⟨_, hσ, r⟩
    · rw [List.getElem?_set_ne hj] at w
      obtain ⟨v, z1, z2⟩ := a.sh j e w
      exact ⟨v, z1, z2.sub sb⟩
  · by_cases hj : i = j
    · subst hj
      rw [List.getElem?_set_self hil] at w; cases w
    · rw [List.getElem?_set_ne hj] at w
      obtain ⟨q, xs, e1, e2, e3, e4, e5⟩ := a.ol j es w
      have nq := ne j q (Ne.symm hj) ⟨e1, .inl ⟨_, w⟩⟩
      exact ⟨q, xs, e1, by rw [upd_ne nq]; exact e2, e3.sub sb, by rw [upd_ne nq]; exact e4, e5⟩
  · by_cases hj : i = j
    · subst hj
      rw [List.getElem?_set_self hil] at w; cases w
    · rw [List.getElem?_set_ne hj] at w
      obtain ⟨q, xs, e1, e2, e3, e4, e5⟩ := a.od j es w
      have nq := ne j q (Ne.symm hj) ⟨e1, .inr ⟨_, w⟩⟩
      exact ⟨q, xs, e1, by rw [upd_ne nq]; exact e2, e3.sub sb, by rw [upd_ne nq]; exact e4, e5⟩
  · have key : ∀ m, Ow σ (ρ.set i (some (.sh d))) m q → Ow σ ρ m q := by
      rintro m ⟨q1, q2⟩
      by_cases hm : i = m
      · subst hm
        rw [List.getElem?_set_self hil] at q2
        rcases q2 with ⟨_, z⟩ | ⟨_, z⟩ <;> cases z
      · rw [List.getElem?_set_ne hm] at q2
        exact ⟨q1, q2⟩
    exact a.dis j k q (key j w1) (key k w2)
theorem At.shareL (a : At K T G0 H0 G H σ ρ) {ds : List D} (hρ : ρ[i]? = some (some (.ol ds))) : ∃ G', At K T G0 H0 G' H σ (ρ.set i (some (.sh (.lst ds)))) ∧ Sub G G' := by
  obtain ⟨p, xs, e1, e2, e3, e4, e5⟩ := a.ol i ds hρ
  have sb : Sub G (upd G p (.lst xs)) := fun b u e => by rw [upd_ne (ne_of_none e e4)]; exact e
  obtain ⟨A, s⟩ := a.share (o' := .lst xs) (d := .lst ds) hρ e1 ⟨e1, .inl ⟨_, hρ⟩⟩ e5 e4 e2 (fun _ z => nomatch z) (fun _ z => nomatch z) (fun _ z => nomatch z) (.lst upd_same (e3.sub sb))
  refine ⟨_, ?_, s⟩
  have : upd H p (.lst xs) = H := by
    funext b
    by_cases hb : b = p
    · subst hb; rw [upd_same, e2]
    · rw [upd_ne hb]
  rw [this] at A
  exact A
end

/-! ### statements -/
inductive Out where
  | nx (ρ : Env') | rt (d : D) | bk (ρ : Env') | ct (ρ : Env') | xc (c : Addr)
def Wish (K : PySem.W.Frag) (T : List (Addr × Str)) (E : XK) (D' : Ends) (G0 H0 G : Hp) : Out → Prop
  | .nx ρ => ∀ G' H' σ', At K T G0 H0 G' H' σ' ρ → Sub G G' → D'.nx σ' H'
  | .rt d => ∀ v G' H', Nxt T G0 H0 G' H' → Rp K G' v d → D'.rt v H'
  | .bk ρ => ∀ G' H' σ', At K T G0 H0 G' H' σ' ρ → Sub G G' → D'.bk σ' H'
  | .ct ρ => ∀ G' H' σ', At K T G0 H0 G' H' σ' ρ → Sub G G' → D'.ct σ' H'
  | .xc c => ∀ H', Ex T H0 H' → E (.ref c) none H'
def EvS (K : PySem.W.Frag) (T : List (Addr × Str)) (E : XK) (ts : TS) (ρ : Env') (o : Out) : Prop := ∀ G0 H0 G H σ D', At K T G0 H0 G H σ ρ → Wish K T E D' G0 H0 G o → ts D' σ H
/-- a target takes a value -/
def EvG (K : PySem.W.Frag) (T : List (Addr × Str)) (g : TG) (js : List Nat) (d : D) (ρ ρ' : Env') : Prop := ∀ G0 H0 G H σ v, At K T G0 H0 G H σ ρ → Rp K G v d → ∀ Q : St → Hp → Prop,
  (∀ G' H' σ', At K T G0 H0 G' H' σ' ρ' → Nxt T G H G' H' → (∀ vs, (∀ j ∈ js, j ∈ vs) → wipe σ' vs = wipe σ vs) → Q σ' H') → g v σ H Q
def EvGs (K : PySem.W.Frag) (T : List (Addr × Str)) (g : TGs) (js : List Nat) (ds : List D) (ρ ρ' : Env') : Prop := ∀ G0 H0 G H σ vs, At K T G0 H0 G H σ ρ → RpA K G vs ds → ∀ Q : St → Hp → Prop,
  (∀ G' H' σ', At K T G0 H0 G' H' σ' ρ' → Nxt T G H G' H' → (∀ vs, (∀ j ∈ js, j ∈ vs) → wipe σ' vs = wipe σ vs) → Q σ' H') → g vs σ H Q
section
variable {K : PySem.W.Frag} {T : List (Addr × Str)} {E : XK} {ρ ρ1 ρ2 : Env'} {t u tb : TS} {o : Out} {te ta : TE} {c : TT} {d : D} {i j : Nat} {g : TG}
theorem Wish.sub {D' : Ends} {G0 H0 G G1 : Hp} (w : Wish K T E D' G0 H0 G o) (s : Sub G G1) : Wish K T E D' G0 H0 G1 o := by
  cases o with
  | nx ρ => exact fun G' H' σ' a s' => w G' H' σ' a (s.trans s')
  | bk ρ => exact fun G' H' σ' a s' => w G' H' σ' a (s.trans s')
  | ct ρ => exact fun G' H' σ' a s' => w G' H' σ' a (s.trans s')
  | rt d => exact w
  | xc c => exact w
theorem es_seq (h1 : EvS K T E t ρ (.nx ρ1)) (h2 : EvS K T E u ρ1 o) : EvS K T E (tSeq t u) ρ o := fun G0 H0 G H σ D' A w =>
  h1 G0 H0 G H σ _ A fun G' H' σ' A' s => h2 G0 H0 G' H' σ' D' A' (w.sub s)
theorem es_rt (h1 : EvS K T E t ρ (.rt d)) : EvS K T E (tSeq t u) ρ (.rt d) := fun G0 H0 G H σ D' A w => h1 G0 H0 G H σ _ A w
theorem es_xc {x : Addr} (h1 : EvS K T E t ρ (.xc x)) : EvS K T E (tSeq t u) ρ (.xc x) := fun G0 H0 G H σ D' A w => h1 G0 H0 G H σ _ A w
theorem es_if {x : Bool} (h : EvT K T c ρ x) (h1 : x = true → EvS K T E t ρ o) (h2 : x = false → EvS K T E u ρ o) : EvS K T E (tIfS c t u) ρ o := by
  intro G0 H0 G H σ D' A w
  refine h _ _ _ _ _ A _ fun G1 H1 n1 => ?_
  cases x with
  | true => show t D' σ H1; exact h1 rfl _ _ _ _ _ _ (A.next n1) (w.sub n1.sub)
  | false => show u D' σ H1; exact h2 rfl _ _ _ _ _ _ (A.next n1) (w.sub n1.sub)
theorem es_next : EvS K T E tNext ρ (.nx ρ) := fun G0 H0 G H σ D' A w => w G H σ A (Sub.refl G)
theorem es_set (h : EvD K T te ρ d) : EvS K T E (tAsg te (gName i)) ρ (.nx (ρ.set i (some (.sh d)))) := fun G0 H0 G H σ D' A w =>
  h _ _ _ _ _ A _ fun v G' H' n r => w G' H' _ ((A.next n).set r) n.sub
theorem es_asg {js : List Nat} (h : EvD K T te ρ d) (hg : EvG K T g js d ρ ρ1) : EvS K T E (tAsg te g) ρ (.nx ρ1) := fun G0 H0 G H σ D' A w =>
  h _ _ _ _ _ A _ fun v G' H' n r => hg _ _ _ _ _ _ (A.next n) r _ fun G2 H2 σ2 A2 n2 _ => w G2 H2 σ2 A2 (n.trans n2).sub
theorem es_asgX {x : Addr} (h : EvX K T E te ρ x) : EvS K T E (tAsg te g) ρ (.xc x) := fun G0 H0 G H σ D' A w => h _ _ _ _ _ A _ fun H' e => w H' (A.nx.ex.trans e)
theorem es_ret (h : EvD K T te ρ d) : EvS K T E (tRet te) ρ (.rt d) := fun G0 H0 G H σ D' A w => h _ _ _ _ _ A _ fun v G' H' n r => w v G' H' (A.nx.trans n) r
theorem es_retX {x : Addr} (h : EvX K T E te ρ x) : EvS K T E (tRet te) ρ (.xc x) := fun G0 H0 G H σ D' A w => h _ _ _ _ _ A _ fun H' e => w H' (A.nx.ex.trans e)
theorem es_drop (h : EvD K T te ρ d) : EvS K T E (tDrop te) ρ (.nx ρ) := fun G0 H0 G H σ D' A w => h _ _ _ _ _ A _ fun v G' H' n r => w G' H' σ (A.next n) n.sub
theorem es_dropX {x : Addr} (h : EvX K T E te ρ x) : EvS K T E (tDrop te) ρ (.xc x) := fun G0 H0 G H σ D' A w => h _ _ _ _ _ A _ fun H' e => w H' (A.nx.ex.trans e)
theorem es_par {ta : TA} {d1 d2 : D} (h : EvA K T ta ρ [d1, d2]) : EvS K T E (tPar i j ta) ρ (.nx ((ρ.set i (some (.sh d1))).set j (some (.sh d2)))) := fun G0 H0 G H σ D' A w =>
  h _ _ _ _ _ A _ fun vs G' H' n r => by
    cases r with
    | cons r1 r => cases r with
      | cons r2 r => cases r; exact ⟨_, _, rfl, w G' H' _ (((A.next n).set r1).set r2) n.sub⟩
/-- return of a name that may be a dict -/
theorem ev_frz (h : EvD K T te ρ d) : EvD K T (tFrz te) ρ d := fun G0 H0 G H σ A Q q => h _ _ _ _ _ A _ fun v G' H' n r => .inl (q v G' H' n r)
theorem es_retD {kvs : List (Key × D)} (h : ρ[i]? = some (some (.od kvs))) : EvS K T E (tRet (tFrz (tVar i))) ρ (.rt (.dct kvs)) := by
  intro G0 H0 G H σ D' A w
  obtain ⟨p, xs, e1, e2, e3, e4, e5⟩ := A.od i kvs h
  refine ⟨.ref p, e1, .inr ⟨p, xs, rfl, e2, fun o => ?_⟩⟩
  have n := A.nx.freeze (o' := .frz o (.dK xs)) e5 e4 e2 (fun _ z => nomatch z) (fun _ z => nomatch z) (fun _ z => nomatch z)
  have sb : Sub G (upd G p (.frz o (.dK xs))) := fun b u e => by rw [upd_ne (ne_of_none e e4)]; exact e
  exact w _ _ _ n (.dct upd_same (e3.sub sb))
/-- an owned list is let go -/
theorem es_let {ds : List D} (h : ρ[i]? = some (some (.ol ds))) (k : EvS K T E t (ρ.set i (some (.sh (.lst ds)))) o) : EvS K T E t ρ o := fun G0 H0 G H σ D' A w => by
  obtain ⟨G', A', s⟩ := A.shareL h
  exact k _ _ _ _ _ _ A' (w.sub s)
theorem ev_peek {ds : List D} (h : ρ[i]? = some (some (.ol ds))) (k : EvD K T te (ρ.set i (some (.sh (.lst ds)))) d) (f : flat d = true) : EvD K T te ρ d := fun G0 H0 G H σ A Q q => by
  obtain ⟨G', A', s⟩ := A.shareL h
  exact k _ _ _ _ _ A' _ fun v G2 H2 n r => q v G H2 (Nxt.heap A.kn n.ex) (r.flat f)
theorem et_peek {ds : List D} {x : Bool} (h : ρ[i]? = some (some (.ol ds))) (k : EvT K T c (ρ.set i (some (.sh (.lst ds)))) x) : EvT K T c ρ x := fun G0 H0 G H σ A Q q => by
  obtain ⟨G', A', s⟩ := A.shareL h
  exact k _ _ _ _ _ A' _ fun G2 H2 n => q G H2 (Nxt.heap A.kn n.ex)
theorem es_newL {ta : TA} {ds : List D} (h : EvA K T ta ρ ds) (hl : ds.length ≤ 100000) : EvS K T E (tAsg (tLst ta) (gName i)) ρ (.nx (ρ.set i (some (.ol ds)))) := fun G0 H0 G H σ D' A w =>
  h _ _ _ _ _ A _ fun vs G' H' n r => ⟨by rw [r.length]; exact sz_of hl, fun p hp => w G' _ _ ((A.next n).newL hp r) n.sub⟩
theorem es_newD : EvS K T E (tAsg tDNewK (gName i)) ρ (.nx (ρ.set i (some (.od [])))) := fun G0 H0 G H σ D' A w => fun p hp => w G _ _ (A.newD hp .nil) (Sub.refl G)
theorem es_append {ds : List D} (ho : ρ[i]? = some (some (.ol ds))) (h : EvD K T te ρ d) (hl : ds.length < 100000) : EvS K T E (tDrop (tBM K "list" rAppend (tVar i) (tCons te tNil))) ρ (.nx (ρ.set i (some (.ol (ds ++ [d]))))) := by
  intro G0 H0 G H σ D' A w
  obtain ⟨p, xs, e1, e2, e3, e4, e5⟩ := A.ol i ds ho
  refine ⟨.ref p, e1, .inl ⟨rfl, xs, SqL.of e2⟩, ?_⟩
  refine h _ _ _ _ _ A _ fun v G' H' n r => ?_
  have e2' := n.ex.keep p _ e2 (fun _ z => nomatch z)
  refine ⟨p, xs, v, rfl, rfl, e2', by rw [e3.length]; exact sz_lt hl, ?_⟩
  exact w _ _ _ ((A.next n).mutL ho e1 ((e3.sub n.sub).append (.one r))) n.sub
/-! targets -/
theorem wipe_set (σ : St) {i : Nat} {x : Option V} : ∀ {vs : List Nat}, i ∈ vs → wipe (σ.set i x) vs = wipe σ vs := by
  intro vs
  induction vs with
  | nil => intro h; cases h
  | cons v vs ih =>
    intro h
    show (wipe (σ.set i x) vs).set v none = (wipe σ vs).set v none
    rcases List.mem_cons.mp h with e | e
    · subst e
      have gen : ∀ (τ : St) (ws : List Nat), (wipe (τ.set i x) ws).set i none = (wipe τ ws).set i none := by
        intro τ ws
        induction ws generalizing τ with
        | nil => exact List.set_set ..
        | cons w ws ihw =>
          show ((wipe (τ.set i x) ws).set w none).set i none = ((wipe τ ws).set w none).set i none
          by_cases hw : w = i
          · subst hw; rw [List.set_set, List.set_set, ihw]
          · rw [List.set_comm none none hw, List.set_comm none none hw, ihw]
      exact gen σ vs
    · rw [ih e]
theorem eg_name : EvG K T (gName i) [i] d ρ (ρ.set i (some (.sh d))) := fun G0 H0 G H σ v A r Q q => q G H _ (A.set r) (Nxt.refl A.kn) fun vs h => wipe_set σ (h i List.mem_cons_self)
theorem egs_nil : EvGs K T gNil [] [] ρ ρ := fun G0 H0 G H σ vs A r Q q => by
  cases r
  exact ⟨rfl, q G H σ A (Nxt.refl A.kn) fun _ _ => rfl⟩
theorem egs_cons {gs : TGs} {js ks : List Nat} {ds : List D} (h1 : EvG K T g js d ρ ρ1) (h2 : EvGs K T gs ks ds ρ1 ρ2) : EvGs K T (gCons g gs) (js ++ ks) (d :: ds) ρ ρ2 := fun G0 H0 G H σ vs A r Q q => by
  cases r with
  | cons r1 r2 =>
    refine ⟨_, _, rfl, h1 _ _ _ _ _ _ A r1 _ fun G1 H1 σ1 A1 n1 w1 => ?_⟩
    refine h2 _ _ _ _ _ _ A1 (r2.sub n1.sub) _ fun G2 H2 σ2 A2 n2 w2 => q G2 H2 σ2 A2 (n1.trans n2) fun vs hv => ?_
    rw [w2 vs fun j hj => hv j (List.mem_append_right _ hj), w1 vs fun j hj => hv j (List.mem_append_left _ hj)]
theorem eg_tup {gs : TGs} {js : List Nat} {ds : List D} {n : Nat} (hn : ds.length = n) (h : EvGs K T gs js ds ρ ρ1) : EvG K T (gTup K n gs) js (.tup ds) ρ ρ1 := fun G0 H0 G H σ v A r Q q => by
  cases r with
  | tup hs hr => exact ⟨_, _, rfl, kn_t A.kn hs, by rw [hr.length, hn], h _ _ _ _ _ _ A hr Q q⟩
/-! walks -/
structure ItD (K : PySem.W.Frag) (T : List (Addr × Str)) (J : It) (G1 : Hp) (ds : List D) : Prop where
  go : ∀ i G H, Sub G1 G → Kn G H → i < ds.length → J.go i H
  stop : ∀ G H, Sub G1 G → Kn G H → J.stop ds.length H
  yld : ∀ i G H x H' d, Sub G1 G → Kn G H → J.yld i H x H' → ds[i]? = some d → ∃ G', Nxt T G H G' H' ∧ Rp K G' x d
def EvI (K : PySem.W.Frag) (T : List (Addr × Str)) (wi : TI) (ρ : Env') (ds : List D) : Prop := ∀ G0 H0 G H σ, At K T G0 H0 G H σ ρ → ∀ R : It → Hp → Prop, (∀ J G' H', Nxt T G H G' H' → ItD K T J G' ds → R J H') → wi σ H R
/-- slots are forgotten -/
def fg : List Nat → Env' → Env'
  | [], ρ => ρ
  | j :: js, ρ => (fg js ρ).set j none
theorem At.fg {G0 H0 G H : Hp} {σ : St} : ∀ {js : List Nat}, At K T G0 H0 G H σ ρ → At K T G0 H0 G H σ (DL.fg js ρ)
  | [], a => a
  | j :: js, a => (At.fg (js := js) a).forget j
/-- a loop that runs through -/
theorem es_for {wi : TI} {ds : List D} (hi : EvI K T wi ρ ds) (inv : Nat → Env') (h0 : inv 0 = ρ)
    (step : ∀ i d, ds[i]? = some d → ∃ js ks ρ1 ρ2, EvG K T g js d (inv i) ρ1 ∧ EvS K T E tb ρ1 (.nx ρ2) ∧ fg ks ρ2 = inv (i + 1)) : EvS K T E (tFor wi g tb) ρ (.nx (inv ds.length)) := by
  intro G0 H0 G H σ D' A w
  refine hi _ _ _ _ _ A _ fun J G1 H1 n1 it => ?_
  refine ⟨fun i m σ H => i + m = ds.length ∧ ∃ G2, At K T G0 H0 G2 H σ (inv i) ∧ Sub G1 G2, ⟨ds.length, Nat.zero_add _, G1, by rw [h0]; exact A.next n1, Sub.refl _⟩, ?_⟩
  rintro i m σ H ⟨him, G2, A2, s2⟩
  by_cases hlt : i < ds.length
  · refine .inr ⟨it.go i G2 H s2 A2.kn hlt, fun σ' H' => ∃ G3, At K T G0 H0 G3 H' σ' (inv (i + 1)) ∧ Sub G1 G3, fun σ' H' ⟨G3, A3, s3⟩ => ⟨m - 1, by omega, by omega, G3, A3, s3⟩, fun x H' y => ?_⟩
    obtain ⟨d, hd⟩ : ∃ d, ds[i]? = some d := ⟨_, List.getElem?_eq_getElem hlt⟩
    obtain ⟨G3, n3, r3⟩ := it.yld i G2 H x H' d s2 A2.kn y hd
    obtain ⟨js, ks, ρ1, ρ2, k1, k2, k3⟩ := step i d hd
    refine k1 _ _ _ _ _ _ (A2.next n3) r3 _ fun G4 H4 σ4 A4 n4 _ => ?_
    refine k2 _ _ _ _ _ _ A4 fun G5 H5 σ5 A5 s5 => ?_
    refine ⟨G5, ?_, ((s2.trans n3.sub).trans n4.sub).trans s5⟩
    rw [← k3]
    exact A5.fg
  · have e : i = ds.length := by omega
    subst e
    exact .inl ⟨it.stop G2 H s2 A2.kn, w _ _ _ A2 (n1.sub.trans s2)⟩
/-- a loop that is left at turn k -/
theorem es_forO {wi : TI} {ds : List D} {o : Out} (ho : ∀ D1 D2 : Ends, ∀ G0 H0 G, D1.rt = D2.rt → Wish K T E D1 G0 H0 G o → Wish K T E D2 G0 H0 G o) (hi : EvI K T wi ρ ds) (inv : Nat → Env') (h0 : inv 0 = ρ) (k : Nat) (hk : k < ds.length)
    (step : ∀ i d, i < k → ds[i]? = some d → ∃ js ks ρ1 ρ2, EvG K T g js d (inv i) ρ1 ∧ EvS K T E tb ρ1 (.nx ρ2) ∧ fg ks ρ2 = inv (i + 1))
    (last : ∀ d, ds[k]? = some d → ∃ js ρ1, EvG K T g js d (inv k) ρ1 ∧ EvS K T E tb ρ1 o) : EvS K T E (tFor wi g tb) ρ o := by
  intro G0 H0 G H σ D' A w
  refine hi _ _ _ _ _ A _ fun J G1 H1 n1 it => ?_
  refine ⟨fun i m σ H => i ≤ k ∧ i + m = ds.length ∧ ∃ G2, At K T G0 H0 G2 H σ (inv i) ∧ Sub G1 G2, ⟨ds.length, Nat.zero_le _, Nat.zero_add _, G1, by rw [h0]; exact A.next n1, Sub.refl _⟩, ?_⟩
  rintro i m σ H ⟨hik, him, G2, A2, s2⟩
  have hlt : i < ds.length := by omega
  refine .inr ⟨it.go i G2 H s2 A2.kn hlt, fun σ' H' => i < k ∧ ∃ G3, At K T G0 H0 G3 H' σ' (inv (i + 1)) ∧ Sub G1 G3, fun σ' H' ⟨hl, G3, A3, s3⟩ => ⟨m - 1, by omega, by omega, by omega, G3, A3, s3⟩, fun x H' y => ?_⟩
  obtain ⟨d, hd⟩ : ∃ d, ds[i]? = some d := ⟨_, List.getElem?_eq_getElem hlt⟩
  obtain ⟨G3, n3, r3⟩ := it.yld i G2 H x H' d s2 A2.kn y hd
  by_cases hl : i < k
  · obtain ⟨js, ks, ρ1, ρ2, k1, k2, k3⟩ := step i d hl hd
    refine k1 _ _ _ _ _ _ (A2.next n3) r3 _ fun G4 H4 σ4 A4 n4 _ => ?_
    refine k2 _ _ _ _ _ _ A4 fun G5 H5 σ5 A5 s5 => ?_
    refine ⟨hl, G5, ?_, ((s2.trans n3.sub).trans n4.sub).trans s5⟩
    rw [← k3]
    exact A5.fg
  · have e : i = k := by omega
    subst e
    obtain ⟨js, ρ1, k1, k2⟩ := last d hd
    refine k1 _ _ _ _ _ _ (A2.next n3) r3 _ fun G4 H4 σ4 A4 n4 _ => ?_
    exact k2 _ _ _ _ _ _ A4 (ho D' _ _ _ _ rfl (w.sub (((n1.sub.trans s2).trans n3.sub).trans n4.sub)))
theorem out_rt {d : D} : ∀ D1 D2 : Ends, ∀ G0 H0 G, D1.rt = D2.rt → Wish K T E D1 G0 H0 G (.rt d) → Wish K T E D2 G0 H0 G (.rt d) := fun D1 D2 G0 H0 G e w => by
  intro v G' H' n r
  rw [← e]; exact w v G' H' n r
theorem out_xc {x : Addr} : ∀ D1 D2 : Ends, ∀ G0 H0 G, D1.rt = D2.rt → Wish K T E D1 G0 H0 G (.xc x) → Wish K T E D2 G0 H0 G (.xc x) := fun D1 D2 G0 H0 G e w => w
/-- while: inv by a counter that falls -/
theorem es_while (inv : Nat → Env') (n : Nat) (h0 : inv 0 = ρ) (step : ∀ i, i < n → EvT K T c (inv i) true ∧ ∃ ks ρ2, EvS K T E tb (inv i) (.nx ρ2) ∧ fg ks ρ2 = inv (i + 1)) (last : EvT K T c (inv n) false) : EvS K T E (tWhile c tb) ρ (.nx (inv n)) := by
  intro G0 H0 G H σ D' A w
  refine ⟨fun m σ H => ∃ i, i + m = n ∧ ∃ G2, At K T G0 H0 G2 H σ (inv i) ∧ Sub G G2, ⟨n, 0, Nat.zero_add _, G, by rw [h0]; exact A, Sub.refl _⟩, ?_⟩
  rintro m σ H ⟨i, him, G2, A2, s2⟩
  by_cases hlt : i < n
  · obtain ⟨k1, ks, ρ2, k2, k3⟩ := step i hlt
    refine k1 _ _ _ _ _ A2 _ fun G3 H3 n3 => ?_
    rw [if_pos rfl]
    refine ⟨fun σ' H' => ∃ G3, At K T G0 H0 G3 H' σ' (inv (i + 1)) ∧ Sub G G3, fun σ' H' ⟨G3, A3, s3⟩ => ⟨m - 1, by omega, i + 1, by omega, G3, A3, s3⟩, ?_⟩
    refine k2 _ _ _ _ _ _ (A2.next n3) fun G5 H5 σ5 A5 s5 => ⟨G5, ?_, (s2.trans n3.sub).trans s5⟩
    rw [← k3]
    exact A5.fg
  · have e : i = n := by omega
    subst e
    refine last _ _ _ _ _ A2 _ fun G3 H3 n3 => ?_
    rw [if_neg Bool.false_ne_true]
    exact w _ _ _ (A2.next n3) (s2.trans n3.sub)
/-! comprehensions -/
def wipeE (ρ : Env') : List Nat → Env'
  | [] => ρ
  | v :: vs => (wipeE ρ vs).set v none
theorem At.wipeE {G0 H0 G H : Hp} {σ : St} (a : At K T G0 H0 G H σ ρ) : ∀ vs : List Nat, At K T G0 H0 G H (wipe σ vs) (DL.wipeE ρ vs)
  | [] => a
  | v :: vs => by
    have b := At.wipeE a vs
    show At K T G0 H0 G H ((wipe σ vs).set v none) ((DL.wipeE ρ vs).set v none)
    generalize wipe σ vs = τ at b
    generalize DL.wipeE ρ vs = η at b
    have key : ∀ m q, Ow (τ.set v none) (η.set v none) m q → Ow τ η m q := by
      rintro m q ⟨q1, q2⟩
      by_cases hm : v = m
      · subst hm
        by_cases hl : v < η.length
        · rw [List.getElem?_set_self hl] at q2
          rcases q2 with ⟨_, z⟩ | ⟨_, z⟩ <;> cases z
        · rw [List.getElem?_eq_none (by simpa using hl)] at q2
          rcases q2 with ⟨_, z⟩ | ⟨_, z⟩ <;> cases z
      · rw [List.getElem?_set_ne hm] at q1 q2
        exact ⟨q1, q2⟩
    have sel : ∀ {j : Nat} {x : Sl}, (η.set v none)[j]? = some (some x) → v ≠ j ∧ η[j]? = some (some x) := by
      intro j x h
      by_cases hj : v = j
      · subst hj
        by_cases hl : v < η.length
        · rw [List.getElem?_set_self hl] at h; cases h
        · rw [List.getElem?_eq_none (by simpa using hl)] at h; cases h
      · rw [List.getElem?_set_ne hj] at h; exact ⟨hj, h⟩
    refine ⟨by simp [b.len], b.nx, b.tabs, fun j e h => ?_, fun j e h => ?_, fun j e h => ?_, fun j k q h1 h2 => b.dis j k q (key j q h1) (key k q h2)⟩
    · obtain ⟨hj, h⟩ := sel h
      rw [List.getElem?_set_ne hj]; exact b.sh j e h
    · obtain ⟨hj, h⟩ := sel h
      rw [List.getElem?_set_ne hj]; exact b.ol j e h
    · obtain ⟨hj, h⟩ := sel h
      rw [List.getElem?_set_ne hj]; exact b.od j e h
theorem ev_lc {wi : TI} {tt : TT} {vs : List Nat} {α : Type} (as : List α) (emb : α → D) (p : α → Bool) (f : α → D) (hi : EvI K T wi ρ (as.map emb)) (hl : as.length ≤ 100000)
    (step : ∀ (i : Nat) (a : α), as[i]? = some a → ∃ js ρ1, EvG K T g js (emb a) (wipeE ρ vs) ρ1 ∧ (∀ j ∈ js, j ∈ vs) ∧ EvT K T tt ρ1 (p a) ∧ (p a = true → EvD K T te ρ1 (f a))) : EvD K T (tLc wi g tt te vs) ρ (.lst ((as.filter p).map f)) := by
  intro G0 H0 G H σ A Q q
  refine hi _ _ _ _ _ A _ fun J G1 H1 n1 it => ?_
  intro D hD
  have A1 := A.next n1
  have hlen : (as.map emb).length = as.length := List.length_map ..
  -- from (G, H) on
  have ntD : NT H D := n1.ex.nt (nt_none hD)
  have ntD0 : NT H0 D := A.nx.ex.nt ntD
  refine ⟨fun i m H2 => i + m = as.length ∧ ∃ G2 acc, Nxt T G H G2 H2 ∧ Sub G1 G2 ∧ H2 D = some (.lst acc) ∧ RpA K G2 acc (((as.take i).filter p).map f) ∧ G2 D = none, ⟨as.length, Nat.zero_add _, G1, [], ?_, Sub.refl _, upd_same, by simpa using RpA.nil, n1.kn.none (nt_none hD)⟩, ?_⟩
  · exact n1.trans (Nxt.heap n1.kn (Ex.new hD))
  rintro i m H2 ⟨him, G2, acc, n2, s2, hacc, racc, gD⟩
  have A2 : At K T G0 H0 G2 H2 σ ρ := A.next n2
  by_cases hlt : i < as.length
  · refine .inr ⟨it.go i G2 H2 s2 n2.kn (by omega), fun H3 => ∃ G3 acc, Nxt T G H G3 H3 ∧ Sub G1 G3 ∧ H3 D = some (.lst acc) ∧ RpA K G3 acc (((as.take (i + 1)).filter p).map f) ∧ G3 D = none, fun H3 w => ⟨m - 1, by omega, by omega, w⟩, fun x H3 y => ?_⟩
    have ha : as[i]? = some as[i] := List.getElem?_eq_getElem hlt
    obtain ⟨G3, n3, r3⟩ := it.yld i G2 H2 x H3 (emb as[i]) s2 n2.kn y (by rw [List.getElem?_map, ha]; rfl)
    obtain ⟨js, ρ1, k1, k2, k3, k4⟩ := step i as[i] ha
    refine k1 _ _ _ _ _ _ ((A2.next n3).wipeE vs) r3 _ fun G4 H4 σ4 A4 n4 w4 => ⟨?_, ?_⟩
    · rw [w4 vs k2]
      have idem : ∀ (us : List Nat) (τ : St), (∀ j ∈ us, j ∈ vs) → wipe (wipe τ us) vs = wipe τ vs := by
        intro us
        induction us with
        | nil => intro τ _; rfl
        | cons u us ih =>
          intro τ hu
          show wipe ((wipe τ us).set u none) vs = wipe τ vs
          rw [wipe_set _ (hu u List.mem_cons_self), ih τ fun j hj => hu j (List.mem_cons_of_mem _ hj)]
      exact idem vs σ fun _ h => h
    refine k3 _ _ _ _ _ A4 _ fun G5 H5 n5 => ?_
    have n25 : Nxt T G2 H2 G5 H5 := (n3.trans n4).trans n5
    have etk : as.take (i + 1) = as.take i ++ [as[i]] := by rw [List.take_add_one, ha]; rfl
    by_cases hp : p as[i] = true
    · rw [if_pos hp]
      refine k4 hp _ _ _ _ _ (A4.next n5) _ fun v G6 H6 n6 r6 => ?_
      have n26 := n25.trans n6
      have hD6 : H6 D = some (.lst acc) := n26.ex.keep D _ hacc (fun _ z => nomatch z)
      have gD6 : G6 D = none := n26.new D (lst_nt hacc) gD
      refine ⟨acc, hD6, ?_, G6, acc ++ [v], (n2.trans n26).mut ntD gD6 hD6 (fun _ z => nomatch z) (fun _ z => nomatch z), s2.trans n26.sub, upd_same, ?_, gD6⟩
      · rw [racc.length, List.length_map]
        have : ((as.take i).filter p).length ≤ (as.take i).length := List.length_filter_le _ _
        rw [List.length_take] at this
        exact sz_lt (by omega)
      · rw [etk, List.filter_append, List.map_append]
        refine (racc.sub n26.sub).append ?_
        rw [List.filter_cons_of_pos hp]
        exact .one r6
    · rw [if_neg hp]
      refine ⟨G5, acc, n2.trans n25, s2.trans n25.sub, n25.ex.keep D _ hacc (fun _ z => nomatch z), ?_, n25.new D (lst_nt hacc) gD⟩
      rw [etk, List.filter_append, List.map_append, List.filter_cons_of_neg hp]
      simpa using racc.sub n25.sub
  · have e : i = as.length := by omega
    subst e
    have st := it.stop G2 H2 s2 n2.kn
    rw [hlen] at st
    refine .inl ⟨st, ?_⟩
    rw [List.take_length] at racc
    have fz := n2.freeze (o' := .lst acc) ntD gD hacc (fun _ z => nomatch z) (fun _ z => nomatch z) (fun _ z => nomatch z)
    have : upd H2 D (.lst acc) = H2 := by
      funext b
      by_cases hb : b = D
      · subst hb; rw [upd_same, hacc]
      · rw [upd_ne hb]
    rw [this] at fz
    have sb : Sub G2 (upd G2 D (.lst acc)) := fun b u e => by rw [upd_ne (ne_of_none e gD)]; exact e
    exact q _ _ _ fz (.lst upd_same (racc.sub sb))
/-- all are taken -/
theorem et_yes : EvT K T tYes ρ true := fun G0 H0 G H σ A Q q => q G H (Nxt.refl A.kn)
theorem ev_lcm {wi : TI} {vs : List Nat} {α : Type} (as : List α) (emb f : α → D) (hi : EvI K T wi ρ (as.map emb)) (hl : as.length ≤ 100000)
    (step : ∀ (i : Nat) (a : α), as[i]? = some a → ∃ js ρ1, EvG K T g js (emb a) (wipeE ρ vs) ρ1 ∧ (∀ j ∈ js, j ∈ vs) ∧ EvD K T te ρ1 (f a)) : EvD K T (tLc wi g tYes te vs) ρ (.lst (as.map f)) := by
  have := ev_lc (te := te) (g := g) (vs := vs) as emb (fun _ => true) f hi hl fun i a h => let ⟨js, ρ1, h1, h2, h3⟩ := step i a h; ⟨js, ρ1, h1, h2, et_yes, fun _ => h3⟩
  rwa [List.filter_eq_self.mpr (fun _ _ => rfl)] at this
end
end DL
/-! DL3: operators, subscripts, calls of built-ins, walks: rules whatever the kinds are, and what they are worth. -/
namespace DL
open PySem L2
/-! ### one syntax, several readings -/
def tOr2 (t u : TE) : TE := fun σ H Q => t σ H Q ∨ u σ H Q
section
variable {X : Cx}
theorem pe_or2 {e : Expr} {t u : TE} (h : PE X e t) (h' : PE X e u) : PE X e (tOr2 t u) := ⟨fun pins s σ H Q I hw => hw.elim (h.run pins s σ H Q I) (h'.run pins s σ H Q I)⟩
def iOr2 (w w' : TI) : TI := fun σ H R => w σ H R ∨ w' σ H R
theorem pi_or2 {tg e : Expr} {w w' : TI} (h : PI X tg e w) (h' : PI X tg e w') : PI X tg e (iOr2 w w') := ⟨fun pins s σ H R I hw => hw.elim (h.run pins s σ H R I) (h'.run pins s σ H R I)⟩
def cOr2 (r r' : List V → Hp → VK → Prop) : List V → Hp → VK → Prop := fun vs H Q => r vs H Q ∨ r' vs H Q
theorem cr_or2 {f : Value} {r r' : List V → Hp → VK → Prop} (h : CallR X f r) (h' : CallR X f r') : CallR X f (cOr2 r r') := h.or h'
def oOr2 (r r' : R2) : R2 := fun x y H Q => r x y H Q ∨ r' x y H Q
theorem op_or2 {f : Value → Value → Sem Value} {r r' : R2} (h : OpR X f r) (h' : OpR X f r') : OpR X f (oOr2 r r') := h.or h'
end
section
variable {K : PySem.W.Frag} {T : List (Addr × Str)} {ρ : Env'} {ta tb tc te t u : TE} {a b c d : D} {r r' : R2}
theorem ev_l (h : EvD K T t ρ d) : EvD K T (tOr2 t u) ρ d := fun G0 H0 G H σ A Q q => .inl (h _ _ _ _ _ A Q q)
theorem ev_r (h : EvD K T u ρ d) : EvD K T (tOr2 t u) ρ d := fun G0 H0 G H σ A Q q => .inr (h _ _ _ _ _ A Q q)
theorem o_l (h : Op2 K T r a b c) : Op2 K T (oOr2 r r') a b c := fun G H x y k t1 r1 r2 Q q => .inl (h G H x y k t1 r1 r2 Q q)
theorem o_r (h : Op2 K T r' a b c) : Op2 K T (oOr2 r r') a b c := fun G H x y k t1 r1 r2 Q q => .inr (h G H x y k t1 r1 r2 Q q)
theorem c_l {r r' : List V → Hp → VK → Prop} {ds : List D} (h : Cl K T r ds c) : Cl K T (cOr2 r r') ds c := fun G H vs k t1 r1 Q q => .inl (h G H vs k t1 r1 Q q)
theorem c_r {r r' : List V → Hp → VK → Prop} {ds : List D} (h : Cl K T r' ds c) : Cl K T (cOr2 r r') ds c := fun G H vs k t1 r1 Q q => .inr (h G H vs k t1 r1 Q q)
theorem ei_l {w w' : TI} {ds : List D} (h : EvI K T w ρ ds) : EvI K T (iOr2 w w') ρ ds := fun G0 H0 G H σ A R q => .inl (h _ _ _ _ _ A R q)
theorem ei_r {w w' : TI} {ds : List D} (h : EvI K T w' ρ ds) : EvI K T (iOr2 w w') ρ ds := fun G0 H0 G H σ A R q => .inr (h _ _ _ _ _ A R q)
/-- a value that asks nothing of the heap -/
theorem nx_here {G H : Hp} (k : Kn G H) : Nxt T G H G H := Nxt.refl k
end

/-! ### arithmetic -/
section
variable {X : Cx}
def rAddG : R2 := oOr2 (rI0 fun i j => .int (i + j)) (oOr2 (fun x y H Q => ∃ i j, x = .str i ∧ y = .str j ∧ i.length + j.length ≤ sizeLine ∧ Q (.str (i ++ j)) H) rCat)
theorem op_addG : OpR X (binaryOp .Add) rAddG := op_or2 op_add (op_or2 op_add_str op_cat)
def rSubG : R2 := rI0 fun i j => .int (i - j)
theorem op_subG : OpR X (binaryOp .Sub) rSubG := op_sub
def rMulI : R2 := rI IntMulOk fun i j => .int (i * j)
theorem op_mulI : OpR X (binaryOp .Mult) rMulI := opI fun _ _ _ _ _ _ _ hc q => PyProof.Rows.mul_int q hc
def rMulS : R2 := fun x y H Q => ∃ z n, x = .str z ∧ y = .int n ∧ PySem.MulOk z n ∧ Q (.str (Txt.mul z n)) H
theorem op_mulS : OpR X (binaryOp .Mult) rMulS := by
  intro pins s σ H x y v u Q I rx ry h
  obtain ⟨z, n, rfl, rfl, ok, q⟩ := h
  obtain ⟨t, rfl⟩ := rx
  obtain ⟨t', rfl⟩ := ry
  exact PySem.SB.mul ok fun t2 k => ⟨.str _, H, I.tok k, ⟨_, rfl⟩, q⟩
def rMulG : R2 := oOr2 rMulI (oOr2 rRep rMulS)
theorem op_mulG : OpR X (binaryOp .Mult) rMulG := op_or2 op_mulI (op_or2 op_rep op_mulS)
def rDivG : R2 := rI CDivW fun i j => .int (i / j)
theorem op_divG : OpR X (binaryOp .FloorDiv) rDivG := op_fdivW
def rModG : R2 := rI (fun _ j => 0 < j) fun i j => .int (i % j)
theorem op_modG : OpR X (binaryOp .Mod) rModG := op_mod
def rPowG : R2 := rI CPow fun i j => .int (i ^ j.toNat)
theorem op_powG : OpR X (binaryOp .Pow) rPowG := op_pow
end
section
variable {K : PySem.W.Frag} {T : List (Addr × Str)} {i j : Int} {l m : List Nat} {as bs : List D}
theorem o_I {C : Int → Int → Prop} {g : Int → Int → Int} (h : C i j) : Op2 K T (rI C fun i j => .int (g i j)) (.int i) (.int j) (.int (g i j)) := fun G H x y k t r1 r2 Q q => by
  cases r1; cases r2
  exact ⟨i, j, rfl, rfl, h, q _ G H (nx_here k) (.int _)⟩
theorem o_I0 {g : Int → Int → Int} : Op2 K T (rI0 fun i j => .int (g i j)) (.int i) (.int j) (.int (g i j)) := fun G H x y k t r1 r2 Q q => by
  cases r1; cases r2
  exact ⟨i, j, rfl, rfl, q _ G H (nx_here k) (.int _)⟩
theorem o_B0 {g : Int → Int → Bool} : Op2 K T (rI0 fun i j => .bl (g i j)) (.int i) (.int j) (.bl (g i j)) := fun G H x y k t r1 r2 Q q => by
  cases r1; cases r2
  exact ⟨i, j, rfl, rfl, q _ G H (nx_here k) (.bl _)⟩
theorem o_add : Op2 K T rAddG (.int i) (.int j) (.int (i + j)) := o_l (o_I0 (g := fun i j => i + j))
theorem S_app (l m : List Nat) : S l ++ S m = S (l ++ m) := by
  show Str.mk _ = Str.mk _
  simp
theorem o_adds (h : l.length + m.length ≤ 100000) : Op2 K T rAddG (.str l) (.str m) (.str (l ++ m)) := o_r (o_l fun G H x y k t r1 r2 Q q => by
  cases r1; cases r2
  refine ⟨_, _, rfl, rfl, by rw [S_len, S_len]; exact sz_of h, ?_⟩
  rw [S_app]
  exact q _ G H (nx_here k) (.str _))
theorem o_addl (h : as.length + bs.length ≤ 100000) : Op2 K T rAddG (.lst as) (.lst bs) (.lst (as ++ bs)) := o_r (o_r fun G H x y k t r1 r2 Q q => by
  cases r1 with
  | @lst _ xs1 _ h1 q1 => cases r2 with
    | @lst _ xs2 _ h2 q2 =>
      refine ⟨_, _, _, _, rfl, rfl, (k _ _ h1).1, (k _ _ h2).1, by rw [q1.length, q2.length]; exact sz_of h, fun p hp => ?_⟩
      have n := Nxt.fresh (T := T) (G := G) (o := .lst (xs1 ++ xs2)) k hp (fun _ z => nomatch z)
      exact q _ _ _ n (.lst upd_same ((q1.append q2).sub n.sub)))
theorem o_sub : Op2 K T rSubG (.int i) (.int j) (.int (i - j)) := o_I0 (g := fun i j => i - j)
theorem o_mul (h : IntMulOk i j) : Op2 K T rMulG (.int i) (.int j) (.int (i * j)) := o_l (o_I (g := fun i j => i * j) h)
theorem mulok_l (h1 : -(2 ^ 64) < i) (h2 : i < 2 ^ 64) : IntMulOk i j := CMul.ok (.inl ⟨h1, h2⟩)
theorem mulok_r (h1 : -(2 ^ 64) < j) (h2 : j < 2 ^ 64) : IntMulOk i j := CMul.ok (.inr ⟨h1, h2⟩)
theorem o_mulL (h1 : -(2 ^ 64) < i) (h2 : i < 2 ^ 64) : Op2 K T rMulG (.int i) (.int j) (.int (i * j)) := o_mul (mulok_l h1 h2)
theorem o_div (h : 0 < j) (h2 : j < 2 ^ 64) : Op2 K T rDivG (.int i) (.int j) (.int (i / j)) := o_I (g := fun i j => i / j) (wide_div (b := 64) h (by omega) (by decide) (by decide))
theorem o_divW (h : CDivW i j) : Op2 K T rDivG (.int i) (.int j) (.int (i / j)) := o_I (g := fun i j => i / j) h
theorem o_mod (h : 0 < j) : Op2 K T rModG (.int i) (.int j) (.int (i % j)) := o_I (C := fun _ j => 0 < j) (g := fun i j => i % j) h
theorem o_pow (h : CPow i j) : Op2 K T rPowG (.int i) (.int j) (.int (i ^ j.toNat)) := o_I (g := fun i j => i ^ j.toNat) h
theorem o_rep {n : Int} (h0 : 0 ≤ n) (h : as.length * n.toNat ≤ 100000) (hn : n < 2 ^ 62) : Op2 K T rMulG (.lst as) (.int n) (.lst (List.replicate n.toNat as).flatten) := o_r (o_l fun G H x y k t r1 r2 Q q => by
  cases r1 with
  | @lst _ xs1 _ h1 q1 => cases r2 with
    | int =>
      refine ⟨_, n, _, rfl, rfl, (k _ _ h1).1, by omega, by omega, by rw [q1.length]; exact sz_of h, fun p hp => ?_⟩
      have n' := Nxt.fresh (T := T) (G := G) (o := .lst (List.replicate n.toNat xs1).flatten) k hp (fun _ z => nomatch z)
      refine q _ _ _ n' (.lst upd_same (RpA.sub n'.sub ?_))
      generalize n.toNat = z
      clear h hn h0 n'
      induction z with
      | zero => exact .nil
      | succ z ih => simpa [List.replicate_succ] using q1.append ih)
end

/-! ### data, compared -/
mutual
def toPy : D → PyData
  | .non => .none
  | .bl b => .bool b
  | .int i => .int i
  | .str l => .str (S l)
  | .lst xs => .list (toPyA xs)
  | .tup xs => .tuple (toPyA xs)
  | .scr ns => .list (ns.map .int)
  | .dct _ => .dict []
  | .raw _ => .dict []
def toPyA : List D → List PyData
  | [] => []
  | d :: ds => toPy d :: toPyA ds
end
/-- no deeper than n, no dict -/
inductive Sh : Nat → D → Prop
  | non {n : Nat} : Sh n .non
  | bl {n : Nat} (b : Bool) : Sh n (.bl b)
  | int {n : Nat} (i : Int) : Sh n (.int i)
  | str {n : Nat} {l : List Nat} : (∀ c ∈ l, c < 1114112) → Sh n (.str l)
  | scr {n : Nat} (l : List Int) : Sh (n + 1) (.scr l)
  | lst {n : Nat} {ds : List D} : (∀ d ∈ ds, Sh n d) → Sh (n + 1) (.lst ds)
  | tup {n : Nat} {ds : List D} : (∀ d ∈ ds, Sh n d) → Sh (n + 1) (.tup ds)
theorem toPyA_map (ds : List D) : toPyA ds = ds.map toPy := by
  induction ds with
  | nil => rfl
  | cons d ds ih => rw [toPyA, ih]; rfl
theorem depthAll_le {n : Nat} : ∀ {xs : List PyData}, (∀ x ∈ xs, x.depth ≤ n) → PyData.depthAll xs ≤ n
  | [], _ => by simp [PyData.depthAll]
  | x :: xs, h => by
    rw [PyData.depthAll]
    exact Nat.max_le.mpr ⟨h x List.mem_cons_self, depthAll_le fun y hy => h y (List.mem_cons_of_mem _ hy)⟩
theorem canLayAll_of : ∀ {xs : List PyData}, (∀ x ∈ xs, x.canLay0 = true) → PyData.canLayAll0 xs = true
  | [], _ => by simp [PyData.canLayAll0]
  | x :: xs, h => by
    rw [PyData.canLayAll0, h x List.mem_cons_self, canLayAll_of fun y hy => h y (List.mem_cons_of_mem _ hy)]; rfl
theorem Sh.py {n : Nat} {d : D} (h : Sh n d) : (toPy d).depth ≤ n ∧ (toPy d).canLay0 = true := by
  induction h with
  | non => exact ⟨by simp [toPy, PyData.depth], by simp [toPy, PyData.canLay0]⟩
  | bl => exact ⟨by simp [toPy, PyData.depth], by simp [toPy, PyData.canLay0]⟩
  | int => exact ⟨by simp [toPy, PyData.depth], by simp [toPy, PyData.canLay0]⟩
  | str h => exact ⟨by simp [toPy, PyData.depth], by simp [toPy, PyData.canLay0, PyData.strOk]; intro i hi; exact h i hi⟩
  | @scr n l =>
    have h1 : ∀ x ∈ l.map PyData.int, x.depth ≤ n := fun x hx => by obtain ⟨i, _, rfl⟩ := List.mem_map.mp hx; simp [PyData.depth]
    have h2 : ∀ x ∈ l.map PyData.int, x.canLay0 = true := fun x hx => by obtain ⟨i, _, rfl⟩ := List.mem_map.mp hx; simp [PyData.canLay0]
    refine ⟨?_, ?_⟩
    · show PyData.depth (.list _) ≤ _
      rw [PyData.depth]; have := depthAll_le h1; omega
    · show PyData.canLay0 (.list _) = true
      rw [PyData.canLay0]; exact canLayAll_of h2
  | @lst n ds _ ih =>
    refine ⟨?_, ?_⟩
    · rw [toPy, PyData.depth, toPyA_map]
      have := depthAll_le (n := n) (xs := ds.map toPy) fun x hx => by obtain ⟨i, hi, rfl⟩ := List.mem_map.mp hx; exact (ih i hi).1
      omega
    · rw [toPy, PyData.canLay0, toPyA_map]
      exact canLayAll_of fun x hx => by obtain ⟨i, hi, rfl⟩ := List.mem_map.mp hx; exact (ih i hi).2
  | @tup n ds _ ih =>
    refine ⟨?_, ?_⟩
    · rw [toPy, PyData.depth, toPyA_map]
      have := depthAll_le (n := n) (xs := ds.map toPy) fun x hx => by obtain ⟨i, hi, rfl⟩ := List.mem_map.mp hx; exact (ih i hi).1
      omega
    · rw [toPy, PyData.canLay0, toPyA_map]
      exact canLayAll_of fun x hx => by obtain ⟨i, hi, rfl⟩ := List.mem_map.mp hx; exact (ih i hi).2
theorem Sh.shaped {d : D} (h : Sh 8 d) : SeqAt.shaped (toPy d) = true := by
  unfold SeqAt.shaped
  rw [h.py.2, decide_eq_true (Nat.le_trans h.py.1 (by decide))]; rfl
theorem RpA.dp {K : PySem.W.Frag} {G H : Hp} : ∀ {vs : List V} {ds : List D}, (∀ d ∈ ds, ∀ v, Rp K G v d → Dp K H v (toPy d)) → RpA K G vs ds → DpAll K H vs (toPyA ds) := by
  intro vs
  induction vs with
  | nil => intro ds _ r; cases r; exact .nil
  | cons v vs ih =>
    intro ds h r
    cases r with
    | cons h1 r => exact .cons (h _ List.mem_cons_self _ h1) (ih (fun d hd => h d (List.mem_cons_of_mem _ hd)) r)
theorem dp_ints {K : PySem.W.Frag} {H : Hp} : ∀ ns : List Int, DpAll K H (ns.map V.int) (ns.map PyData.int)
  | [] => .nil
  | n :: ns => .cons (.int n) (dp_ints ns)
theorem Rp.dp {K : PySem.W.Frag} {G H : Hp} (k : Kn G H) {n : Nat} {d : D} (s : Sh n d) : ∀ {v : V}, Rp K G v d → Dp K H v (toPy d) := by
  induction s with
  | non => intro v h; cases h; exact .non
  | bl => intro v h; cases h; exact .bl _
  | int => intro v h; cases h; exact .int _
  | str => intro v h; cases h; exact .str _
  | scr => intro v h; cases h with | scr h => exact .lst (kn_l k h) (dp_ints _)
  | lst _ ih => intro v h; cases h with | lst h r => exact .lst (SqL.of (k _ _ h).1) (RpA.dp (fun d hd v => ih d hd) r)
  | tup _ ih => intro v h; cases h with | tup h r => exact .tup (kn_t k h) (RpA.dp (fun d hd v => ih d hd) r)
def eqD (a b : D) : Bool := PyData.eqv (toPy a) (toPy b)
section
variable {K : PySem.W.Frag} {T : List (Addr × Str)} {a b : D}
theorem o_eq (ha : Sh 8 a) (hb : Sh 8 b) : Op2 K T (rEqD K) a b (.bl (eqD a b)) := fun G H x y k t r1 r2 Q q =>
  ⟨_, _, r1.dp k ha, r2.dp k hb, ha.shaped, hb.shaped, q _ G H (nx_here k) (.bl _)⟩
theorem o_ne (ha : Sh 8 a) (hb : Sh 8 b) : Op2 K T (rNeD K) a b (.bl (!eqD a b)) := fun G H x y k t r1 r2 Q q =>
  ⟨_, _, r1.dp k ha, r2.dp k hb, ha.shaped, hb.shaped, q _ G H (nx_here k) (.bl _)⟩
end
theorem eqD_int (i j : Int) : eqD (.int i) (.int j) = decide (i = j) := by
  simp [eqD, toPy, PyData.eqv]; rfl
theorem S_beq (l m : List Nat) : (S l == S m) = decide (l = m) := by
  by_cases h : l = m
  · subst h; simp
  · have : S l ≠ S m := fun z => h (S_inj z)
    rw [beq_eq_false_iff_ne.mpr this, decide_eq_false h]
theorem eqD_str (l m : List Nat) : eqD (.str l) (.str m) = decide (l = m) := by
  simp only [eqD, toPy, PyData.eqv]; exact S_beq l m
theorem eqD_bl (x y : Bool) : eqD (.bl x) (.bl y) = decide (x = y) := by
  simp only [eqD, toPy, PyData.eqv]; cases x <;> cases y <;> rfl
theorem eqv_list (as bs : List D) : eqD (.lst as) (.lst bs) = PyData.eqvAll (toPyA as) (toPyA bs) := by simp only [eqD, toPy, PyData.eqv]
theorem eqv_tup (as bs : List D) : eqD (.tup as) (.tup bs) = PyData.eqvAll (toPyA as) (toPyA bs) := by simp only [eqD, toPy, PyData.eqv]
theorem eqvA_cons (a b : D) (as bs : List D) : PyData.eqvAll (toPyA (a :: as)) (toPyA (b :: bs)) = (eqD a b && PyData.eqvAll (toPyA as) (toPyA bs)) := by simp only [toPyA, PyData.eqvAll, eqD]
theorem eqvA_nil : PyData.eqvAll (toPyA []) (toPyA []) = true := by simp [toPyA, PyData.eqvAll]
theorem eqvA_map {α : Type} [DecidableEq α] (f : α → D) (hf : ∀ x y, eqD (f x) (f y) = decide (x = y)) : ∀ xs ys : List α, PyData.eqvAll (toPyA (xs.map f)) (toPyA (ys.map f)) = decide (xs = ys)
  | [], [] => by simp [toPyA, PyData.eqvAll]
  | [], _ :: _ => by simp [toPyA, PyData.eqvAll]
  | _ :: _, [] => by simp [toPyA, PyData.eqvAll]
  | x :: xs, y :: ys => by
    rw [List.map_cons, List.map_cons, eqvA_cons, hf, eqvA_map f hf xs ys]
    by_cases h1 : x = y <;> by_cases h2 : xs = ys <;> simp [h1, h2]
theorem eqD_map {α : Type} [DecidableEq α] (f : α → D) (hf : ∀ x y, eqD (f x) (f y) = decide (x = y)) (xs ys : List α) : eqD (.lst (xs.map f)) (.lst (ys.map f)) = decide (xs = ys) := by
  rw [eqv_list, eqvA_map f hf]
theorem eqD_pair {a b c d : D} : eqD (.tup [a, b]) (.tup [c, d]) = (eqD a c && eqD b d) := by
  rw [eqv_tup, eqvA_cons, eqvA_cons, eqvA_nil, Bool.and_true]
theorem eqD_refl {d : D} (h : Sh 8 d) : eqD d d = true := SeqAt.eqv_refl (toPy d) h.py.2

/-! ### order -/
section
variable {X : Cx}
def rLtS : R2 := fun x y H Q => ∃ i j, x = .str i ∧ y = .str j ∧ Q (.bl (decide (i.cps.toList < j.cps.toList))) H
def rLtB : R2 := fun x y H Q => ∃ p q, x = .bl p ∧ y = .bl q ∧ Q (.bl (!p && q)) H
theorem op_ltB : OpR X (compareOp .Lt) rLtB := by
  intro pins s σ H x y v u Q I rx ry h
  obtain ⟨p, q, rfl, rfl, k⟩ := h
  cases rx
  cases ry
  refine PyProof.Rows.lt_bool ⟨.bl _, H, I, ?_, k⟩
  cases p <;> cases q <;> rfl
def rLtG : R2 := oOr2 (rI0 fun i j => .bl (decide (i < j))) (oOr2 rLtS rLtB)
theorem op_ltG : OpR X (compareOp .Lt) rLtG := op_or2 op_lt (op_or2 op_lt_str op_ltB)
def rLeI : R2 := rI0 fun i j => .bl (decide (i ≤ j))
def rGtI : R2 := rI0 fun i j => .bl (decide (j < i))
def rGeI : R2 := rI0 fun i j => .bl (decide (j ≤ i))
theorem op_leI : OpR X (compareOp .LtE) rLeI := op_le
theorem op_gtI : OpR X (compareOp .Gt) rGtI := op_gt
theorem op_geI : OpR X (compareOp .GtE) rGeI := op_ge
def rDIn : R2 := fun y x H Q => ∃ a o, x = .ref a ∧ DGet H a y o ∧ Q (.bl o.isSome) H
def rDNotIn : R2 := fun y x H Q => ∃ a o, x = .ref a ∧ DGet H a y o ∧ Q (.bl (!o.isSome)) H
theorem op_dIn (hu : X.A.units + 1 < cLine) : OpR X (compareOp .In) rDIn := by
  intro pins s σ H y x v u Q I ry rx h
  obtain ⟨a, o, rfl, g, q⟩ := h
  obtain rfl : u = Value.ref a := rx
  exact d_in hu I g ry fun s3 I3 => ⟨.bl o.isSome, H, I3, rfl, q⟩
theorem op_dNotIn (hu : X.A.units + 1 < cLine) : OpR X (compareOp .NotIn) rDNotIn := by
  intro pins s σ H y x v u Q I ry rx h
  obtain ⟨a, o, rfl, g, q⟩ := h
  obtain rfl : u = Value.ref a := rx
  exact d_notIn hu I g ry fun s3 I3 => ⟨.bl (!o.isSome), H, I3, rfl, q⟩
def rSIn : R2 := fun x y H Q => ∃ i j, x = .str i ∧ y = .str j ∧ Q (.bl (!(Builtin.Str.occurrences j i 0 j.length 1).isEmpty)) H
def rSNotIn : R2 := fun x y H Q => ∃ i j, x = .str i ∧ y = .str j ∧ Q (.bl (!(!(Builtin.Str.occurrences j i 0 j.length 1).isEmpty))) H
/-- one sign in a text -/
def rCIn : R2 := fun x y H Q => ∃ (c : Nat) (z : Str), x = .str ⟨#[c]⟩ ∧ y = .str z ∧ Q (.bl (decide (c ∈ z.cps.toList))) H
def rCNotIn : R2 := fun x y H Q => ∃ (c : Nat) (z : Str), x = .str ⟨#[c]⟩ ∧ y = .str z ∧ Q (.bl (!decide (c ∈ z.cps.toList))) H
def rInG (K : PySem.W.Frag) : R2 := oOr2 (rIn K false) (oOr2 rDIn (oOr2 rCIn rSIn))
def rNotInG (K : PySem.W.Frag) : R2 := oOr2 (rIn K true) (oOr2 rDNotIn (oOr2 rCNotIn rSNotIn))
theorem op_inG (hu : X.A.units + 1 < cLine) : OpR X (compareOp .In) (rInG X.K) := op_or2 op_in_seq (op_or2 (op_dIn hu) (op_or2 op_in_sign op_in_str))
theorem op_notInG (hu : X.A.units + 1 < cLine) : OpR X (compareOp .NotIn) (rNotInG X.K) := op_or2 op_notIn_seq (op_or2 (op_dNotIn hu) (op_or2 op_notIn_sign op_notin_str))
end
section
variable {K : PySem.W.Frag} {T : List (Addr × Str)} {i j : Int} {l m : List Nat}
theorem o_lt : Op2 K T rLtG (.int i) (.int j) (.bl (decide (i < j))) := o_l (o_B0 (g := fun i j => decide (i < j)))
theorem o_lts : Op2 K T rLtG (.str l) (.str m) (.bl (decide (l < m))) := o_r (o_l fun G H x y k t r1 r2 Q q => by
  cases r1; cases r2
  exact ⟨_, _, rfl, rfl, q _ G H (nx_here k) (by simpa using Rp.bl _)⟩)
theorem o_ltb {x y : Bool} : Op2 K T rLtG (.bl x) (.bl y) (.bl (!x && y)) := o_r (o_r fun G H v w k t r1 r2 Q q => by
  cases r1; cases r2
  exact ⟨x, y, rfl, rfl, q _ G H (nx_here k) (.bl _)⟩)
theorem o_le : Op2 K T rLeI (.int i) (.int j) (.bl (decide (i ≤ j))) := o_B0 (g := fun i j => decide (i ≤ j))
theorem o_gt : Op2 K T rGtI (.int i) (.int j) (.bl (decide (j < i))) := o_B0 (g := fun i j => decide (j < i))
theorem o_ge : Op2 K T rGeI (.int i) (.int j) (.bl (decide (j ≤ i))) := o_B0 (g := fun i j => decide (j ≤ i))
/-- a key as data -/
def kD : Key → D
  | .inl i => .int i
  | .inr x => .str (tx x)
theorem kD_rp (K : PySem.W.Frag) (G : Hp) (k : Key) : Rp K G (kV k) (kD k) := by
  cases k with
  | inl i => exact .int i
  | inr x => exact rp_str K G x
theorem Rp.key {G : Hp} {v : V} {k : Key} (h : Rp K G v (kD k)) : v = kV k := by
  cases k with
  | inl i => cases h; rfl
  | inr x => cases h; show V.str _ = V.str _; rw [S_tx]
def valD (kvs : List (Key × D)) (k : Key) : Option D := (kvs.find? fun kv => decide (kv.1 = k)).map (·.2)
theorem RpK.val {G : Hp} {vs : List (Key × V)} {ds : List (Key × D)} (r : RpK K G vs ds) (k : Key) : (valV vs k = none ∧ valD ds k = none) ∨ ∃ v d, valV vs k = some v ∧ valD ds k = some d ∧ Rp K G v d := by
  induction vs generalizing ds with
  | nil => cases r; exact .inl ⟨rfl, rfl⟩
  | cons v vs ih =>
    cases r with
    | @cons k' v' _ d' ds' h r =>
      by_cases e : k' = k
      · refine .inr ⟨v', d', ?_, ?_, h⟩
        · simp [valV, List.find?, e]
        · simp [valD, List.find?, e]
      · rcases ih r with ⟨h1, h2⟩ | ⟨w, d, h1, h2, h3⟩
        · refine .inl ⟨?_, ?_⟩
          · simpa [valV, List.find?, e] using h1
          · simpa [valD, List.find?, e] using h2
        · refine .inr ⟨w, d, ?_, ?_, h3⟩
          · simpa [valV, List.find?, e] using h1
          · simpa [valD, List.find?, e] using h2
theorem o_inD {k : Key} {kvs : List (Key × D)} : Op2 K T (rInG K) (kD k) (.dct kvs) (.bl (valD kvs k).isSome) := o_r (o_l fun G H x y kn t r1 r2 Q q => by
  cases r2 with
  | @dct _ _ xs _ h r =>
    have e := r1.key
    subst e
    refine ⟨_, _, rfl, .inl ⟨_, k, .inr ⟨_, (kn _ _ h).1⟩, rfl, rfl⟩, ?_⟩
    have e : (valV xs k).isSome = (valD kvs k).isSome := by
      rcases r.val k with ⟨h1, h2⟩ | ⟨v, d, h1, h2, _⟩
      · rw [h1, h2]; rfl
      · rw [h1, h2]; rfl
    rw [e]
    exact q _ G H (nx_here kn) (.bl _))
theorem o_notInD {k : Key} {kvs : List (Key × D)} : Op2 K T (rNotInG K) (kD k) (.dct kvs) (.bl (!(valD kvs k).isSome)) := o_r (o_l fun G H x y kn t r1 r2 Q q => by
  cases r2 with
  | @dct _ _ xs _ h r =>
    have e := r1.key
    subst e
    refine ⟨_, _, rfl, .inl ⟨_, k, .inr ⟨_, (kn _ _ h).1⟩, rfl, rfl⟩, ?_⟩
    have e : (valV xs k).isSome = (valD kvs k).isSome := by
      rcases r.val k with ⟨h1, h2⟩ | ⟨v, d, h1, h2, _⟩
      · rw [h1, h2]; rfl
      · rw [h1, h2]; rfl
    rw [e]
    exact q _ G H (nx_here kn) (.bl _))
theorem flatV_of {G : Hp} {v : V} {d : D} (f : flat d = true) (h : Rp K G v d) (hr : ∀ w, d ≠ .raw w) : flatV v = true := by
  cases h with
  | raw => exact absurd rfl (hr _)
  | non => rfl
  | bl => rfl
  | int => rfl
  | str => rfl
  | lst => cases f
  | tup => cases f
  | dct => cases f
  | scr => cases f
/-- flat data: ints, texts, truths, None -/
def flt : D → Bool
  | .non | .bl _ | .int _ | .str _ => true
  | _ => false
theorem flatV_of' {G : Hp} {v : V} {d : D} (f : flt d = true) (h : Rp K G v d) : flatV v = true := by
  cases h with
  | raw => cases f
  | non => rfl
  | bl => rfl
  | int => rfl
  | str => rfl
  | lst => cases f
  | tup => cases f
  | dct => cases f
  | scr => cases f
theorem eqV_of {G : Hp} {v w : V} {d e : D} (f : flt d = true) (f' : flt e = true) (h : Rp K G v d) (h' : Rp K G w e) : eqV v w = eqD d e := by
  cases h <;> (try cases f) <;> cases h' <;> (try cases f') <;> first
    | rfl
    | (simp [eqV, eqD, toPy, PyData.eqv]; done)
theorem flats_of {G : Hp} {vs : List V} {ds : List D} (f : ds.all flt = true) (r : RpA K G vs ds) : vs.all flatV = true := by
  induction vs generalizing ds with
  | nil => rfl
  | cons v vs ih => cases r with
    | cons h r =>
      simp only [List.all_cons, Bool.and_eq_true] at f ⊢
      exact ⟨flatV_of' f.1 h, ih f.2 r⟩
def inD (x : D) (ds : List D) : Bool := ds.any fun y => eqD y x
theorem inV_of {G : Hp} {v : V} {d : D} (f : flt d = true) (h : Rp K G v d) {vs : List V} {ds : List D} (fs : ds.all flt = true) (r : RpA K G vs ds) : inV v vs = inD d ds := by
  unfold inV inD
  induction vs generalizing ds with
  | nil => cases r; rfl
  | cons v vs ih => cases r with
    | cons h1 r =>
      simp only [List.all_cons, Bool.and_eq_true] at fs
      simp only [List.any_cons]
      rw [eqV_of fs.1 f h1 h, ih fs.2 r]
theorem o_inL {x : D} {ds : List D} (f : flt x = true) (fs : ds.all flt = true) : Op2 K T (rInG K) x (.lst ds) (.bl (inD x ds)) := o_l fun G H v y kn t r1 r2 Q q => by
  cases r2 with
  | lst h r => exact ⟨_, _, rfl, .inl (SqL.of (kn _ _ h).1), flatV_of' f r1, flats_of fs r, by rw [inV_of f r1 fs r]; exact q _ G H (nx_here kn) (.bl _)⟩
theorem o_inT {x : D} {ds : List D} (f : flt x = true) (fs : ds.all flt = true) : Op2 K T (rInG K) x (.tup ds) (.bl (inD x ds)) := o_l fun G H v y kn t r1 r2 Q q => by
  cases r2 with
  | tup h r => exact ⟨_, _, rfl, .inr (kn_t kn h), flatV_of' f r1, flats_of fs r, by rw [inV_of f r1 fs r]; exact q _ G H (nx_here kn) (.bl _)⟩
theorem o_notInL {x : D} {ds : List D} (f : flt x = true) (fs : ds.all flt = true) : Op2 K T (rNotInG K) x (.lst ds) (.bl (!inD x ds)) := o_l fun G H v y kn t r1 r2 Q q => by
  cases r2 with
  | lst h r => exact ⟨_, _, rfl, .inl (SqL.of (kn _ _ h).1), flatV_of' f r1, flats_of fs r, by rw [inV_of f r1 fs r]; exact q _ G H (nx_here kn) (.bl _)⟩
theorem o_notInT {x : D} {ds : List D} (f : flt x = true) (fs : ds.all flt = true) : Op2 K T (rNotInG K) x (.tup ds) (.bl (!inD x ds)) := o_l fun G H v y kn t r1 r2 Q q => by
  cases r2 with
  | tup h r => exact ⟨_, _, rfl, .inr (kn_t kn h), flatV_of' f r1, flats_of fs r, by rw [inV_of f r1 fs r]; exact q _ G H (nx_here kn) (.bl _)⟩
theorem o_inC {c : Nat} : Op2 K T (rInG K) (.str [c]) (.str l) (.bl (decide (c ∈ l))) := o_r (o_r (o_l fun G H x y k t r1 r2 Q q => by
  cases r1; cases r2
  exact ⟨c, _, rfl, rfl, by simpa using q _ G H (nx_here k) (.bl _)⟩))
theorem o_notInC {c : Nat} : Op2 K T (rNotInG K) (.str [c]) (.str l) (.bl (!decide (c ∈ l))) := o_r (o_r (o_l fun G H x y k t r1 r2 Q q => by
  cases r1; cases r2
  exact ⟨c, _, rfl, rfl, by simpa using q _ G H (nx_here k) (.bl _)⟩))
end
end DL
/-! DL4: subscripts, slices, built-ins, dicts, walks; a def's promise; the law's end. -/
namespace DL
open PySem L2
/-! ### a text's order, sorted -/
abbrev Txt' := List Nat
def leT (a b : List Nat) : Bool := !decide (b < a)
theorem lt_irr (a : List Nat) : ¬ a < a := List.lt_irrefl a
theorem leT_trans (a b c : List Nat) (h1 : leT a b = true) (h2 : leT b c = true) : leT a c = true := by
  simp only [leT, Bool.not_eq_true', decide_eq_false_iff_not, List.not_lt] at *
  exact List.le_trans h1 h2
theorem leT_total (a b : List Nat) : (leT a b || leT b a) = true := by
  simp only [leT, Bool.or_eq_true, Bool.not_eq_true', decide_eq_false_iff_not, List.not_lt]
  exact List.le_total a b
theorem leT_anti {a b : List Nat} (h1 : leT a b = true) (h2 : leT b a = true) : a = b := by
  simp only [leT, Bool.not_eq_true', decide_eq_false_iff_not, List.not_lt] at *
  exact List.le_antisymm h1 h2
def sortT (l : List (List Nat)) : List (List Nat) := l.mergeSort leT
theorem sortT_perm (l : List (List Nat)) : (sortT l).Perm l := List.mergeSort_perm l leT
theorem sortT_pw (l : List (List Nat)) : (sortT l).Pairwise fun a b => leT a b = true := List.pairwise_mergeSort leT_trans leT_total l
theorem sorted_unique {α : Type} (le : α → α → Bool) (anti : ∀ a b, le a b = true → le b a = true → a = b) : ∀ {xs ys : List α}, xs.Perm ys → xs.Pairwise (fun a b => le a b = true) → ys.Pairwise (fun a b => le a b = true) → xs = ys
  | [], ys, p, _, _ => (List.nil_perm.mp p).symm
  | x :: xs, [], p, _, _ => by cases List.perm_nil.mp p
  | x :: xs, y :: ys, p, h1, h2 => by
    have hxy : x = y := by
      have hx : x ∈ y :: ys := p.mem_iff.mp List.mem_cons_self
      have hy : y ∈ x :: xs := p.mem_iff.mpr List.mem_cons_self
      rcases List.mem_cons.mp hx with e | hx
      · exact e
      · rcases List.mem_cons.mp hy with e | hy
        · exact e.symm
        · exact anti x y (List.rel_of_pairwise_cons h1 hy) (List.rel_of_pairwise_cons h2 hx)
    subst hxy
    rw [sorted_unique le anti (List.Perm.cons_inv p) (List.pairwise_cons.mp h1).2 (List.pairwise_cons.mp h2).2]
theorem risingS_pw : ∀ (p : Str) (l : List Str), PyProof.Rows.risingS p l = true → (p :: l).Pairwise fun a b => leT (tx a) (tx b) = true
  | p, [], _ => by simp
  | p, x :: r, h => by
    have h' : (!PySem.Spec.ltCps x.cps.toList p.cps.toList && PyProof.Rows.risingS x r) = true := h
    rw [Bool.and_eq_true] at h'
    have ih := risingS_pw x r h'.2
    have hpx : leT (tx p) (tx x) = true := by
      rw [PyProof.Rows.ltCps_eq] at h'
      exact h'.1
    refine List.pairwise_cons.mpr ⟨fun y hy => ?_, ih⟩
    rcases List.mem_cons.mp hy with e | e
    · rw [e]; exact hpx
    · exact leT_trans _ _ _ hpx (List.rel_of_pairwise_cons ih e)
theorem sortedS_pw : ∀ (l : List Str), PyProof.Rows.sortedS l = true → l.Pairwise fun a b => leT (tx a) (tx b) = true
  | [], _ => .nil
  | x :: r, h => risingS_pw x r h
/-- what sorted gives of texts -/
theorem sortS_eq {ls : List (List Nat)} {ys : List Str} (p : ys.Perm (ls.map S)) (s : PyProof.Rows.sortedS ys = true) : ys = (sortT ls).map S := by
  have h1 : (ys.map tx).Perm ls := by
    have := p.map tx
    rw [List.map_map] at this
    have e : (tx ∘ S : List Nat → List Nat) = id := by funext l; simp
    rw [e, List.map_id] at this
    exact this
  have h2 : (ys.map tx).Pairwise fun a b => leT a b = true := List.pairwise_map.mpr (sortedS_pw ys s)
  have h3 : ys.map tx = sortT ls := sorted_unique leT (fun a b => leT_anti) (h1.trans (sortT_perm ls).symm) h2 (sortT_pw ls)
  rw [← h3, List.map_map]
  have e : (S ∘ tx : Str → Str) = id := by funext l; exact S_tx l
  rw [e, List.map_id]
def leI (a b : Int) : Bool := decide (a ≤ b)
def sortI (l : List Int) : List Int := l.mergeSort leI
theorem sortI_perm (l : List Int) : (sortI l).Perm l := List.mergeSort_perm l leI
theorem sortI_pw (l : List Int) : (sortI l).Pairwise (· ≤ ·) := by
  have := List.pairwise_mergeSort (le := leI) (fun a b c h1 h2 => by simp only [leI, decide_eq_true_eq] at *; omega) (fun a b => by simp only [leI, Bool.or_eq_true, decide_eq_true_eq]; omega) l
  exact this.imp (fun h => of_decide_eq_true h)
theorem sortI_eq {ns ms : List Int} (p : ms.Perm ns) (s : ms.Pairwise (· ≤ ·)) : ms = sortI ns :=
  sorted_unique leI (fun a b h1 h2 => by simp only [leI, decide_eq_true_eq] at *; omega) (p.trans (sortI_perm ns).symm) (s.imp fun h => decide_eq_true h) ((sortI_pw ns).imp fun h => decide_eq_true h)

/-! ### subscripts and slices -/
def tSub (K : PySem.W.Frag) (ta tb : TE) : TE := tOr2 (tOp (rIx K) ta tb) (tDGet ta tb)
def rSlG (K : PySem.W.Frag) : V → Option Int → Option Int → Hp → VK → Prop := fun x lo hi H Q => rSlL K x lo hi H Q ∨ (rSlT K x lo hi H Q ∨ rSlS x lo hi H Q)
section
variable {X : Cx} {a b : Expr} {ta tb : TE} {pos : Pos}
theorem pe_sub (hu : X.A.units + 1 < cLine) (ha : PE X a ta) (hb : PE X b tb) (h1 : PlainIx b) (h2 : NoSl b) : PE X (.Subscript a b pos) (tSub X.K ta tb) := pe_or2 (pe_ix ix_seq ha hb h1) (pe_dget hu ha hb h2)
theorem sl_G : SlR X (rSlG X.K) := sl_list.or (sl_tup.or sl_str)
end
def cutL {α : Type} (xs : List α) (lo hi : Option Int) : List α := (xs.drop (HT.sIx xs.length 0 lo)).take (HT.sIx xs.length xs.length hi - HT.sIx xs.length 0 lo)
section
variable {K : PySem.W.Frag} {T : List (Addr × Str)} {ρ : Env'} {ta tb te tx' : TE} {a b c d : D} {ds es : List D} {i j : Int} {l m : List Nat} {lo hi : Option Int} {kvs : List (Key × D)} {k : Key}
theorem RpA.at {G : Hp} {vs : List V} (r : RpA K G vs ds) (h : atI ds i = some d) : ∃ v, atI vs i = some v ∧ Rp K G v d := by
  unfold atI at h ⊢
  rw [r.length]
  cases e : ixN ds.length i with
  | none => rw [e] at h; cases h
  | some j => rw [e] at h; exact r.get h
theorem o_ixL (h : atI ds i = some d) : Op2 K T (rIx K) (.lst ds) (.int i) d := fun G H x y k t r1 r2 Q q => by
  cases r1 with
  | lst h1 q1 =>
    cases r2
    obtain ⟨v, h2, h3⟩ := q1.at h
    exact .inl ⟨_, _, i, v, rfl, rfl, SqL.of (k _ _ h1).1, h2, q v G H (nx_here k) h3⟩
theorem o_ixT (h : atI ds i = some d) : Op2 K T (rIx K) (.tup ds) (.int i) d := fun G H x y k t r1 r2 Q q => by
  cases r1 with
  | tup h1 q1 =>
    cases r2
    obtain ⟨v, h2, h3⟩ := q1.at h
    exact .inr (.inl ⟨_, _, i, v, rfl, rfl, kn_t k h1, h2, q v G H (nx_here k) h3⟩)
theorem o_ixS {c : Nat} (h : atI l i = some c) (hl : l.length ≤ 100000) : Op2 K T (rIx K) (.str l) (.int i) (.str [c]) := fun G H x y k t r1 r2 Q q => by
  cases r1; cases r2
  exact .inr (.inr ⟨_, i, c, rfl, rfl, by rw [S_len]; exact sz_of hl, by simpa using h, q _ G H (nx_here k) (.str [c])⟩)
theorem o_ixScr {ns : List Int} {n : Int} (h : atI ns i = some n) : Op2 K T (rIx K) (.scr ns) (.int i) (.int n) := fun G H x y k t r1 r2 Q q => by
  cases r1 with
  | scr h1 =>
    cases r2
    refine .inl ⟨_, _, i, .int n, rfl, rfl, kn_l k h1, ?_, q _ G H (nx_here k) (.int n)⟩
    unfold atI at h ⊢
    rw [List.length_map]
    cases e : ixN ns.length i with
    | none => rw [e] at h; cases h
    | some j => rw [e] at h; show (ns.map V.int)[j]? = _; rw [List.getElem?_map, show ns[j]? = some n from h]; rfl
theorem ev_ixL (ha : EvD K T ta ρ (.lst ds)) (hb : EvD K T tb ρ (.int i)) (h : atI ds i = some d) : EvD K T (tSub K ta tb) ρ d := ev_l (ev_op ha hb (o_ixL h))
theorem ev_ixT (ha : EvD K T ta ρ (.tup ds)) (hb : EvD K T tb ρ (.int i)) (h : atI ds i = some d) : EvD K T (tSub K ta tb) ρ d := ev_l (ev_op ha hb (o_ixT h))
theorem ev_ixS {c : Nat} (ha : EvD K T ta ρ (.str l)) (hb : EvD K T tb ρ (.int i)) (h : atI l i = some c) (hl : l.length ≤ 100000) : EvD K T (tSub K ta tb) ρ (.str [c]) := ev_l (ev_op ha hb (o_ixS h hl))
theorem ev_ixScr {ns : List Int} {n : Int} (ha : EvD K T ta ρ (.scr ns)) (hb : EvD K T tb ρ (.int i)) (h : atI ns i = some n) : EvD K T (tSub K ta tb) ρ (.int n) := ev_l (ev_op ha hb (o_ixScr h))
theorem ev_dget' (ha : EvD K T ta ρ (.dct kvs)) (hb : EvD K T tb ρ (kD k)) (h : valD kvs k = some d) : EvD K T (tDGet ta tb) ρ d := by
  intro G0 H0 G H σ A Q q
  refine ha _ _ _ _ _ A _ fun x G1 H1 n1 r1 => ?_
  refine hb _ _ _ _ _ (A.next n1) _ fun y G2 H2 n2 r2 => ?_
  have r1' := r1.sub n2.sub
  cases r1' with
  | dct h1 r =>
    have e := r2.key
    subst e
    rcases r.val k with ⟨_, z⟩ | ⟨v, d', z1, z2, z3⟩
    · rw [h] at z; cases z
    · rw [h] at z2; cases z2
      exact ⟨_, v, rfl, .inl ⟨_, k, .inr ⟨_, (n2.kn _ _ h1).1⟩, rfl, z1.symm⟩, q v G2 H2 (n1.trans n2) z3⟩
theorem ev_dget (ha : EvD K T ta ρ (.dct kvs)) (hb : EvD K T tb ρ (kD k)) (h : valD kvs k = some d) : EvD K T (tSub K ta tb) ρ d := ev_r (ev_dget' ha hb h)
/-- d.get(k, x) -/
theorem ev_dget2 (ha : EvD K T ta ρ (.dct kvs)) (hb : EvD K T tb ρ (kD k)) (hx : EvD K T te ρ c) : EvD K T (tDGet2 ta tb te) ρ ((valD kvs k).getD c) := by
  intro G0 H0 G H σ A Q q
  refine ha _ _ _ _ _ A _ fun x G1 H1 n1 r1 => ?_
  cases r1 with
  | dct h1 r =>
    refine ⟨_, rfl, .inl ⟨_, .inr ⟨_, (n1.kn _ _ h1).1⟩⟩, ?_⟩
    refine hb _ _ _ _ _ (A.next n1) _ fun y G2 H2 n2 r2 => ?_
    refine hx _ _ _ _ _ ((A.next n1).next n2) _ fun z G3 H3 n3 r3 => ?_
    have e := r2.key
    subst e
    have s := (n2.trans n3).sub
    refine ⟨_, .inl ⟨_, k, .inr ⟨_, (n3.kn _ _ (s _ _ h1)).1⟩, rfl, rfl⟩, ?_⟩
    rcases r.val k with ⟨z1, z2⟩ | ⟨v, d', z1, z2, z3⟩
    · rw [z1]; rw [z2] at q; exact q _ G3 H3 ((n1.trans n2).trans n3) r3
    · rw [z1]; rw [z2] at q; exact q _ G3 H3 ((n1.trans n2).trans n3) (z3.sub s)
/-- .. of an owned dict -/
theorem ev_dgetO {i : Nat} (ho : ρ[i]? = some (some (.od kvs))) (hb : EvD K T tb ρ (kD k)) (hx : EvD K T te ρ c) : EvD K T (tDGet2 (tVar i) tb te) ρ ((valD kvs k).getD c) := by
  intro G0 H0 G H σ A Q q
  obtain ⟨p, xs, e1, e2, e3, e4, e5⟩ := A.od i kvs ho
  refine ⟨.ref p, e1, p, rfl, .inl ⟨_, .inl e2⟩, ?_⟩
  refine hb _ _ _ _ _ A _ fun y G2 H2 n2 r2 => ?_
  refine hx _ _ _ _ _ (A.next n2) _ fun z G3 H3 n3 r3 => ?_
  have e := r2.key
  subst e
  have n23 := n2.trans n3
  refine ⟨_, .inl ⟨xs, k, .inl (n23.ex.keep _ _ e2 (fun _ z => nomatch z)), rfl, rfl⟩, ?_⟩
  rcases e3.val k with ⟨z1, z2⟩ | ⟨v, d', z1, z2, z3⟩
  · rw [z1]; rw [z2] at q; exact q _ G3 H3 n23 r3
  · rw [z1]; rw [z2] at q; exact q _ G3 H3 n23 (z3.sub n23.sub)
def putD (kvs : List (Key × D)) (k : Key) (v : D) : List (Key × D) := if (kvs.any fun kv => decide (kv.1 = k)) = true then kvs.map (fun kv => if kv.1 = k then (kv.1, v) else kv) else kvs ++ [(k, v)]
theorem RpK.put {G : Hp} {vs : List (Key × V)} {v : V} (r : RpK K G vs kvs) (h : Rp K G v d) : RpK K G (putK vs k v) (putD kvs k d) := by
  have e : (vs.any fun kv => decide (kv.1 = k)) = (kvs.any fun kv => decide (kv.1 = k)) := by
    clear h
    induction vs generalizing kvs with
    | nil => cases r; rfl
    | cons v vs ih => cases r with | cons h r => simp only [List.any_cons]; rw [ih r]
  unfold putK putD
  rw [e]
  by_cases c : (kvs.any fun kv => decide (kv.1 = k)) = true
  · rw [if_pos c, if_pos c]
    clear e c
    induction vs generalizing kvs with
    | nil => cases r; exact .nil
    | cons v vs ih => cases r with
      | @cons k' v' _ d' _ h1 r =>
        simp only [List.map_cons]
        by_cases e : k' = k
        · simp only [e, if_true]; exact .cons h (ih r)
        · simp only [e, if_false]; exact .cons h1 (ih r)
  · rw [if_neg c, if_neg c]
    clear e c
    induction vs generalizing kvs with
    | nil => cases r; exact .cons h .nil
    | cons v vs ih => cases r with | cons h1 r => exact .cons h1 (ih r)
theorem es_put {E : XK} {i : Nat} (ho : ρ[i]? = some (some (.od kvs))) (hv : EvD K T te ρ d) (hb : EvD K T tb ρ (kD k)) (hl : kvs.length < 100000) : EvS K T E (sDPut (tVar i) tb te) ρ (.nx (ρ.set i (some (.od (putD kvs k d))))) := by
  intro G0 H0 G H σ D' A w
  refine hv _ _ _ _ _ A _ fun v G1 H1 n1 r1 => ?_
  have A1 := A.next n1
  obtain ⟨p, xs, e1, e2, e3, e4, e5⟩ := A1.od i kvs ho
  refine ⟨.ref p, e1, ?_⟩
  refine hb _ _ _ _ _ A1 _ fun y G2 H2 n2 r2 => ?_
  have A2 := A1.next n2
  have e := r2.key
  subst e
  have e2' := n2.ex.keep _ _ e2 (fun _ z => nomatch z)
  refine ⟨p, _, rfl, DPut.k e2' (by rw [e3.length]; exact sz_lt hl), ?_⟩
  exact w _ _ _ (A2.mutD ho e1 ((e3.sub n2.sub).put (r1.sub n2.sub))) (n1.trans n2).sub
theorem es_setL {E : XK} {i : Nat} {z : Int} {n : Nat} (ho : ρ[i]? = some (some (.ol ds))) (hv : EvD K T te ρ d) (hb : EvD K T tb ρ (.int z)) (hn : ixN ds.length z = some n) : EvS K T E (tAsg te (gSub (tVar i) tb rSetL)) ρ (.nx (ρ.set i (some (.ol (ds.set n d))))) := by
  intro G0 H0 G H σ D' A w
  refine hv _ _ _ _ _ A _ fun v G1 H1 n1 r1 => ?_
  have A1 := A.next n1
  obtain ⟨p, xs, e1, e2, e3, e4, e5⟩ := A1.ol i ds ho
  refine ⟨.ref p, e1, ?_⟩
  refine hb _ _ _ _ _ A1 _ fun y G2 H2 n2 r2 => ?_
  have A2 := A1.next n2
  cases r2
  have e2' := n2.ex.keep _ _ e2 (fun _ z => nomatch z)
  refine ⟨p, xs, z, n, rfl, rfl, e2', by rw [e3.length]; exact hn, ?_⟩
  exact w _ _ _ (A2.mutL ho e1 ((e3.sub n2.sub).set (r1.sub n2.sub) n)) (n1.trans n2).sub
theorem RpA.cut {G : Hp} {vs : List V} (r : RpA K G vs ds) : RpA K G (cutV vs lo hi) (cutL ds lo hi) := by
  unfold cutV cutL
  rw [r.length]
  exact (r.drop _).take _
theorem s_slL : SlV K T (rSlG K) (.lst ds) lo hi (.lst (cutL ds lo hi)) := fun G H x k t r1 Q q => by
  cases r1 with
  | @lst _ xs _ h1 q1 =>
    refine .inl ⟨_, _, rfl, SqL.of (k _ _ h1).1, fun p hp => ?_⟩
    have n := Nxt.fresh (T := T) (G := G) (o := .lst (cutV xs lo hi)) k hp (fun _ z => nomatch z)
    exact q _ _ _ n (.lst upd_same (q1.cut.sub n.sub))
theorem s_slS (hl : l.length ≤ 100000) : SlV K T (rSlG K) (.str l) lo hi (.str (cutL l lo hi)) := fun G H x k t r1 Q q => by
  cases r1
  refine .inr (.inr ⟨_, rfl, by rw [S_len]; exact sz_of hl, ?_⟩)
  have e : cutS (S l) lo hi = S (cutL l lo hi) := by
    unfold cutS cutL
    rw [S_len]
  rw [e]
  exact q _ G H (nx_here k) (.str _)
theorem s_slT (h : ¬ (HT.sIx ds.length 0 lo = 0 ∧ HT.sIx ds.length ds.length hi = ds.length)) : SlV K T (rSlG K) (.tup ds) lo hi (.tup (cutL ds lo hi)) := fun G H x k t r1 Q q => by
  cases r1 with
  | @tup _ xs _ h1 q1 =>
    refine .inr (.inl ⟨_, _, rfl, kn_t k h1, by rw [q1.length]; exact h, fun p hp => ?_⟩)
    have n := Nxt.fresh (T := T) (G := G) (o := .tup (cutV xs lo hi)) k hp (fun _ z => nomatch z)
    exact q _ _ _ n (.tup (SqT.of upd_same) (q1.cut.sub n.sub))
end

/-! ### built-ins -/
section
variable {X : Cx}
def rLenD : List V → Hp → VK → Prop := fun xs H Q => ∃ a kvs, xs = [V.ref a] ∧ Rd H a (.dK kvs) ∧ Q (.int kvs.length) H
theorem call_lenDR : CallR X (.builtin "len") rLenD := by
  intro pins s σ H xs us Q I r h
  obtain ⟨a, kvs, rfl, ha, q⟩ := h
  obtain ⟨u, rfl, ru⟩ := vals1 r
  cases ru
  exact d_len I ha fun t s' I' => ⟨.int kvs.length, H, I', ⟨t, rfl⟩, q⟩
def rLen (K : PySem.W.Frag) : List V → Hp → VK → Prop := fun xs H Q => ∃ x n, xs = [x] ∧ LenV K x H n ∧ Q (.int n) H
def rLenG (K : PySem.W.Frag) : List V → Hp → VK → Prop := cOr2 (rLen K) rLenD
theorem call_lenG : CallR X (.builtin "len") (rLenG X.K) := cr_or2 call_len call_lenDR
/-- min, max of two ints; of a tuple or list of ints -/
def rMin2 : List V → Hp → VK → Prop := fun xs H Q => ∃ i j, xs = [.int i, .int j] ∧ Q (.int (if j < i then j else i)) H
def rMax2 : List V → Hp → VK → Prop := fun xs H Q => ∃ i j, xs = [.int i, .int j] ∧ Q (.int (if j > i then j else i)) H
def rMinP (K : PySem.W.Frag) : List V → Hp → VK → Prop := fun xs H Q => ∃ a i j, xs = [.ref a] ∧ SqT K H a [.int i, .int j] ∧ Q (.int (if j < i then j else i)) H
def rMaxP (K : PySem.W.Frag) : List V → Hp → VK → Prop := fun xs H Q => ∃ a i j, xs = [.ref a] ∧ SqT K H a [.int i, .int j] ∧ Q (.int (if i < j then j else i)) H
theorem call_minP (hc : X.calm = true) (hu : X.A.units + 64 < cLine) : CallR X (.builtin "min") (rMinP X.K) := by
  intro pins s σ H xs us Q I r h
  obtain ⟨a, i, j, rfl, ha, q⟩ := h
  rw [Vals.ref1 r]
  obtain ⟨its, rv, ⟨o, ho, hcl, n, hd⟩, _⟩ := I.tuple ha
  have dp : DpAll X.K H [V.int i, V.int j] [PyData.int i, PyData.int j] := .cons (.int i) (.cons (.int j) .nil)
  obtain ⟨as, hr⟩ := Dp.readsAll I _ _ its dp rv
  refine PySem.W.min_tuple_data (I.ok.hd hc) (vs := its.toArray) ⟨o, ho, hcl, n, hd⟩ (by simpa using hr) ⟨?_, ?_⟩ ?_ fun i' v h' tk bs hv hrd hk => ?_
  · intro x hx y hy
    simp only [List.mem_cons, List.not_mem_nil, or_false] at hx hy
    rcases hx with rfl | rfl <;> rcases hy with rfl | rfl <;> rfl
  · intro x hx
    simp only [List.mem_cons, List.not_mem_nil, or_false] at hx
    rcases hx with rfl | rfl <;> exact fun z => nomatch z
  · simp [PyData.depthAll, PyData.depth]; omega
  · have e : PySem.W.minD (.int i) [.int j] = .int (if j < i then j else i) := by
      unfold PySem.W.minD
      simp only [List.foldl_cons, List.foldl_nil, PySem.W.dataLt_int]
      by_cases hj : j < i <;> simp [hj]
    rw [e] at hrd
    cases hrd with
    | int _ t => exact ⟨.int _, H, I.kept hk, ⟨_, rfl⟩, q⟩
theorem call_maxP (hc : X.calm = true) (hu : X.A.units + 64 < cLine) : CallR X (.builtin "max") (rMaxP X.K) := by
  intro pins s σ H xs us Q I r h
  obtain ⟨a, i, j, rfl, ha, q⟩ := h
  rw [Vals.ref1 r]
  obtain ⟨its, rv, ⟨o, ho, hcl, n, hd⟩, _⟩ := I.tuple ha
  have dp : DpAll X.K H [V.int i, V.int j] [PyData.int i, PyData.int j] := .cons (.int i) (.cons (.int j) .nil)
  obtain ⟨as, hr⟩ := Dp.readsAll I _ _ its dp rv
  refine PySem.W.max_tuple_data (I.ok.hd hc) (vs := its.toArray) ⟨o, ho, hcl, n, hd⟩ (by simpa using hr) ⟨?_, ?_⟩ ?_ fun i' v h' tk bs hv hrd hk => ?_
  · intro x hx y hy
    simp only [List.mem_cons, List.not_mem_nil, or_false] at hx hy
    rcases hx with rfl | rfl <;> rcases hy with rfl | rfl <;> rfl
  · intro x hx
    simp only [List.mem_cons, List.not_mem_nil, or_false] at hx
    rcases hx with rfl | rfl <;> exact fun z => nomatch z
  · simp [PyData.depthAll, PyData.depth]; omega
  · have e : PySem.W.maxD (.int i) [.int j] = .int (if i < j then j else i) := by
      unfold PySem.W.maxD
      simp only [List.foldl_cons, List.foldl_nil, PySem.W.dataLt_int]
      by_cases hj : i < j <;> simp [hj]
    rw [e] at hrd
    cases hrd with
    | int _ t => exact ⟨.int _, H, I.kept hk, ⟨_, rfl⟩, q⟩
def rMinG (K : PySem.W.Frag) : List V → Hp → VK → Prop := cOr2 rMin2 (rMinP K)
def rMaxG (K : PySem.W.Frag) : List V → Hp → VK → Prop := cOr2 rMax2 (rMaxP K)
theorem call_minG (hc : X.calm = true) (hu : X.A.units + 64 < cLine) : CallR X (.builtin "min") (rMinG X.K) := cr_or2 (call_min2 hc) (call_minP hc hu)
theorem call_maxG (hc : X.calm = true) (hu : X.A.units + 64 < cLine) : CallR X (.builtin "max") (rMaxG X.K) := cr_or2 (call_max2 hc) (call_maxP hc hu)
def rSrtDS : List V → Hp → VK → Prop := fun xs H Q => ∃ (a : Addr) (kvs : List (Key × V)) (ks : List Str), xs = [.ref a] ∧ Rd H a (.dK kvs) ∧ kvs.map (·.1) = ks.map Sum.inr ∧ ks.length < 64 ∧ ∀ ys p, ys.Perm ks → PyProof.Rows.sortedS ys = true → H p = none → Q (.ref p) (upd H p (.lst (ys.map V.str)))
def rSrtDI : List V → Hp → VK → Prop := fun xs H Q => ∃ (a : Addr) (kvs : List (Key × V)) (ks : List Int), xs = [.ref a] ∧ Rd H a (.dK kvs) ∧ kvs.map (·.1) = ks.map Sum.inl ∧ ks.length < 64 ∧ ∀ (ys : List Int) (p : Addr), ys.Perm ks → ys.Pairwise (· ≤ ·) → H p = none → Q (.ref p) (upd H p (.lst (ys.map V.int)))
def rSrtG (K : PySem.W.Frag) : List V → Hp → VK → Prop := cOr2 (rSortedS K) (cOr2 (rSortedI K) (cOr2 rSrtDS rSrtDI))
theorem call_srtG (hc : X.calm = true) : CallR X (.builtin "sorted") (rSrtG X.K) := cr_or2 cr_sortedS (cr_or2 cr_sortedI (cr_or2 (call_sortedD hc) (call_sortedDI hc)))
def rListDR : List V → Hp → VK → Prop := fun xs H Q => ∃ (a : Addr) (kvs : List (Key × V)), xs = [.ref a] ∧ Rd H a (.dK kvs) ∧ ∀ p, H p = none → Q (.ref p) (upd H p (.lst (kvs.map fun kv => kV kv.1)))
def rListL (K : PySem.W.Frag) : List V → Hp → VK → Prop := fun xs H Q => ∃ p ys, xs = [.ref p] ∧ (SqL K H p ys ∨ SqT K H p ys) ∧ ∀ l, H l = none → Q (.ref l) (upd H l (.lst ys))
def rListG (K : PySem.W.Frag) : List V → Hp → VK → Prop := cOr2 rListDR (rListL K)
theorem call_listG (hc : X.calm = true) : CallR X (.type "list") (rListG X.K) := cr_or2 (call_listD hc) call_list_of
end
section
variable {K : PySem.W.Frag} {T : List (Addr × Str)} {ds : List D} {l : List Nat} {kvs : List (Key × D)} {i j : Int}
theorem c_lenS (hl : l.length ≤ 100000) : Cl K T (rLenG K) [.str l] (.int l.length) := c_l fun G H vs k t r Q q => by
  cases r with | cons h r => cases r; cases h; exact ⟨_, _, rfl, ⟨by rw [S_len]; exact sz_of hl, rfl⟩, by rw [S_len]; exact q _ G H (nx_here k) (.int _)⟩
theorem c_lenL : Cl K T (rLenG K) [.lst ds] (.int ds.length) := c_l fun G H vs k t r Q q => by
  cases r with | cons h r => cases r; cases h with | lst h1 q1 => exact ⟨_, _, rfl, .inl ⟨_, SqL.of (k _ _ h1).1, rfl⟩, by rw [q1.length]; exact q _ G H (nx_here k) (.int _)⟩
theorem c_lenT : Cl K T (rLenG K) [.tup ds] (.int ds.length) := c_l fun G H vs k t r Q q => by
  cases r with | cons h r => cases r; cases h with | tup h1 q1 => exact ⟨_, _, rfl, .inr ⟨_, kn_t k h1, rfl⟩, by rw [q1.length]; exact q _ G H (nx_here k) (.int _)⟩
theorem c_lenScr {ns : List Int} : Cl K T (rLenG K) [.scr ns] (.int ns.length) := c_l fun G H vs k t r Q q => by
  cases r with | cons h r => cases r; cases h with | scr h1 => exact ⟨_, _, rfl, .inl ⟨_, kn_l k h1, rfl⟩, by rw [List.length_map]; exact q _ G H (nx_here k) (.int _)⟩
theorem c_lenD : Cl K T (rLenG K) [.dct kvs] (.int kvs.length) := c_r fun G H vs k t r Q q => by
  cases r with | cons h r => cases r; cases h with | dct h1 q1 => exact ⟨_, _, rfl, .inr ⟨_, (k _ _ h1).1⟩, by rw [q1.length]; exact q _ G H (nx_here k) (.int _)⟩
theorem c_min2 : Cl K T (rMinG K) [.int i, .int j] (.int (min i j)) := c_l fun G H vs k t r Q q => by
  cases r with | cons h r => cases r with | cons h' r => cases r; cases h; cases h'; exact ⟨i, j, rfl, by
    have e : (if j < i then j else i) = min i j := by omega
    rw [e]; exact q _ G H (nx_here k) (.int _)⟩
theorem c_max2 : Cl K T (rMaxG K) [.int i, .int j] (.int (max i j)) := c_l fun G H vs k t r Q q => by
  cases r with | cons h r => cases r with | cons h' r => cases r; cases h; cases h'; exact ⟨i, j, rfl, by
    have e : (if j > i then j else i) = max i j := by omega
    rw [e]; exact q _ G H (nx_here k) (.int _)⟩
theorem rpa2 {G : Hp} {vs : List V} (r : RpA K G vs [.int i, .int j]) : vs = [.int i, .int j] := by
  cases r with | cons h r => cases r with | cons h' r => cases r; cases h; cases h'; rfl
theorem c_minP : Cl K T (rMinG K) [.tup [.int i, .int j]] (.int (min i j)) := c_r fun G H vs k t r Q q => by
  cases r with | cons h r => cases r; cases h with | tup h1 q1 => rw [rpa2 q1] at h1; exact ⟨_, i, j, rfl, kn_t k h1, by
    have e : (if j < i then j else i) = min i j := by omega
    rw [e]; exact q _ G H (nx_here k) (.int _)⟩
theorem c_maxP : Cl K T (rMaxG K) [.tup [.int i, .int j]] (.int (max i j)) := c_r fun G H vs k t r Q q => by
  cases r with | cons h r => cases r; cases h with | tup h1 q1 => rw [rpa2 q1] at h1; exact ⟨_, i, j, rfl, kn_t k h1, by
    have e : (if i < j then j else i) = max i j := by omega
    rw [e]; exact q _ G H (nx_here k) (.int _)⟩
theorem c_sum {ns : List Int} : Cl K T (rSum K) [.lst (ns.map D.int)] (.int ns.sum) := fun G H vs k t r Q q => by
  cases r with | cons h r => cases r; cases h with | lst h1 q1 => rw [q1.of_ints] at h1; exact ⟨_, ns, rfl, SqL.of (k _ _ h1).1, q _ G H (nx_here k) (.int _)⟩
theorem c_all {bs : List Bool} : Cl K T (rAll K) [.lst (bs.map D.bl)] (.bl (bs.all id)) := fun G H vs k t r Q q => by
  cases r with | cons h r => cases r; cases h with | lst h1 q1 => rw [q1.of_bls] at h1; exact ⟨_, bs, rfl, SqL.of (k _ _ h1).1, q _ G H (nx_here k) (.bl _)⟩
theorem c_any {bs : List Bool} : Cl K T (rAny K) [.lst (bs.map D.bl)] (.bl (bs.any id)) := fun G H vs k t r Q q => by
  cases r with | cons h r => cases r; cases h with | lst h1 q1 => rw [q1.of_bls] at h1; exact ⟨_, bs, rfl, SqL.of (k _ _ h1).1, q _ G H (nx_here k) (.bl _)⟩
theorem c_srtS {ls : List (List Nat)} (h64 : ls.length < 64) : Cl K T (rSrtG K) [.lst (ls.map D.str)] (.lst ((sortT ls).map D.str)) := c_l fun G H vs k t r Q q => by
  cases r with | cons h r => cases r; cases h with | lst h1 q1 =>
    rw [q1.of_strs] at h1
    refine ⟨_, ls.map S, rfl, SqL.of (k _ _ h1).1, by rw [List.length_map]; exact h64, fun ys p hp hs hn => ?_⟩
    have e := sortS_eq hp hs
    subst e
    have n := Nxt.fresh (T := T) (G := G) (o := .lst (((sortT ls).map S).map V.str)) k hn (fun _ z => nomatch z)
    exact q _ _ _ n (.lst upd_same (RpA.strs _))
theorem c_srtI {ns : List Int} : Cl K T (rSrtG K) [.lst (ns.map D.int)] (.lst ((sortI ns).map D.int)) := c_r (c_l fun G H vs k t r Q q => by
  cases r with | cons h r => cases r; cases h with | lst h1 q1 =>
    rw [q1.of_ints] at h1
    refine ⟨_, ns, rfl, SqL.of (k _ _ h1).1, fun ys p hp hs hn => ?_⟩
    have e := sortI_eq hp hs
    subst e
    have n := Nxt.fresh (T := T) (G := G) (o := .lst ((sortI ns).map V.int)) k hn (fun _ z => nomatch z)
    exact q _ _ _ n (.lst upd_same (RpA.ints _)))
theorem c_srtDS {ks : List (List Nat)} (hk : kvs.map (·.1) = ks.map fun l => Sum.inr (S l)) (h64 : ks.length < 64) : Cl K T (rSrtG K) [.dct kvs] (.lst ((sortT ks).map D.str)) := c_r (c_r (c_l fun G H vs k t r Q q => by
  cases r with | cons h r => cases r; cases h with | dct h1 q1 =>
    refine ⟨_, _, ks.map S, rfl, .inr ⟨_, (k _ _ h1).1⟩, by rw [q1.keys, hk, List.map_map]; rfl, by rw [List.length_map]; exact h64, fun ys p hp hs hn => ?_⟩
    have e := sortS_eq hp hs
    subst e
    have n := Nxt.fresh (T := T) (G := G) (o := .lst (((sortT ks).map S).map V.str)) k hn (fun _ z => nomatch z)
    exact q _ _ _ n (.lst upd_same (RpA.strs _))))
theorem c_srtDI {ks : List Int} (hk : kvs.map (·.1) = ks.map Sum.inl) (h64 : ks.length < 64) : Cl K T (rSrtG K) [.dct kvs] (.lst ((sortI ks).map D.int)) := c_r (c_r (c_r fun G H vs k t r Q q => by
  cases r with | cons h r => cases r; cases h with | dct h1 q1 =>
    refine ⟨_, _, ks, rfl, .inr ⟨_, (k _ _ h1).1⟩, by rw [q1.keys, hk], h64, fun ys p hp hs hn => ?_⟩
    have e := sortI_eq hp hs
    subst e
    have n := Nxt.fresh (T := T) (G := G) (o := .lst ((sortI ks).map V.int)) k hn (fun _ z => nomatch z)
    exact q _ _ _ n (.lst upd_same (RpA.ints _))))
theorem rpa_keys (K : PySem.W.Frag) (G : Hp) : ∀ ks : List Key, RpA K G (ks.map kV) (ks.map kD)
  | [] => .nil
  | k :: ks => .cons (kD_rp K G k) (rpa_keys K G ks)
theorem c_listD : Cl K T (rListG K) [.dct kvs] (.lst (kvs.map fun kv => kD kv.1)) := c_l fun G H vs k t r Q q => by
  cases r with | cons h r => cases r; cases h with | @dct _ _ xs _ h1 q1 =>
    refine ⟨_, _, rfl, .inr ⟨_, (k _ _ h1).1⟩, fun p hn => ?_⟩
    have n := Nxt.fresh (T := T) (G := G) (o := .lst (xs.map fun kv => kV kv.1)) k hn (fun _ z => nomatch z)
    refine q _ _ _ n (.lst upd_same ?_)
    have := rpa_keys K (upd G p (.lst (xs.map fun kv => kV kv.1))) (xs.map (·.1))
    rw [List.map_map] at this
    have e : (xs.map (·.1)).map kD = kvs.map fun kv => kD kv.1 := by rw [q1.keys, List.map_map]; rfl
    rw [e] at this
    exact this
theorem c_listL : Cl K T (rListG K) [.lst ds] (.lst ds) := c_r fun G H vs k t r Q q => by
  cases r with | cons h r => cases r; cases h with | @lst _ xs _ h1 q1 =>
    refine ⟨_, _, rfl, .inl (SqL.of (k _ _ h1).1), fun p hn => ?_⟩
    have n := Nxt.fresh (T := T) (G := G) (o := .lst xs) k hn (fun _ z => nomatch z)
    exact q _ _ _ n (.lst upd_same (q1.sub n.sub))
/-! isinstance -/
def tyD : D → String
  | .non => "NoneType" | .bl _ => "bool" | .int _ => "int" | .str _ => "str" | .lst _ => "list" | .tup _ => "tuple" | .dct _ => "dict" | .scr _ => "list" | .raw _ => ""
theorem ty_of {G H : Hp} {v : V} {d : D} (k : Kn G H) (h : Rp K G v d) (hr : ∀ w, d ≠ .raw w) (hs : ∀ ns, d ≠ .scr ns) : TyX K H v (.type (tyD d)) := by
  cases h with
  | non => exact .base .non
  | bl => exact .base (.bl _)
  | int => exact .base (.int _)
  | str => exact .base (.str _)
  | lst h r => exact .base (.lst (k _ _ h).1)
  | tup h r =>
    rcases h with (h | ⟨o, h⟩) | ⟨o, its, n, hk, hc, _⟩
    · exact .base (.tup (k _ _ h).1)
    · exact .fTuple (k _ _ h).1
    · exact .kTuple hk hc
  | dct h r => exact .fDict (k _ _ h).1
  | scr => exact absurd rfl (hs _)
  | raw => exact absurd rfl (hr _)
theorem c_isi {d : D} {n : String} {b : Bool} (hk : kitB (tyD d) n = some b) (hr : ∀ w, d ≠ .raw w := by intro _ z; cases z) (hs : ∀ ns, d ≠ .scr ns := by intro _ z; cases z) : Cl K T (rIsi K) [d, .raw (.ty n)] (.bl b) := fun G H vs k t r Q q => by
  cases r with | cons h r => cases r with | cons h' r => cases r; cases h'; exact ⟨_, _, _, _, b, rfl, .ty n, ty_of k h hr hs, kit_ty hk, q _ G H (nx_here k) (.bl b)⟩
end

/-! ### walks -/
def iAny (K : PySem.W.Frag) (t : TE) : TI := iOr2 (iList K t) (iOr2 (iTup K t) (iOr2 (iKeys t) (iStr t)))
theorem pi_any {X : Cx} {tg e : Expr} {t : TE} (h : PE X e t) : PI X tg e (iAny X.K t) := pi_or2 (pi_list h) (pi_or2 (pi_tup h) (pi_or2 (pi_keys h) (pi_str h)))
section
variable {K : PySem.W.Frag} {T : List (Addr × Str)} {ρ : Env'} {te : TE} {ta : TA} {ds es : List D} {l : List Nat} {kvs : List (Key × D)}
theorem sql_fun {G : Hp} {a : Addr} {xs ys : List V} (h : G a = some (.lst xs)) : SqL K G a ys → K.lookup a = none → ys = xs := fun q n => by
  rcases q with (q | ⟨o, q⟩) | ⟨o, _, _, q, _⟩
  · rw [h] at q; cases q; rfl
  · rw [h] at q; cases q
  · rw [n] at q; cases q
theorem ei_list (h : EvD K T te ρ (.lst ds)) : EvI K T (iAny K te) ρ ds := ei_l fun G0 H0 G H σ A R q => h _ _ _ _ _ A _ fun v G' H' n r => by
  cases r with
  | @lst a xs _ h1 r1 =>
    refine ⟨a, rfl, ⟨xs, SqL.of (n.kn _ _ h1).1⟩, q _ G' H' n ⟨fun i G2 H2 s k hi => ?_, fun G2 H2 s k => ?_, fun i G2 H2 x H3 d s k y hd => ?_⟩⟩
    · have hi' : i < xs.length := by rw [r1.length]; exact hi
      exact ⟨xs, xs[i], SqL.of (k _ _ (s _ _ h1)).1, List.getElem?_eq_getElem hi'⟩
    · exact ⟨xs, SqL.of (k _ _ (s _ _ h1)).1, by rw [r1.length]; exact Nat.le_refl _⟩
    · obtain ⟨rfl, y⟩ := y
      have e := y xs (SqL.of (k _ _ (s _ _ h1)).1)
      obtain ⟨d', z1, z2⟩ := r1.get' e
      rw [hd] at z1; cases z1
      exact ⟨G2, Nxt.refl k, z2.sub s⟩
theorem ei_tup (h : EvD K T te ρ (.tup ds)) : EvI K T (iAny K te) ρ ds := ei_r (ei_l fun G0 H0 G H σ A R q => h _ _ _ _ _ A _ fun v G' H' n r => by
  cases r with
  | @tup a xs _ h1 r1 =>
    refine ⟨a, rfl, ⟨xs, kn_t n.kn h1⟩, q _ G' H' n ⟨fun i G2 H2 s k hi => ?_, fun G2 H2 s k => ?_, fun i G2 H2 x H3 d s k y hd => ?_⟩⟩
    · have hi' : i < xs.length := by rw [r1.length]; exact hi
      exact ⟨xs, xs[i], kn_t k (sub_t s h1), List.getElem?_eq_getElem hi'⟩
    · exact ⟨xs, kn_t k (sub_t s h1), by rw [r1.length]; exact Nat.le_refl _⟩
    · obtain ⟨rfl, y⟩ := y
      have e := y xs (kn_t k (sub_t s h1))
      obtain ⟨d', z1, z2⟩ := r1.get' e
      rw [hd] at z1; cases z1
      exact ⟨G2, Nxt.refl k, z2.sub s⟩)
theorem ei_dict (h : EvD K T te ρ (.dct kvs)) : EvI K T (iAny K te) ρ (kvs.map fun kv => kD kv.1) := ei_r (ei_r (ei_l fun G0 H0 G H σ A R q => h _ _ _ _ _ A _ fun v G' H' n r => by
  cases r with
  | @dct a o xs _ h1 r1 =>
    refine ⟨a, o, rfl, .inl ⟨xs, (n.kn _ _ h1).1, q _ G' H' n ⟨fun i G2 H2 s k hi => ?_, fun G2 H2 s k => ?_, fun i G2 H2 x H3 d s k y hd => ?_⟩⟩⟩
    · exact ⟨(k _ _ (s _ _ h1)).1, by rw [r1.length]; simpa using hi⟩
    · exact ⟨(k _ _ (s _ _ h1)).1, by rw [r1.length]; simp⟩
    · obtain ⟨rfl, k', v', e, rfl⟩ := y
      have e2 : (xs.map (·.1))[i]? = some k' := by rw [List.getElem?_map, e]; rfl
      rw [r1.keys, List.getElem?_map] at e2
      rw [List.getElem?_map] at hd
      cases z : kvs[i]? with
      | none => rw [z] at e2; cases e2
      | some kv =>
        rw [z] at e2 hd
        simp only [Option.map_some, Option.some.injEq] at e2 hd
        subst e2; subst hd
        exact ⟨G2, Nxt.refl k, kD_rp K G2 _⟩))
theorem ei_str (h : EvD K T te ρ (.str l)) : EvI K T (iAny K te) ρ (l.map fun c => .str [c]) := ei_r (ei_r (ei_r fun G0 H0 G H σ A R q => h _ _ _ _ _ A _ fun v G' H' n r => by
  cases r with
  | str =>
    refine ⟨_, rfl, q _ G' H' n ⟨fun i G2 H2 s k hi => ?_, fun G2 H2 s k => ?_, fun i G2 H2 x H3 d s k y hd => ?_⟩⟩
    · show i < l.toArray.size
      simpa using hi
    · show l.toArray.size ≤ _
      simp
    · obtain ⟨rfl, c, e, rfl⟩ := y
      have e' : l[i]? = some c := by simpa using e
      rw [List.getElem?_map, e'] at hd
      cases hd
      exact ⟨G2, Nxt.refl k, .str [c]⟩))
theorem ei_range1 {n : Int} (h : EvA K T ta ρ [.int n]) (h1 : -100000 ≤ n) (h2 : n ≤ 100000) : EvI K T (iRng1 ta) ρ ((List.range n.toNat).map fun i => .int (i : Nat)) := fun G0 H0 G H σ A R q => h _ _ _ _ _ A _ fun vs G' H' nx r => by
  cases r with | cons h r => cases r; cases h with
  | int =>
    refine ⟨n, rfl, by omega, by omega, q _ G' H' nx ⟨fun i G2 H2 s k hi => ?_, fun G2 H2 s k => ?_, fun i G2 H2 x H3 d s k y hd => ?_⟩⟩
    · show i < n.toNat
      simpa using hi
    · show n.toNat ≤ _
      simp
    · obtain ⟨rfl, rfl⟩ := y
      rw [List.getElem?_map] at hd
      cases z : (List.range n.toNat)[i]? with
      | none => rw [z] at hd; cases hd
      | some kv =>
        rw [z] at hd
        cases hd
        obtain ⟨hz, e⟩ := List.getElem?_eq_some_iff.mp z
        rw [List.getElem_range] at e
        subst e
        exact ⟨G2, Nxt.refl k, by rw [Int.zero_add]; exact .int _⟩
theorem ei_range2 {lo hi : Int} (h : EvA K T ta ρ [.int lo, .int hi]) (h1 : -100000 ≤ lo ∧ lo ≤ 100000) (h2 : -100000 ≤ hi ∧ hi ≤ 100000) : EvI K T (iRng2 ta) ρ ((List.range (hi - lo).toNat).map fun i => .int (lo + (i : Nat))) := fun G0 H0 G H σ A R q => h _ _ _ _ _ A _ fun vs G' H' nx r => by
  cases r with | cons h r => cases r with | cons h' r => cases r; cases h; cases h' with
  | int =>
    refine ⟨lo, hi, rfl, ⟨by omega, by omega, by omega, by omega⟩, q _ G' H' nx ⟨fun i G2 H2 s k hi' => ?_, fun G2 H2 s k => ?_, fun i G2 H2 x H3 d s k y hd => ?_⟩⟩
    · show i < (hi - lo).toNat
      simpa using hi'
    · show (hi - lo).toNat ≤ _
      simp
    · obtain ⟨rfl, rfl⟩ := y
      rw [List.getElem?_map] at hd
      cases z : (List.range (hi - lo).toNat)[i]? with
      | none => rw [z] at hd; cases hd
      | some kv =>
        rw [z] at hd
        cases hd
        obtain ⟨hz, e⟩ := List.getElem?_eq_some_iff.mp z
        rw [List.getElem_range] at e
        subst e
        exact ⟨G2, Nxt.refl k, .int _⟩
/-- downwards by one -/
theorem ei_range3 {lo hi : Int} (h : EvA K T ta ρ [.int lo, .int hi, .int (-1)]) (h1 : -100000 ≤ lo ∧ lo ≤ 100000) (h2 : -100000 ≤ hi ∧ hi ≤ 100000) : EvI K T (iRng3 ta) ρ ((List.range (lo - hi).toNat).map fun i => .int (lo - (i : Nat))) := fun G0 H0 G H σ A R q => h _ _ _ _ _ A _ fun vs G' H' nx r => by
  cases r with | cons h r => cases r with | cons h' r => cases r with | cons h'' r => cases r; cases h; cases h'; cases h'' with
  | int =>
    refine ⟨lo, hi, -1, (lo - hi).toNat, rfl, RgC.neg (by omega) (by omega) (by omega) (by omega), q _ G' H' nx ⟨fun i G2 H2 s k hi' => ?_, fun G2 H2 s k => ?_, fun i G2 H2 x H3 d s k y hd => ?_⟩⟩
    · show i < (lo - hi).toNat
      simpa using hi'
    · show (lo - hi).toNat ≤ _
      simp
    · obtain ⟨rfl, rfl⟩ := y
      rw [List.getElem?_map] at hd
      cases z : (List.range (lo - hi).toNat)[i]? with
      | none => rw [z] at hd; cases hd
      | some kv =>
        rw [z] at hd
        cases hd
        obtain ⟨hz, e⟩ := List.getElem?_eq_some_iff.mp z
        rw [List.getElem_range] at e
        subst e
        exact ⟨G2, Nxt.refl k, by rw [show lo + (i : Int) * -1 = lo - (i : Int) by omega]; exact .int _⟩
/-- enumerate(xs): pairs, each new -/
theorem ei_enum (h : EvA K T ta ρ [.lst ds]) : EvI K T (iEnum K ta) ρ ((List.range ds.length).map fun i => .tup [.int (i : Nat), ds.getD i .non]) := fun G0 H0 G H σ A R q => h _ _ _ _ _ A _ fun vs G' H' n r => by
  cases r with | cons h r => cases r; cases h with
  | @lst a xs _ h1 r1 =>
    refine ⟨a, xs, rfl, SqL.of (n.kn _ _ h1).1, q _ G' H' n ⟨fun i G2 H2 s k hi => ?_, fun G2 H2 s k => ?_, fun i G2 H2 x H3 d s k y hd => ?_⟩⟩
    · have hi' : i < xs.length := by rw [r1.length]; simpa using hi
      exact ⟨xs, xs[i], SqL.of (k _ _ (s _ _ h1)).1, List.getElem?_eq_getElem hi'⟩
    · exact ⟨xs, SqL.of (k _ _ (s _ _ h1)).1, by rw [r1.length]; simp⟩
    · obtain ⟨t, z, rfl, ht, rfl, y⟩ := y
      have e := y xs (SqL.of (k _ _ (s _ _ h1)).1)
      obtain ⟨d', z1, z2⟩ := r1.get' e
      have hi : i < ds.length := (List.getElem?_eq_some_iff.mp z1).1
      rw [List.getElem?_map, List.getElem?_range hi] at hd
      simp only [Option.map_some, Option.some.injEq] at hd
      subst hd
      have nn := Nxt.fresh (T := T) (G := G2) (o := .tup [.int (i : Nat), z]) k ht (fun _ z => nomatch z)
      refine ⟨_, nn, .tup (SqT.of upd_same) (.cons (.int _) (.cons ?_ .nil))⟩
      rw [List.getD_eq_getElem?_getD, z1]
      exact (z2.sub s).sub nn.sub
end

/-! ### a def's promise -/
def startD (N : List Str) (ds : List D) : Env' := ds.map (fun d => some (Sl.sh d)) ++ List.replicate (N.length - ds.length) none
def EvB (K : PySem.W.Frag) (T : List (Addr × Str)) (E : XK) (t : TS) (ρ : Env') : Res → Prop
  | .ok d => EvS K T E t ρ (.rt d) ∨ (d = .non ∧ ∃ ρ', EvS K T E t ρ (.nx ρ'))
  | .xc c => EvS K T E t ρ (.xc c)
theorem at_start {K : PySem.W.Frag} {T : List (Addr × Str)} {G H : Hp} {N : List Str} {vs : List V} {ds : List D} (k : Kn G H) (tb : LamX.Tabs T H) (r : RpA K G vs ds) : At K T G H G H (start N vs) (startD N ds) := by
  have hl := r.length
  have sel : ∀ (i : Nat) (x : Sl), (startD N ds)[i]? = some (some x) → ∃ d, ds[i]? = some d ∧ x = .sh d := by
    intro i x h
    unfold startD at h
    by_cases hi : i < ds.length
    · rw [List.getElem?_append_left (by simpa using hi), List.getElem?_map, List.getElem?_eq_getElem hi] at h
      simp only [Option.map_some, Option.some.injEq] at h
      exact ⟨_, List.getElem?_eq_getElem hi, h.symm⟩
    · rw [List.getElem?_append_right (by simpa using hi)] at h
      have := List.mem_of_getElem? h
      rw [List.mem_replicate] at this
      exact nomatch this.2
  refine ⟨by simp [L2.start, startD, hl], Nxt.refl k, tb, fun i d h => ?_, fun i ds' h => ?_, fun i ds' h => ?_, fun i j p h1 h2 => ?_⟩
  · obtain ⟨d', h1, h2⟩ := sel i _ h
    cases h2
    obtain ⟨v, z1, z2⟩ := r.get h1
    refine ⟨v, ?_, z2⟩
    unfold L2.start
    have hi : i < vs.length := (List.getElem?_eq_some_iff.mp z1).1
    rw [List.getElem?_append_left (by simpa using hi), List.getElem?_map, z1]; rfl
  · obtain ⟨d', h1, h2⟩ := sel i _ h; cases h2
  · obtain ⟨d', h1, h2⟩ := sel i _ h; cases h2
  · obtain ⟨_, ⟨_, z⟩ | ⟨_, z⟩⟩ := h1
    · obtain ⟨d', _, h2⟩ := sel i _ z; cases h2
    · obtain ⟨d', _, h2⟩ := sel i _ z; cases h2
section
variable {P : Program} {w : World} {K : PySem.W.Frag} {mg : Str → Option Value} {base : Heap} {T : List (Addr × Str)}
theorem fn_ok {x qual : Str} {st : Stmt} {f : Addr} {fd : FuncData} {N ps : List Str} {k : Nat} {R : List D → Res → Prop} (F : Fun K x qual st f fd) (S : FnScope N ps (defScope st)) (len : ∀ ds r, R ds r → ds.length = ps.length)
    (body : ∀ (cdv : Value) (A : Around) (outer : List Env) (s : Shared) (H : Hp) (E : XK), Room k (A.deeper (PyProof.Rows.envOfC qual (defScope st) s.heap.objs.size f cdv)) →
      ∃ t, PSs (cxOf (L2.CX P w) P w K mg base N qual (defScope st) f cdv A outer s H E) (defBody st) t ∧ ∀ ds r, R ds r → EvB K T E t (startD N ds) r) : FnOk P w K mg base (L2.CX P w) (k + 1) f fd ps (spR K T R) := by
  refine F.okX S (fun vs H Q E h => ?_) (fun cdv A outer s H vs Q E hr h => ?_)
  · obtain ⟨G, ds, r, _, _, rp, hR, _⟩ := h
    rw [rp.length]; exact len ds r hR
  · obtain ⟨G, ds, r, kn, tb, rp, hR, post⟩ := h
    obtain ⟨t, ht, hev⟩ := body cdv A outer s H E hr
    refine ⟨t, ht, ?_⟩
    have a := at_start (N := N) kn tb rp
    have e := hev ds r hR
    cases r with
    | ok d =>
      rcases e with e | ⟨rfl, ρ', e⟩
      · exact e _ _ _ _ _ _ a post
      · exact e _ _ _ _ _ _ a fun G' H' σ' a' _ => post .non G' H' a'.nx .non
    | xc c => exact e _ _ _ _ _ _ a post
end
/-- raise of an own error -/
theorem es_raise {K : PySem.W.Frag} {T : List (Addr × Str)} {E : XK} {ρ : Env'} {C : Addr} : EvS K T E (fun _ σ H => (fun (_ : St) (H : Hp) (Q : XK) => Q (.ref C) none H) σ H fun cls d H' => (fun (cls : Value) (d : Option Addr) (_ : St) (H : Hp) => E cls d H) cls d σ H') ρ (.xc C) :=
  fun G0 H0 G H σ D' A w => w H A.nx.ex
/-- the law's end -/
def noTab (H : Hp) : Hp := fun b => match H b with
  | some (.tbl _) => none
  | o => o
theorem noTab_kn (H : Hp) : Kn (noTab H) H := fun b o h => by
  unfold noTab at h
  split at h
  · cases h
  · rename_i hn
    refine ⟨h, fun ps z => ?_⟩
    subst z
    exact hn ps h
theorem noTab_rd {H : Hp} {a : Addr} {u : HO} (h : Rd H a u) (hu : ∀ ps, u ≠ .tbl ps) : Rd (noTab H) a u := by
  rcases h with h | ⟨o, h⟩
  · refine .inl ?_
    unfold noTab
    split
    · rename_i ps e; rw [h] at e; cases e; exact absurd rfl (hu _)
    · exact h
  · refine .inr ⟨o, ?_⟩
    unfold noTab
    split
    · rename_i ps e; rw [h] at e; cases e
    · exact h
theorem noTab_l {K : PySem.W.Frag} {H : Hp} {a : Addr} {xs : List V} (h : SqL K H a xs) : SqL K (noTab H) a xs := by
  rcases h with h | h
  · exact .inl (noTab_rd h (fun _ z => nomatch z))
  · exact .inr h
end DL
/-! DL5: defs called by name; statements with two readings; the law's draws. -/
namespace DL
open PySem L2
structure Fn (P : Program) (w : World) (K : PySem.W.Frag) (mg : Str → Option Value) (base : Heap) (T : List (Addr × Str)) (k : Nat) (x : Str) (R : List D → Res → Prop) : Prop where
  ex : ∃ (f : Addr) (fd : FuncData) (ps : List Str), FnOk P w K mg base (L2.CX P w) k f fd ps (spR K T R) ∧ mg x = some (.ref f) ∧ PySem.W.keepIn K (.ref f) = true ∧ Binds K fd ps []
/-- a def as the top has left it -/
structure Df (K : PySem.W.Frag) (mg : Str → Option Value) (x : Str) (st : Stmt) : Prop where
  ex : ∃ (f : Addr) (fd : FuncData), Fun K x x st f fd ∧ mg x = some (.ref f)
section
variable {X : Cx} {T : List (Addr × Str)} {k j : Nat} {x : Str} {R : List D → Res → Prop} {E : XK} {e : Expr} {es : List Expr} {t : TA} {p pos : Pos}
theorem pe_fn (c : Fn X.prog X.w X.K X.mg X.base T k x R) (hr : Room j X.A) (hk : k ≤ j) (hg : Gl X x) (hx : Passes (L2.CX X.prog X.w) X E) (ha : PA X (e :: es) t) (hdb : (x == ("__debug__" : Str)) = false := by decide) (he : starEach (e :: es) X.env = (false, eval e X.env) :: starEach es X.env := by rfl) (hpl : (backTo pos (starEach es X.env)).any (·.1) = false := by rfl) :
    PE X (.Call (.Name x p) (e :: es) [] pos) (tCall (spR X.K T R) [] E t) := by
  obtain ⟨f, fd, ps, F, hm, hkp, b⟩ := c.ex
  exact pe_call F (hr.mono hk) hg hm hkp b .nil hx ha hdb he hpl
theorem pe_fn0 (c : Fn X.prog X.w X.K X.mg X.base T k x R) (hr : Room j X.A) (hk : k ≤ j) (hg : Gl X x) (hx : Passes (L2.CX X.prog X.w) X E) (hdb : (x == ("__debug__" : Str)) = false := by decide) :
    PE X (.Call (.Name x p) [] [] pos) (tCall (spR X.K T R) [] E tNil) := by
  obtain ⟨f, fd, ps, F, hm, hkp, b⟩ := c.ex
  exact pe_call0 F (hr.mono hk) hg hm hkp b .nil hx hdb
def sOr2 (t u : TS) : TS := fun D σ H => t D σ H ∨ u D σ H
theorem ps_or2 {st : Stmt} {t u : TS} (h : PS X st t) (h' : PS X st u) : PS X st (sOr2 t u) := ⟨fun pins s σ H D I hw => hw.elim (h.run pins s σ H D I) (h'.run pins s σ H D I)⟩
end
section
variable {K : PySem.W.Frag} {T : List (Addr × Str)} {E : XK} {ρ : Env'} {t u : TS} {o : Out}
theorem es_l (h : EvS K T E t ρ o) : EvS K T E (sOr2 t u) ρ o := fun G0 H0 G H σ D' A w => .inl (h _ _ _ _ _ _ A w)
theorem es_r (h : EvS K T E u ρ o) : EvS K T E (sOr2 t u) ρ o := fun G0 H0 G H σ D' A w => .inr (h _ _ _ _ _ _ A w)
theorem es_par3 {i j l : Nat} {ta : TA} {d1 d2 d3 : D} (h : EvA K T ta ρ [d1, d2, d3]) : EvS K T E (tPar3 i j l ta) ρ (.nx (((ρ.set i (some (.sh d1))).set j (some (.sh d2))).set l (some (.sh d3)))) := fun G0 H0 G H σ D' A w =>
  h _ _ _ _ _ A _ fun vs G' H' n r => by
    cases r with
    | cons r1 r => cases r with
      | cons r2 r => cases r with
        | cons r3 r => cases r; exact ⟨_, _, _, rfl, w G' H' _ ((((A.next n).set r1).set r2).set r3) n.sub⟩
end
section
variable {P : Program} {w : World} {K : PySem.W.Frag} {mg : Str → Option Value} {base : Heap} {T : List (Addr × Str)}
theorem mk_fn {x : Str} {st : Stmt} {N ps : List Str} {k : Nat} {R : List D → Res → Prop} (F : Df K mg x st) (S : FnScope N ps (defScope st)) (len : ∀ ds r, R ds r → ds.length = ps.length)
    (hb : ∀ (kV doc pm : Value) (an : Option Addr) (cdv ct : Value) (us : List Value), us.length = ps.length → bindArgs (PySem.W.fnOf x x (defArgs st) (defBody st) (defScope st) .none kV doc pm an cdv ct) ⟨us, []⟩ = pure (ps.zip us))
    (body : ∀ (f : Addr) (cdv : Value) (A : Around) (outer : List Env) (s : Shared) (H : Hp) (E : XK), Room k (A.deeper (PyProof.Rows.envOfC x (defScope st) s.heap.objs.size f cdv)) →
      ∃ t, PSs (cxOf (L2.CX P w) P w K mg base N x (defScope st) f cdv A outer s H E) (defBody st) t ∧ ∀ ds r, R ds r → EvB K T E t (startD N ds) r) : Fn P w K mg base T (k + 1) x R := by
  obtain ⟨f, fd, F, hm⟩ := F.ex
  exact ⟨f, fd, ps, fn_ok F S len fun cdv A outer s H E hr => body f cdv A outer s H E hr, hm, F.kp, F.binds hb⟩
end
/-- what is raised passes -/
theorem pcall {X : Cx} {W : WX} {E : XK} (tk : Takes X W) (hW : ∀ cls d σ H, E cls d H → W cls d σ H) : Passes (L2.CX X.prog X.w) X E := passes_call tk hW
/-! ### the same rules with the written part named -/
section
variable {X : Cx} {K : PySem.W.Frag} {a b e o i : Expr} {es : List Expr} {ta tb te td ti to : TE} {t : TA} {pos p cpos apos tpos : Pos} {tg : Expr}
theorem pe_gcn {x : Str} {v : V} (hg : Gl X x) (h : ∃ u, X.mg x = some u ∧ RelV v u) (hd : (x == ("__debug__" : Str)) = false := by decide) : PE X (.Name x pos) (tC v) := by
  obtain ⟨u, hm, r⟩ := h
  exact pe_glob hg hm r hd
theorem k_eq (hK : X.K = K) (hu : X.A.units + 64 < cLine) : OpR X (compareOp .Eq) (rEqD K) := hK ▸ op_eqD hu
theorem k_ne (hK : X.K = K) (hu : X.A.units + 64 < cLine) : OpR X (compareOp .NotEq) (rNeD K) := hK ▸ op_neD hu
theorem k_in (hK : X.K = K) (hu : X.A.units + 1 < cLine) : OpR X (compareOp .In) (rInG K) := hK ▸ op_inG hu
theorem k_notIn (hK : X.K = K) (hu : X.A.units + 1 < cLine) : OpR X (compareOp .NotIn) (rNotInG K) := hK ▸ op_notInG hu
theorem k_sub (hK : X.K = K) (hu : X.A.units + 1 < cLine) (ha : PE X a ta) (hb : PE X b tb) (h1 : PlainIx b) (h2 : NoSl b) : PE X (.Subscript a b pos) (tSub K ta tb) := hK ▸ pe_sub hu ha hb h1 h2
theorem k_sl (hK : X.K = K) : SlR X (rSlG K) := hK ▸ sl_G
theorem k_len (hK : X.K = K) : CallR X (.builtin "len") (rLenG K) := hK ▸ call_lenG
theorem k_min (hK : X.K = K) (hc : X.calm = true) (hu : X.A.units + 64 < cLine) : CallR X (.builtin "min") (rMinG K) := hK ▸ call_minG hc hu
theorem k_max (hK : X.K = K) (hc : X.calm = true) (hu : X.A.units + 64 < cLine) : CallR X (.builtin "max") (rMaxG K) := hK ▸ call_maxG hc hu
theorem k_sum (hK : X.K = K) (hc : X.calm = true) : CallR X (.builtin "sum") (rSum K) := hK ▸ cr_sum hc
theorem k_all (hK : X.K = K) (hc : X.calm = true) : CallR X (.builtin "all") (rAll K) := hK ▸ cr_all hc
theorem k_any (hK : X.K = K) (hc : X.calm = true) : CallR X (.builtin "any") (rAny K) := hK ▸ cr_any hc
theorem k_srt (hK : X.K = K) (hc : X.calm = true) : CallR X (.builtin "sorted") (rSrtG K) := hK ▸ call_srtG hc
theorem k_list (hK : X.K = K) (hc : X.calm = true) : CallR X (.type "list") (rListG K) := hK ▸ call_listG hc
theorem k_isi (hK : X.K = K) : CallR X (.builtin "isinstance") (rIsi K) := hK ▸ call_isi
theorem k_any' (hK : X.K = K) (h : PE X e te) : PI X tg e (iAny K te) := hK ▸ pi_any h
theorem k_tup {k n : Nat} {ts : TGs} (hK : X.K = K) (hc : X.calm = true) (h : PGs X es ts) (hn : (assignEach es X.env).length = n := by rfl) (hst : (assignEach es X.env).findIdx? (·.1) = none := by rfl) : PG X (.Tuple es k pos) (gTup K n ts) := hK ▸ pg_tup hc h hn hst
theorem k_bm {Ty id : String} {name : Str} {r : V → List V → Hp → VK → Prop} (hK : X.K = K) (pa : PlainAttrs Ty) (slot : Slot Ty name id) (hty : typeOf (.builtin id) = pure (.type "method_descriptor")) (hm : MtR X id r) (ho : PE X o to) (ha : PA X (e :: es) t)
    (hbase : attributeBase o name X.env (eval o X.env) = eval o X.env := by rfl)
    (hfew : ((backTo cpos (starEach (e :: es) X.env)).all (fun x => !x.1) && (backToKw cpos (keywordEach [] X.env)).all (fun x => x.1.isSome)
      && decide ((e :: es).length + ([] : List Keyword).length + (if ([] : List Keyword).isEmpty then 0 else 1) < 30)) = true := by rfl)
    (hline : (apos.endLine == cpos.line) = true := by rfl) (hs : starEach (e :: es) X.env = (false, eval e X.env) :: starEach es X.env := by rfl) (hplain : (backTo cpos (starEach es X.env)).any (·.1) = false := by rfl) :
    PE X (.Call (.Attribute o name apos) (e :: es) [] cpos) (tBM K Ty r to t) := hK ▸ pe_bm pa slot hty hm ho ha hbase hfew hline hs hplain
theorem k_enum {elts : List Expr} {kk : Nat} (hK : X.K = K) (hg : Gl X "enumerate") (hm : X.mg "enumerate" = none) (ha : PA X [e] t) (hs : starEach [e] X.env = [(false, eval e X.env)] := by rfl) : PI X (.Tuple elts kk tpos) (.Call (.Name "enumerate" p) [e] [] pos) (iEnum K t) := hK ▸ pi_enum hg hm ha hs
/-- where one stands -/
structure InX (X : Cx) (P : Program) (w : World) (K : PySem.W.Frag) (mg : Str → Option Value) (base : Heap) : Prop where
  h1 : X.prog = P
  h2 : X.w = w
  h3 : X.K = K
  h4 : X.mg = mg
  h5 : X.base = base
variable {P : Program} {w : World} {mg : Str → Option Value} {base : Heap} {T : List (Addr × Str)} {k j : Nat} {x : Str} {R : List D → Res → Prop} {E : XK}
theorem k_fn (hI : InX X P w K mg base) (c : Fn P w K mg base T k x R) (hr : Room j X.A) (hk : k ≤ j) (hg : Gl X x) (hx : Passes (L2.CX X.prog X.w) X E) (ha : PA X (e :: es) t) (hdb : (x == ("__debug__" : Str)) = false := by decide) (he : starEach (e :: es) X.env = (false, eval e X.env) :: starEach es X.env := by rfl) (hpl : (backTo pos (starEach es X.env)).any (·.1) = false := by rfl) :
    PE X (.Call (.Name x p) (e :: es) [] pos) (tCall (spR K T R) [] E t) := by
  obtain ⟨rfl, rfl, rfl, rfl, rfl⟩ := hI
  exact pe_fn c hr hk hg hx ha hdb he hpl
end
/-! ### comprehensions whose items are of one kind -/
section
variable {K : PySem.W.Frag} {T : List (Addr × Str)} {ρ : Env'} {te : TE} {g : TG}
theorem ev_lcG {wi : TI} {tt : TT} {vs : List Nat} {α β : Type} (k : β → D) (as : List α) (emb : α → D) (p : α → Bool) (f : α → β) (hi : EvI K T wi ρ (as.map emb)) (hl : as.length ≤ 100000)
    (step : ∀ (i : Nat) (a : α), as[i]? = some a → ∃ js ρ1, EvG K T g js (emb a) (wipeE ρ vs) ρ1 ∧ (∀ j ∈ js, j ∈ vs) ∧ EvT K T tt ρ1 (p a) ∧ (p a = true → EvD K T te ρ1 (k (f a)))) : EvD K T (tLc wi g tt te vs) ρ (.lst (((as.filter p).map f).map k)) := by
  rw [List.map_map]; exact ev_lc as emb p (k ∘ f) hi hl step
theorem ev_lcM {wi : TI} {vs : List Nat} {α β : Type} (k : β → D) (as : List α) (emb : α → D) (f : α → β) (hi : EvI K T wi ρ (as.map emb)) (hl : as.length ≤ 100000)
    (step : ∀ (i : Nat) (a : α), as[i]? = some a → ∃ js ρ1, EvG K T g js (emb a) (wipeE ρ vs) ρ1 ∧ (∀ j ∈ js, j ∈ vs) ∧ EvD K T te ρ1 (k (f a))) : EvD K T (tLc wi g tYes te vs) ρ (.lst ((as.map f).map k)) := by
  rw [List.map_map]; exact ev_lcm as emb (k ∘ f) hi hl step
end
/-! ### texts joined -/
def joinN (sep : List Nat) : List (List Nat) → List Nat
  | [] => []
  | [p] => p
  | p :: q :: r => p ++ (sep ++ joinN sep (q :: r))
def rJoin (K : PySem.W.Frag) : V → List V → Hp → VK → Prop := fun x xs H Q => ∃ a p, ∃ ys : List Str, x = .str a ∧ xs = [.ref p] ∧ (SqL K H p (ys.map V.str) ∨ SqT K H p (ys.map V.str)) ∧ (ys.map (·.length)).sum + ys.length * a.length ≤ 16777216 ∧ Q (.str (Txt.join a ys)) H
theorem k_join {X : Cx} {K : PySem.W.Frag} {o e : Expr} {to te : TE} {apos pos : Pos} (hK : X.K = K) (ho : PE X o to) (he : PE X e te) (hs : starEach [e] X.env = [(false, eval e X.env)] := by rfl) (hbase : attributeBase o "join" X.env (eval o X.env) = eval o X.env := by rfl) (hline : (apos.endLine == pos.line) = true := by rfl) :
    PE X (.Call (.Attribute o "join" apos) [e] [] pos) (tM1 (rJoin K) to te) := hK ▸ pe_join ho he hs hbase hline
theorem join_S (sep : List Nat) (ls : List (List Nat)) : Txt.join (S sep) (ls.map S) = S (joinN sep ls) := by
  have h : tx (Txt.join (S sep) (ls.map S)) = joinN sep ls := by
    rw [TL.join_eq]
    induction ls with
    | nil => rfl
    | cons p r ih => cases r with
      | nil => exact tx_S p
      | cons q r =>
        rw [show joinN sep (p :: q :: r) = p ++ (sep ++ joinN sep (q :: r)) from rfl, ← ih]
        show TL.tl (S p ++ S sep ++ Str.join (S sep) ((q :: r).map S)) = p ++ (sep ++ TL.tl (Str.join (S sep) ((q :: r).map S)))
        rw [TL.tl_append, TL.tl_append, List.append_assoc]
  rw [← h, S_tx]
section
variable {K : PySem.W.Frag} {T : List (Addr × Str)} {ρ : Env'} {to te : TE}
theorem sum_S (ls : List (List Nat)) : ((ls.map S).map (·.length)).sum = (ls.map List.length).sum := by
  rw [List.map_map]
  have : ∀ l ∈ ls, ((fun x : Str => x.length) ∘ S) l = List.length l := fun l _ => S_len l
  rw [List.map_congr_left this]
theorem ev_join {sep : List Nat} {ls : List (List Nat)} (ho : EvD K T to ρ (.str sep)) (he : EvD K T te ρ (.lst (ls.map D.str))) (hl : (ls.map List.length).sum + ls.length * sep.length ≤ 100000) : EvD K T (tM1 (rJoin K) to te) ρ (.str (joinN sep ls)) := by
  intro G0 H0 G H σ A Q q
  refine ho _ _ _ _ _ A _ fun x G1 H1 n1 r1 => ?_
  cases r1
  refine ⟨⟨_, rfl⟩, he _ _ _ _ _ (A.next n1) _ fun y G2 H2 n2 r2 => ?_⟩
  cases r2 with
  | lst h1 q1 =>
    rw [q1.of_strs] at h1
    refine ⟨_, _, ls.map S, rfl, rfl, .inl (SqL.of (n2.kn _ _ h1).1), by rw [sum_S, List.length_map, S_len]; omega, ?_⟩
    rw [join_S]
    exact q _ G2 H2 (n1.trans n2) (.str _)
theorem ev_joinT {sep : List Nat} {ls : List (List Nat)} (ho : EvD K T to ρ (.str sep)) (he : EvD K T te ρ (.tup (ls.map D.str))) (hl : (ls.map List.length).sum + ls.length * sep.length ≤ 100000) : EvD K T (tM1 (rJoin K) to te) ρ (.str (joinN sep ls)) := by
  intro G0 H0 G H σ A Q q
  refine ho _ _ _ _ _ A _ fun x G1 H1 n1 r1 => ?_
  cases r1
  refine ⟨⟨_, rfl⟩, he _ _ _ _ _ (A.next n1) _ fun y G2 H2 n2 r2 => ?_⟩
  cases r2 with
  | tup h1 q1 =>
    rw [q1.of_strs] at h1
    refine ⟨_, _, ls.map S, rfl, rfl, .inr (kn_t n2.kn h1), by rw [sum_S, List.length_map, S_len]; omega, ?_⟩
    rw [join_S]
    exact q _ G2 H2 (n1.trans n2) (.str _)
end
theorem joinN_nil (ls : List (List Nat)) : joinN [] ls = ls.flatten := by
  induction ls with
  | nil => rfl
  | cons p r ih => cases r with
    | nil => simp [joinN]
    | cons q r => show p ++ ([] ++ joinN [] (q :: r)) = _; rw [ih]; simp
theorem flatten_one (cs : List Nat) : (cs.map fun c => [c]).flatten = cs := by
  induction cs with
  | nil => rfl
  | cons c cs ih => simp [ih]
section
variable {K : PySem.W.Frag} {T : List (Addr × Str)} {ρ : Env'} {ta : TE}
theorem ev_isN (h : EvD K T ta ρ .non) : EvD K T (tIsN ta) ρ (.bl true) := fun G0 H0 G H σ A Q q => h _ _ _ _ _ A _ fun v G1 H1 n1 r1 => by cases r1; exact q _ G1 H1 n1 (.bl true)
theorem ev_isNi {i : Int} (h : EvD K T ta ρ (.int i)) : EvD K T (tIsN ta) ρ (.bl false) := fun G0 H0 G H σ A Q q => h _ _ _ _ _ A _ fun v G1 H1 n1 r1 => by cases r1; exact q _ G1 H1 n1 (.bl false)
theorem ev_isNt {ds : List D} (h : EvD K T ta ρ (.tup ds)) : EvD K T (tIsN ta) ρ (.bl false) := fun G0 H0 G H σ A Q q => h _ _ _ _ _ A _ fun v G1 H1 n1 r1 => by cases r1; exact q _ G1 H1 n1 (.bl false)
end
end DL
namespace DL
open PySem L2
/-- addresses of the program's error classes and written tuples -/
structure Ads where
  LikeError : Addr
  BadText : Addr
  BadSize : Addr
  BadShare : Addr
  BadWay : Addr
  NoText : Addr
  BadScript : Addr
  Nothing : Addr
  WAYS : Addr
  WORDS : Addr
structure Xc (K : PySem.W.Frag) (mg : Str → Option Value) (nm : Str) (C : Addr) : Prop where
  x : PySem.W.excIn K C [.type "ValueError", .type "Exception", .type "BaseException", .type "object"] "ValueError.__new__" = true
  g : mg nm = some (.ref C)
  k : PySem.W.keepIn K (.ref C) = true
  b : PySem.W.subIn K (.ref C) (.type "BaseException") = some true
  t : PySem.W.typeIn K (.ref C) = some (.type "type")
/-- data of the kinds that are told apart -/
def PD (d : D) : Prop := (∀ w, d ≠ .raw w) ∧ ∀ ns, d ≠ .scr ns
end DL
namespace DL
open PySem L2
theorem kt_int_int : kitB "int" "int" = some true := by decide +kernel
theorem kt_bool_int : kitB "bool" "int" = some true := by decide +kernel
theorem kt_int_bool : kitB "int" "bool" = some false := by decide +kernel
theorem kt_bool_bool : kitB "bool" "bool" = some true := by decide +kernel
theorem kt_no (a b : String) (h : kitB a b = some false) : kitB a b = some false := h
theorem kt_non_int : kitB "NoneType" "int" = some false := by decide +kernel
theorem kt_str_int : kitB "str" "int" = some false := by decide +kernel
theorem kt_list_int : kitB "list" "int" = some false := by decide +kernel
theorem kt_tuple_int : kitB "tuple" "int" = some false := by decide +kernel
theorem kt_dict_int : kitB "dict" "int" = some false := by decide +kernel
theorem kt_str_str : kitB "str" "str" = some true := by decide +kernel
theorem kt_non_str : kitB "NoneType" "str" = some false := by decide +kernel
theorem kt_bool_str : kitB "bool" "str" = some false := by decide +kernel
theorem kt_int_str : kitB "int" "str" = some false := by decide +kernel
theorem kt_list_str : kitB "list" "str" = some false := by decide +kernel
theorem kt_tuple_str : kitB "tuple" "str" = some false := by decide +kernel
theorem kt_dict_str : kitB "dict" "str" = some false := by decide +kernel
theorem kt_tuple_tuple : kitB "tuple" "tuple" = some true := by decide +kernel
theorem kt_non_tuple : kitB "NoneType" "tuple" = some false := by decide +kernel
theorem kt_bool_tuple : kitB "bool" "tuple" = some false := by decide +kernel
theorem kt_int_tuple : kitB "int" "tuple" = some false := by decide +kernel
theorem kt_list_tuple : kitB "list" "tuple" = some false := by decide +kernel
theorem kt_str_tuple : kitB "str" "tuple" = some false := by decide +kernel
theorem kt_dict_tuple : kitB "dict" "tuple" = some false := by decide +kernel
theorem kt_list_list : kitB "list" "list" = some true := by decide +kernel
theorem kt_non_list : kitB "NoneType" "list" = some false := by decide +kernel
theorem kt_bool_list : kitB "bool" "list" = some false := by decide +kernel
theorem kt_int_list : kitB "int" "list" = some false := by decide +kernel
theorem kt_tuple_list : kitB "tuple" "list" = some false := by decide +kernel
theorem kt_str_list : kitB "str" "list" = some false := by decide +kernel
theorem kt_dict_list : kitB "dict" "list" = some false := by decide +kernel
section
variable {K : PySem.W.Frag} {T : List (Addr × Str)} {n : String} {b : Bool}
theorem isi_int {i : Int} (h : kitB "int" n = some b) : Cl K T (rIsi K) [.int i, .raw (.ty n)] (.bl b) := c_isi (d := .int i) h
theorem isi_bl {i : Bool} (h : kitB "bool" n = some b) : Cl K T (rIsi K) [.bl i, .raw (.ty n)] (.bl b) := c_isi (d := .bl i) h
theorem isi_str {i : List Nat} (h : kitB "str" n = some b) : Cl K T (rIsi K) [.str i, .raw (.ty n)] (.bl b) := c_isi (d := .str i) h
theorem isi_lst {i : List D} (h : kitB "list" n = some b) : Cl K T (rIsi K) [.lst i, .raw (.ty n)] (.bl b) := c_isi (d := .lst i) h
theorem isi_tup {i : List D} (h : kitB "tuple" n = some b) : Cl K T (rIsi K) [.tup i, .raw (.ty n)] (.bl b) := c_isi (d := .tup i) h
theorem isi_dct {i : List (Key × D)} (h : kitB "dict" n = some b) : Cl K T (rIsi K) [.dct i, .raw (.ty n)] (.bl b) := c_isi (d := .dct i) h
theorem isi_non (h : kitB "NoneType" n = some b) : Cl K T (rIsi K) [.non, .raw (.ty n)] (.bl b) := c_isi (d := .non) h
end
end DL
namespace Row
open PySem L2 DL
def topS (i : Nat) : Stmt := PySem.Challenge.pw_sharedbits_k21_whole_triangles.main.body.getD i (.Pass ⟨0, 0, 0, 0⟩)
abbrev s_is_count : Stmt := topS 9
abbrev s_is_text : Stmt := topS 10
abbrev s_need_text : Stmt := topS 11
abbrev s_need_size : Stmt := topS 12
abbrev s_row_of : Stmt := topS 13
abbrev s_bag_of : Stmt := topS 14
abbrev s_common : Stmt := topS 17
abbrev s_fraction : Stmt := topS 18
abbrev s_need_way : Stmt := topS 19
abbrev s_shared_of : Stmt := topS 20
abbrev s_like_of : Stmt := topS 21
abbrev s_like : Stmt := topS 22
abbrev s__law_cell : Stmt := topS 24
abbrev s__law_drawn : Stmt := topS 25
abbrev s__law_text : Stmt := topS 26
abbrev s__law_near : Stmt := topS 27
abbrev s__law_least : Stmt := topS 28
abbrev s__law_is_wide : Stmt := topS 29
abbrev s_law : Stmt := topS 30
structure Facts (K : PySem.W.Frag) (mg : Str → Option Value) (Q : Ads) : Prop where
  n_all : mg "all" = none
  n_bool : mg "bool" = none
  n_int : mg "int" = none
  n_isinstance : mg "isinstance" = none
  n_len : mg "len" = none
  n_list : mg "list" = none
  n_max : mg "max" = none
  n_min : mg "min" = none
  n_range : mg "range" = none
  n_str : mg "str" = none
  n_sum : mg "sum" = none
  c_MOST_SIGNS : ∃ u, mg "MOST_SIGNS" = some u ∧ RelV (.int 40) u
  c_MOST_SIZE : ∃ u, mg "MOST_SIZE" = some u ∧ RelV (.int 6) u
  c_SIGNS : ∃ u, mg "SIGNS" = some u ∧ RelV (.str "abcdefghijklmnopqrstuvwxyz ") u
  c_WAYS : ∃ u, mg "WAYS" = some u ∧ RelV (.ref Q.WAYS) u
  t_WAYS : ∀ H, SqT K H Q.WAYS [V.str "set", V.str "bag", V.str "part", V.str "twice"]
  x_LikeError : Xc K mg "LikeError" Q.LikeError
  x_BadText : Xc K mg "BadText" Q.BadText
  x_BadSize : Xc K mg "BadSize" Q.BadSize
  x_BadWay : Xc K mg "BadWay" Q.BadWay
  d_is_count : Df K mg "is_count" s_is_count
  d_is_text : Df K mg "is_text" s_is_text
  d_need_text : Df K mg "need_text" s_need_text
  d_need_size : Df K mg "need_size" s_need_size
  d_row_of : Df K mg "row_of" s_row_of
  d_bag_of : Df K mg "bag_of" s_bag_of
  d_common : Df K mg "common" s_common
  d_fraction : Df K mg "fraction" s_fraction
  d_need_way : Df K mg "need_way" s_need_way
  d_shared_of : Df K mg "shared_of" s_shared_of
  d_like_of : Df K mg "like_of" s_like_of
  d_like : Df K mg "like" s_like
  d__law_cell : Df K mg "_law_cell" s__law_cell
  d__law_drawn : Df K mg "_law_drawn" s__law_drawn
  d__law_text : Df K mg "_law_text" s__law_text
  d__law_near : Df K mg "_law_near" s__law_near
  d__law_least : Df K mg "_law_least" s__law_least
  d__law_is_wide : Df K mg "_law_is_wide" s__law_is_wide
  d_law : Df K mg "law" s_law
abbrev N_is_count : List Str := ["thing", "low", "high"]
theorem sc_is_count : FnScope ["thing", "low", "high"] ["thing", "low", "high"] (defScope s_is_count) := ⟨rfl, rfl, rfl, by decide +kernel, rfl, by decide +kernel, by decide +kernel⟩
abbrev N_is_text : List Str := ["thing", "sign"]
theorem sc_is_text : FnScope ["thing", "sign"] ["thing"] (defScope s_is_text) := ⟨rfl, rfl, rfl, by decide +kernel, rfl, by decide +kernel, by decide +kernel⟩
abbrev N_need_text : List Str := ["text"]
theorem sc_need_text : FnScope ["text"] ["text"] (defScope s_need_text) := ⟨rfl, rfl, rfl, by decide +kernel, rfl, by decide +kernel, by decide +kernel⟩
abbrev N_need_size : List Str := ["size"]
theorem sc_need_size : FnScope ["size"] ["size"] (defScope s_need_size) := ⟨rfl, rfl, rfl, by decide +kernel, rfl, by decide +kernel, by decide +kernel⟩
abbrev N_row_of : List Str := ["text", "size", "at"]
theorem sc_row_of : FnScope ["text", "size", "at"] ["text", "size"] (defScope s_row_of) := ⟨rfl, rfl, rfl, by decide +kernel, rfl, by decide +kernel, by decide +kernel⟩
abbrev N_bag_of : List Str := ["text", "size", "found", "piece"]
theorem sc_bag_of : FnScope ["text", "size", "found", "piece"] ["text", "size"] (defScope s_bag_of) := ⟨rfl, rfl, rfl, by decide +kernel, rfl, by decide +kernel, by decide +kernel⟩
abbrev N_common : List Str := ["one", "other"]
theorem sc_common : FnScope ["one", "other"] ["one", "other"] (defScope s_common) := ⟨rfl, rfl, rfl, by decide +kernel, rfl, by decide +kernel, by decide +kernel⟩
abbrev N_fraction : List Str := ["above", "below", "by"]
theorem sc_fraction : FnScope ["above", "below", "by"] ["above", "below"] (defScope s_fraction) := ⟨rfl, rfl, rfl, by decide +kernel, rfl, by decide +kernel, by decide +kernel⟩
abbrev N_need_way : List Str := ["way"]
theorem sc_need_way : FnScope ["way"] ["way"] (defScope s_need_way) := ⟨rfl, rfl, rfl, by decide +kernel, rfl, by decide +kernel, by decide +kernel⟩
abbrev N_shared_of : List Str := ["one", "other", "is_bag", "names", "pairs", "piece", "mine", "its", "pair"]
theorem sc_shared_of : FnScope ["one", "other", "is_bag", "names", "pairs", "piece", "mine", "its", "pair"] ["one", "other", "is_bag"] (defScope s_shared_of) := ⟨rfl, rfl, rfl, by decide +kernel, rfl, by decide +kernel, by decide +kernel⟩
abbrev N_like_of : List Str := ["one", "other", "way", "both", "either"]
theorem sc_like_of : FnScope ["one", "other", "way", "both", "either"] ["one", "other", "way"] (defScope s_like_of) := ⟨rfl, rfl, rfl, by decide +kernel, rfl, by decide +kernel, by decide +kernel⟩
abbrev N_like : List Str := ["one", "other", "size", "way"]
theorem sc_like : FnScope ["one", "other", "size", "way"] ["one", "other", "size", "way"] (defScope s_like) := ⟨rfl, rfl, rfl, by decide +kernel, rfl, by decide +kernel, by decide +kernel⟩
abbrev N__law_cell : List Str := ["script", "k"]
theorem sc__law_cell : FnScope ["script", "k"] ["script", "k"] (defScope s__law_cell) := ⟨rfl, rfl, rfl, by decide +kernel, rfl, by decide +kernel, by decide +kernel⟩
abbrev N__law_drawn : List Str := ["cell", "k", "more"]
theorem sc__law_drawn : FnScope ["cell", "k", "more"] ["cell", "k"] (defScope s__law_drawn) := ⟨rfl, rfl, rfl, by decide +kernel, rfl, by decide +kernel, by decide +kernel⟩
abbrev N__law_text : List Str := ["more", "signs", "size", "j"]
theorem sc__law_text : FnScope ["more", "signs", "size", "j"] ["more"] (defScope s__law_text) := ⟨rfl, rfl, rfl, by decide +kernel, rfl, by decide +kernel, by decide +kernel⟩
abbrev N__law_near : List Str := ["text", "more", "found", "j", "here", "spot", "size", "part", "rest", "goal"]
theorem sc__law_near : FnScope ["text", "more", "found", "j", "here", "spot", "size", "part", "rest", "goal"] ["text", "more"] (defScope s__law_near) := ⟨rfl, rfl, rfl, by decide +kernel, rfl, by decide +kernel, by decide +kernel⟩
abbrev N__law_least : List Str := ["above", "under", "by"]
theorem sc__law_least : FnScope ["above", "under", "by"] ["above", "under"] (defScope s__law_least) := ⟨rfl, rfl, rfl, by decide +kernel, rfl, by decide +kernel, by decide +kernel⟩
abbrev N__law_is_wide : List Str := ["one", "other", "third", "both"]
theorem sc__law_is_wide : FnScope ["one", "other", "third", "both"] ["one", "other", "third"] (defScope s__law_is_wide) := ⟨rfl, rfl, rfl, by decide +kernel, rfl, by decide +kernel, by decide +kernel⟩
abbrev N_law : List Str := ["script", "k", "more", "one", "other", "third", "size", "way", "fars", "pair", "above", "under", "a", "b", "c", "near", "far"]
theorem sc_law : FnScope ["script", "k", "more", "one", "other", "third", "size", "way", "fars", "pair", "above", "under", "a", "b", "c", "near", "far"] ["script"] (defScope s_law) := ⟨rfl, rfl, rfl, by decide +kernel, rfl, by decide +kernel, by decide +kernel⟩
section
variable {P : Program} {w : World} {K : PySem.W.Frag} {mg : Str → Option Value} {base : Heap} {T : List (Addr × Str)} {Q : Ads}
def isCount : D → Int → Int → Bool
  | .int n, lo, hi => decide (lo ≤ n) && decide (n ≤ hi)
  | _, _, _ => false
def R_is_count : List D → Res → Prop := fun ds r => ∃ d lo hi, ds = [d, .int lo, .int hi] ∧ PD d ∧ r = .ok (.bl (isCount d lo hi))
theorem ok_is_count (M : Facts K mg Q) : Fn P w K mg base T 1 "is_count" R_is_count := by
  refine mk_fn M.d_is_count sc_is_count (by rintro _ _ ⟨d, lo, hi, rfl, _⟩; rfl) (fun _ _ _ _ _ _ us hl => match us, hl with | [_, _, _], _ => rfl) (fun f cdv A outer s H E hr => ⟨_, (pss_one (ps_ret (pe_and (pe_callB (k_isi (K := K) rfl) (by rfl) M.n_isinstance (by decide +kernel) (pa_cons (pv 0) (pa_cons (pe_bltn (v := .ty "int") (by rfl) M.n_int (by decide +kernel) rfl) pa_nil))) (pe_and (pe_not (pe_callB (k_isi (K := K) rfl) (by rfl) M.n_isinstance (by decide +kernel) (pa_cons (pv 0) (pa_cons (pe_bltn (v := .ty "bool") (by rfl) M.n_bool (by decide +kernel) rfl) pa_nil)))) (pe_one (pe_chain op_leI op_leI (pv 1) (pv 0) (pv 2))))))), ?_⟩)
  rintro _ _ ⟨d, lo, hi, rfl, pd, rfl⟩
  refine .inl (es_ret ?_)
  cases d with
  | int n =>
    refine (ev_andV (ev_cb (ea_cons (ev_var rfl) (ea_cons ev_raw ea_nil)) (isi_int kt_int_int)) fun _ =>
      ev_andV (ev_notV (ev_cb (ea_cons (ev_var rfl) (ea_cons ev_raw ea_nil)) (isi_int kt_int_bool))) fun _ =>
      ev_chain (ev_var rfl) (ev_var rfl) o_le (fun _ => ev_var rfl) (fun _ => o_le)).is ?_
    simp [isCount]
  | bl b =>
    refine (ev_andV (ev_cb (ea_cons (ev_var rfl) (ea_cons ev_raw ea_nil)) (isi_bl kt_bool_int)) fun _ =>
      ev_andV (y := true) (ev_notV (ev_cb (ea_cons (ev_var rfl) (ea_cons ev_raw ea_nil)) (isi_bl kt_bool_bool))) fun z => nomatch z).is ?_
    simp [isCount]
  | non => exact (ev_andV (y := true) (ev_cb (ea_cons (ev_var rfl) (ea_cons ev_raw ea_nil)) (isi_non kt_non_int)) (fun z => nomatch z)).is rfl
  | str l => exact (ev_andV (y := true) (ev_cb (ea_cons (ev_var rfl) (ea_cons ev_raw ea_nil)) (isi_str kt_str_int)) (fun z => nomatch z)).is rfl
  | lst l => exact (ev_andV (y := true) (ev_cb (ea_cons (ev_var rfl) (ea_cons ev_raw ea_nil)) (isi_lst kt_list_int)) (fun z => nomatch z)).is rfl
  | tup l => exact (ev_andV (y := true) (ev_cb (ea_cons (ev_var rfl) (ea_cons ev_raw ea_nil)) (isi_tup kt_tuple_int)) (fun z => nomatch z)).is rfl
  | dct l => exact (ev_andV (y := true) (ev_cb (ea_cons (ev_var rfl) (ea_cons ev_raw ea_nil)) (isi_dct kt_dict_int)) (fun z => nomatch z)).is rfl
  | scr l => exact absurd rfl (pd.2 l)
  | raw v => exact absurd rfl (pd.1 v)
def SIGNS : List Nat := tx "abcdefghijklmnopqrstuvwxyz "
def okT (l : List Nat) : Bool := decide (l.length ≤ 40) && l.all fun c => decide (c ∈ SIGNS)
def isText : D → Bool
  | .str l => okT l
  | _ => false
def R_is_text : List D → Res → Prop := fun ds r => ∃ d, ds = [d] ∧ PD d ∧ (∀ l, d = .str l → l.length ≤ 1000) ∧ r = .ok (.bl (isText d))
theorem ok_is_text (M : Facts K mg Q) : Fn P w K mg base T 1 "is_text" R_is_text := by
  refine mk_fn M.d_is_text sc_is_text (by rintro _ _ ⟨d, rfl, _⟩; rfl) (fun _ _ _ _ _ _ us hl => match us, hl with | [_], _ => rfl) (fun f cdv A outer s H E hr => ⟨_, (pss_one (ps_ret (pe_and (pe_callB (k_isi (K := K) rfl) (by rfl) M.n_isinstance (by decide +kernel) (pa_cons (pv 0) (pa_cons (pe_bltn (v := .ty "str") (by rfl) M.n_str (by decide +kernel) rfl) pa_nil))) (pe_and (pe_cmpR op_leI (pe_callB (k_len (K := K) rfl) (by rfl) M.n_len PySem.boot_len (pa_cons (pv 0) pa_nil)) (pe_gcn (by rfl) M.c_MOST_SIGNS) (nomark _)) (pe_one (pe_callB (k_all (K := K) rfl rfl) (by rfl) M.n_all (by decide +kernel) (pa_cons (pe_lc (own := [("sign", 1)]) rfl sc_is_text.nd (k_any' (K := K) rfl (pv 0)) (blkOk_by (N := N_is_text) (sc := defScope s_is_text) (by decide +kernel)) (fun _ _ _ _ _ => (pg_name (i := 1) sc_is_text.nd rfl (Or.inl rfl))) (fun _ _ _ _ _ => pts_nil) (fun _ _ _ _ _ => (pe_cmpR (k_in (K := K) rfl (hu_of hr)) (pv 1) (pe_gcn (by rfl) M.c_SIGNS) (by rfl)))) pa_nil))))))), ?_⟩)
  rintro _ _ ⟨d, rfl, pd, hl, rfl⟩
  refine .inl (es_ret ?_)
  cases d with
  | str l =>
    have h1 := hl l rfl
    refine (ev_andV (ev_cb (ea_cons (ev_var rfl) (ea_cons ev_raw ea_nil)) (isi_str kt_str_str)) fun _ =>
      ev_andV (ev_op (ev_cb (ea_cons (ev_var rfl) ea_nil) (c_lenS (by omega))) ev_int o_le) fun _ =>
      ev_cb (ea_cons (ev_lcM D.bl l (fun c => .str [c]) (fun c => decide (c ∈ SIGNS)) (ei_str (ev_var rfl)) (by omega) fun i a _ => ⟨_, _, eg_name, by decide, ev_op (ev_var rfl) ev_str o_inC⟩) ea_nil) c_all).is ?_
    rw [List.all_map, Bool.true_and]
    show D.bl _ = D.bl (decide (l.length ≤ 40) && _)
    congr 2
    exact decide_eq_decide.mpr (by omega)
  | non => exact (ev_andV (y := true) (ev_cb (ea_cons (ev_var rfl) (ea_cons ev_raw ea_nil)) (isi_non kt_non_str)) (fun z => nomatch z)).is rfl
  | bl l => exact (ev_andV (y := true) (ev_cb (ea_cons (ev_var rfl) (ea_cons ev_raw ea_nil)) (isi_bl kt_bool_str)) (fun z => nomatch z)).is rfl
  | int l => exact (ev_andV (y := true) (ev_cb (ea_cons (ev_var rfl) (ea_cons ev_raw ea_nil)) (isi_int kt_int_str)) (fun z => nomatch z)).is rfl
  | lst l => exact (ev_andV (y := true) (ev_cb (ea_cons (ev_var rfl) (ea_cons ev_raw ea_nil)) (isi_lst kt_list_str)) (fun z => nomatch z)).is rfl
  | tup l => exact (ev_andV (y := true) (ev_cb (ea_cons (ev_var rfl) (ea_cons ev_raw ea_nil)) (isi_tup kt_tuple_str)) (fun z => nomatch z)).is rfl
  | dct l => exact (ev_andV (y := true) (ev_cb (ea_cons (ev_var rfl) (ea_cons ev_raw ea_nil)) (isi_dct kt_dict_str)) (fun z => nomatch z)).is rfl
  | scr l => exact absurd rfl (pd.2 l)
  | raw v => exact absurd rfl (pd.1 v)
/-- data that may be handed in as a text -/
def TD (d : D) : Prop := PD d ∧ ∀ l, d = .str l → l.length ≤ 1000
theorem td_str {l : List Nat} (h : l.length ≤ 1000) : TD (.str l) := ⟨⟨(by intro _ z; cases z), (by intro _ z; cases z)⟩, (by intro _ z; cases z; exact h)⟩
def R_need_text (Q : Ads) : List D → Res → Prop := fun ds r => ∃ d, ds = [d] ∧ TD d ∧ r = if isText d = true then .ok .non else .xc Q.BadText
theorem ok_need_text (M : Facts K mg Q) : Fn P w K mg base T 2 "need_text" (R_need_text Q) := by
  refine mk_fn M.d_need_text sc_need_text (by rintro _ _ ⟨d, rfl, _⟩; rfl) (fun _ _ _ _ _ _ us hl => match us, hl with | [_], _ => rfl) (fun f cdv A outer s H E hr => ⟨_, (pss_one (ps_if (pt_not (pt_val (k_fn (K := K) (T := T) ⟨rfl, rfl, rfl, rfl, rfl⟩ (ok_is_text M) hr (by decide) (by rfl) (pcall (takes_of rfl rfl rfl rfl) (fun _ _ _ _ h => h)) (pa_cons (pv 0) pa_nil)))) (pss_one (ps_raise rfl (takes_of rfl rfl rfl rfl) (pmk_own PySem.F.excBase_ValueError M.x_BadText.x M.x_BadText.g M.x_BadText.k (raises_own M.x_BadText.b M.x_BadText.t) (by exact rfl)))) pss_nil)), ?_⟩)
  rintro _ _ ⟨d, rfl, td, rfl⟩
  cases e : isText d with
  | true => exact .inr ⟨rfl, _, es_if (et_not (et_B (ev_call (ea_cons (ev_var rfl) ea_nil) ⟨d, rfl, td.1, td.2, rfl⟩))) (fun z => by rw [e] at z; cases z) fun _ => es_next⟩
  | false => exact es_if (et_not (et_B (ev_call (ea_cons (ev_var rfl) ea_nil) ⟨d, rfl, td.1, td.2, rfl⟩))) (fun _ => es_raise) (fun z => by rw [e] at z; cases z)
def R_need_size (Q : Ads) : List D → Res → Prop := fun ds r => ∃ d, ds = [d] ∧ PD d ∧ r = if isCount d 1 6 = true then .ok .non else .xc Q.BadSize
theorem ok_need_size (M : Facts K mg Q) : Fn P w K mg base T 2 "need_size" (R_need_size Q) := by
  refine mk_fn M.d_need_size sc_need_size (by rintro _ _ ⟨d, rfl, _⟩; rfl) (fun _ _ _ _ _ _ us hl => match us, hl with | [_], _ => rfl) (fun f cdv A outer s H E hr => ⟨_, (pss_one (ps_if (pt_not (pt_val (k_fn (K := K) (T := T) ⟨rfl, rfl, rfl, rfl, rfl⟩ (ok_is_count M) hr (by decide) (by rfl) (pcall (takes_of rfl rfl rfl rfl) (fun _ _ _ _ h => h)) (pa_cons (pv 0) (pa_cons pe_int (pa_cons (pe_gcn (by rfl) M.c_MOST_SIZE) pa_nil)))))) (pss_one (ps_raise rfl (takes_of rfl rfl rfl rfl) (pmk_own PySem.F.excBase_ValueError M.x_BadSize.x M.x_BadSize.g M.x_BadSize.k (raises_own M.x_BadSize.b M.x_BadSize.t) (by exact rfl)))) pss_nil)), ?_⟩)
  rintro _ _ ⟨d, rfl, pd, rfl⟩
  cases e : isCount d 1 6 with
  | true => exact .inr ⟨rfl, _, es_if (et_not (et_B (ev_call (ea_cons (ev_var rfl) (ea_cons ev_int (ea_cons ev_int ea_nil))) ⟨d, 1, 6, rfl, pd, rfl⟩))) (fun z => by rw [e] at z; cases z) fun _ => es_next⟩
  | false => exact es_if (et_not (et_B (ev_call (ea_cons (ev_var rfl) (ea_cons ev_int (ea_cons ev_int ea_nil))) ⟨d, 1, 6, rfl, pd, rfl⟩))) (fun _ => es_raise) (fun z => by rw [e] at z; cases z)
/-- the pieces of a text, as they stand -/
def rowOf (l : List Nat) (n : Nat) : List (List Nat) := (List.range (l.length + 1 - n)).map fun i => (l.drop i).take n
def R_row_of : List D → Res → Prop := fun ds r => ∃ (l : List Nat) (n : Nat), ds = [.str l, .int n] ∧ 1 ≤ n ∧ l.length ≤ 1000 ∧ n ≤ 1000 ∧ r = .ok (.lst ((rowOf l n).map D.str))
theorem cut_at (l : List Nat) (i n : Nat) (h : i + n ≤ l.length) : cutL l (some (i : Int)) (some ((i : Int) + (n : Int))) = (l.drop i).take n := by
  unfold cutL
  rw [show ((i : Int) + (n : Int)) = ((i + n : Nat) : Int) by omega, HT.sIx_nat, HT.sIx_nat, Nat.min_eq_left h, Nat.min_eq_left (show i ≤ l.length by omega), Nat.add_sub_cancel_left]
theorem ok_row_of (M : Facts K mg Q) : Fn P w K mg base T 1 "row_of" R_row_of := by
  refine mk_fn M.d_row_of sc_row_of (by rintro _ _ ⟨l, n, rfl, _⟩; rfl) (fun _ _ _ _ _ _ us hl => match us, hl with | [_, _], _ => rfl) (fun f cdv A outer s H E hr => ⟨_, (pss_one (ps_ret (pe_lc (own := [("at", 2)]) rfl sc_row_of.nd (pi_range1 (by rfl) M.n_range (pa_cons (pe_op op_addG (pe_op op_subG (pe_callB (k_len (K := K) rfl) (by rfl) M.n_len PySem.boot_len (pa_cons (pv 0) pa_nil)) (pv 1)) pe_int) pa_nil)) (blkOk_by (N := N_row_of) (sc := defScope s_row_of) (by decide +kernel)) (fun _ _ _ _ _ => (pg_name (i := 2) sc_row_of.nd rfl (Or.inl rfl))) (fun _ _ _ _ _ => pts_nil) (fun _ _ _ _ _ => (pe_slice (k_sl (K := K) rfl) (pv 0) (po_some (pv 2)) (po_some (pe_op op_addG (pv 2) (pv 1)))))))), ?_⟩)
  rintro _ _ ⟨l, n, rfl, h1, h2, h3, rfl⟩
  refine .inl (es_ret ?_)
  have e : ((l.length : Int) - (n : Int) + 1).toNat = l.length + 1 - n := by omega
  unfold rowOf
  rw [← e]
  refine ev_lcM D.str (List.range ((l.length : Int) - (n : Int) + 1).toNat) (fun i => .int (i : Nat)) (fun i => (l.drop i).take n) (ei_range1 (ea_cons (ev_op (ev_op (ev_cb (ea_cons (ev_var rfl) ea_nil) (c_lenS (by omega))) (ev_var rfl) o_sub) ev_int o_add) ea_nil) (by omega) (by omega)) (by simp; omega) fun i a ha => ?_
  refine ⟨_, _, eg_name, by decide, ?_⟩
  have ha' : a < ((l.length : Int) - (n : Int) + 1).toNat := by
    obtain ⟨h, e⟩ := List.getElem?_eq_some_iff.mp ha
    rw [List.getElem_range] at e
    rw [List.length_range] at h
    omega
  rw [← cut_at l a n (by omega)]
  exact ev_sl (ev_var rfl) (eo_some (ev_var rfl)) (eo_some (ev_op (ev_var rfl) (ev_var rfl) o_add)) (s_slS (by omega))
abbrev Bag := List (List Nat × Nat)
def getL (b : Bag) (p : List Nat) : Nat := ((b.find? fun q => decide (q.1 = p)).map (·.2)).getD 0
def putL (b : Bag) (p : List Nat) (c : Nat) : Bag := if (b.any fun q => decide (q.1 = p)) = true then b.map (fun q => if q.1 = p then (q.1, c) else q) else b ++ [(p, c)]
def addP (b : Bag) (p : List Nat) : Bag := putL b p (getL b p + 1)
def bagL (ps : List (List Nat)) : Bag := ps.foldl addP []
def bagOf (l : List Nat) (n : Nat) : Bag := bagL (rowOf l n)
def tk (p : List Nat) : Key := Sum.inr (S p)
theorem tk_inj {p q : List Nat} : tk p = tk q ↔ p = q := ⟨fun h => S_inj (Sum.inr.inj h), fun h => by rw [h]⟩
def bagD (b : Bag) : List (Key × D) := b.map fun q => (tk q.1, D.int (q.2 : Nat))
theorem valD_bag (b : Bag) (p : List Nat) : valD (bagD b) (tk p) = (b.find? fun q => decide (q.1 = p)).map fun q => D.int (q.2 : Nat) := by
  unfold valD bagD
  induction b with
  | nil => rfl
  | cons q b ih =>
    simp only [List.map_cons, List.find?_cons, tk_inj]
    by_cases h : q.1 = p
    · simp [h]
    · simp only [h, decide_false]; exact ih
theorem getD_bag (b : Bag) (p : List Nat) : (valD (bagD b) (tk p)).getD (.int 0) = .int (getL b p : Nat) := by
  rw [valD_bag]
  unfold getL
  cases b.find? fun q => decide (q.1 = p) <;> rfl
theorem putD_bag (b : Bag) (p : List Nat) (c : Nat) : putD (bagD b) (tk p) (.int (c : Nat)) = bagD (putL b p c) := by
  have e : ((bagD b).any fun kv => decide (kv.1 = tk p)) = (b.any fun q => decide (q.1 = p)) := by
    unfold bagD
    rw [List.any_map]
    congr 1
    funext q
    exact decide_eq_decide.mpr tk_inj
  unfold putD putL
  rw [e]
  by_cases h : (b.any fun q => decide (q.1 = p)) = true
  · rw [if_pos h, if_pos h]
    unfold bagD
    rw [List.map_map, List.map_map]
    apply List.map_congr_left
    intro q _
    by_cases hq : q.1 = p
    · simp [hq]
    · have : ¬ tk q.1 = tk p := fun z => hq (tk_inj.mp z)
      simp [hq, this]
  · rw [if_neg h, if_neg h]
    unfold bagD
    rw [List.map_append]; rfl
theorem bagL_take {ps : List (List Nat)} {i : Nat} {p : List Nat} (h : ps[i]? = some p) : bagL (ps.take (i + 1)) = addP (bagL (ps.take i)) p := by
  unfold bagL
  rw [List.take_add_one, h, Option.toList_some, List.foldl_append]; rfl
theorem putL_len (b : Bag) (p : List Nat) (c : Nat) : (putL b p c).length ≤ b.length + 1 := by
  unfold putL
  split <;> simp
theorem bagL_len (ps : List (List Nat)) : (bagL ps).length ≤ ps.length := by
  have gen : ∀ (qs : List (List Nat)) (b : Bag), (qs.foldl addP b).length ≤ b.length + qs.length := by
    intro qs
    induction qs with
    | nil => intro b; simp
    | cons q qs ih =>
      intro b
      have := ih (addP b q)
      have h2 : (addP b q).length ≤ b.length + 1 := putL_len b q _
      simp only [List.foldl_cons, List.length_cons]; omega
  have h := gen ps []
  simpa [bagL] using h
theorem rowOf_len (l : List Nat) (n : Nat) : (rowOf l n).length = l.length + 1 - n := by simp [rowOf]
def R_bag_of : List D → Res → Prop := fun ds r => ∃ (l : List Nat) (n : Nat), ds = [.str l, .int n] ∧ 1 ≤ n ∧ l.length ≤ 1000 ∧ n ≤ 1000 ∧ r = .ok (.dct (bagD (bagOf l n)))
theorem ok_bag_of (M : Facts K mg Q) : Fn P w K mg base T 2 "bag_of" R_bag_of := by
  refine mk_fn M.d_bag_of sc_bag_of (by rintro _ _ ⟨l, n, rfl, _⟩; rfl) (fun _ _ _ _ _ _ us hl => match us, hl with | [_, _], _ => rfl) (fun f cdv A outer s H E hr => ⟨_, (pss_cons (ps_set (i := 2) sc_bag_of.nd rfl (Or.inl rfl) pe_dnewK)
      (pss_cons (ps_for (passes_of rfl) rfl (k_any' (K := K) rfl (k_fn (K := K) (T := T) ⟨rfl, rfl, rfl, rfl, rfl⟩ (ok_row_of M) hr (by decide) (by rfl) (pcall (takes_of rfl rfl rfl rfl) (fun _ _ _ _ h => h)) (pa_cons (pv 0) (pa_cons (pv 1) pa_nil)))) (pg_name (i := 3) sc_bag_of.nd rfl (Or.inl rfl))
      (pss_one (ps_or2 (ps_dput (hu_of hr) (pv 2) (pv 3) (pe_op op_addG (pe_dget2 (hu_of hr) (pv 2) (pv 3) pe_int ⟨rfl, rfl, rfl, rfl⟩) pe_int) rfl) (ps_asg (pe_op op_addG (pe_dget2 (hu_of hr) (pv 2) (pv 3) pe_int ⟨rfl, rfl, rfl, rfl⟩) pe_int) (pg_sub (pv 2) (pv 3) set_list)))))
      (pss_one (ps_ret (pe_frz (pv 2)))))), ?_⟩)
  rintro _ _ ⟨l, n, rfl, h1, h2, h3, rfl⟩
  refine .inl (es_seq es_newD (es_seq (es_for (ei_list (ev_call (ea_cons (ev_var rfl) (ea_cons (ev_var rfl) ea_nil)) ⟨l, n, rfl, h1, h2, h3, rfl⟩)) (fun i => [some (.sh (.str l)), some (.sh (.int n)), some (.od (bagD (bagL ((rowOf l n).take i)))), none]) rfl fun i d hd => ?_) ?_))
  · rw [List.getElem?_map] at hd
    cases e : (rowOf l n)[i]? with
    | none => rw [e] at hd; cases hd
    | some p =>
      rw [e] at hd
      cases hd
      refine ⟨_, [3], _, _, eg_name, es_l (es_put (k := tk p) rfl (ev_op (ev_dgetO (k := tk p) rfl (ev_var rfl) ev_int) ev_int (by rw [getD_bag]; exact o_add)) (ev_var rfl) ?_), ?_⟩
      · have := bagL_len ((rowOf l n).take i)
        rw [List.length_take, rowOf_len] at this
        simp only [bagD, List.length_map]; omega
      · rw [show ((getL (bagL ((rowOf l n).take i)) p : Nat) : Int) + 1 = ((getL (bagL ((rowOf l n).take i)) p + 1 : Nat) : Int) by omega, putD_bag, bagL_take e]
        rfl
  · have := es_retD (K := K) (T := T) (E := E) (i := 2) (ρ := [some (.sh (.str l)), some (.sh (.int n)), some (.od (bagD (bagL ((rowOf l n).take ((rowOf l n).map D.str).length)))), none]) rfl
    rw [List.length_map, List.take_length] at this
    rw [List.length_map, List.take_length]
    exact this
def gstep (q : Nat × Nat) : Nat × Nat := (q.2, q.1 % q.2)
def git (q : Nat × Nat) : Nat → Nat × Nat
  | 0 => q
  | i + 1 => gstep (git q i)
theorem git_shift (q : Nat × Nat) (i : Nat) : git q (i + 1) = git (gstep q) i := by
  induction i with
  | zero => rfl
  | succ i ih => show gstep (git q (i + 1)) = gstep (git (gstep q) i); rw [ih]
theorem git_end : ∀ (b a : Nat), ∃ n, (git (a, b) n).2 = 0 ∧ (∀ i, i < n → (git (a, b) i).2 ≠ 0) ∧ (git (a, b) n).1 = Nat.gcd a b := by
  intro b
  induction b using Nat.strongRecOn with
  | ind b ih =>
    intro a
    by_cases hb : b = 0
    · subst hb
      exact ⟨0, rfl, fun i h => absurd h (Nat.not_lt_zero i), (Nat.gcd_zero_right a).symm⟩
    · obtain ⟨n, h1, h2, h3⟩ := ih (a % b) (Nat.mod_lt _ (Nat.pos_of_ne_zero hb)) b
      refine ⟨n + 1, by rw [git_shift]; exact h1, fun i hi => ?_, by rw [git_shift]; show (git (b, a % b) n).1 = _; rw [h3, Nat.gcd_comm, ← Nat.gcd_rec, Nat.gcd_comm]⟩
      cases i with
      | zero => exact hb
      | succ i => rw [git_shift]; exact h2 i (by omega)
def R_common : List D → Res → Prop := fun ds r => ∃ a b : Nat, ds = [.int a, .int b] ∧ r = .ok (.int (Nat.gcd a b : Nat))
theorem ok_common (M : Facts K mg Q) : Fn P w K mg base T 1 "common" R_common := by
  refine mk_fn M.d_common sc_common (by rintro _ _ ⟨l, n, rfl, _⟩; rfl) (fun _ _ _ _ _ _ us hl => match us, hl with | [_, _], _ => rfl) (fun f cdv A outer s H E hr => ⟨_, (pss_cons (ps_while (passes_of rfl) (pt_cmpR (k_ne (K := K) rfl hr.units) (pv 1) pe_int (nomark _))
      (pss_one (ps_par rfl sc_common.nd (i := 0) (j := 1) rfl rfl (by decide) rfl rfl (pa_cons (pv 1) (pa_cons (pe_op op_modG (pv 0) (pv 1)) pa_nil)) (by rfl))))
      (pss_one (ps_ret (pe_frz (pv 0))))), ?_⟩)
  rintro _ _ ⟨a, b, rfl, rfl⟩
  obtain ⟨n, h1, h2, h3⟩ := git_end b a
  refine .inl (es_seq (es_while (fun i => [some (.sh (.int ((git (a, b) i).1 : Nat))), some (.sh (.int ((git (a, b) i).2 : Nat)))]) n rfl (fun i hi => ⟨?_, [], _, es_par (ea_cons (ev_var rfl) (ea_cons (ev_op (ev_var rfl) (ev_var rfl) (o_mod ?_)) ea_nil)), ?_⟩) ?_) ?_)
  · refine (et_test (ev_op (ev_var rfl) ev_int (o_ne (.int _) (.int _)))).is ?_
    rw [eqD_int, decide_eq_false (by have := h2 i hi; omega)]; rfl
  · have := h2 i hi; omega
  · rfl
  · refine (et_test (ev_op (ev_var rfl) ev_int (o_ne (.int _) (.int _)))).is ?_
    rw [eqD_int, decide_eq_true (by rw [h1]; rfl)]; rfl
  · rw [← h3]
    exact es_ret (ev_frz (ev_var rfl))
/-- a least fraction; 1, if both are nought -/
def frac (a b : Nat) : Nat × Nat := if b = 0 then (1, 1) else (a / Nat.gcd a b, b / Nat.gcd a b)
def frD (q : Nat × Nat) : D := .tup [.int (q.1 : Nat), .int (q.2 : Nat)]
def R_fraction : List D → Res → Prop := fun ds r => ∃ a b : Nat, ds = [.int a, .int b] ∧ b ≤ 100000 ∧ r = .ok (frD (frac a b))
theorem ok_fraction (M : Facts K mg Q) : Fn P w K mg base T 2 "fraction" R_fraction := by
  refine mk_fn M.d_fraction sc_fraction (by rintro _ _ ⟨l, n, rfl, _⟩; rfl) (fun _ _ _ _ _ _ us hl => match us, hl with | [_, _], _ => rfl) (fun f cdv A outer s H E hr => ⟨_, (pss_cons (ps_if (pt_cmpR (k_eq (K := K) rfl hr.units) (pv 1) pe_int (nomark _)) (pss_one (ps_ret (pe_tup (pa_cons pe_int (pa_cons pe_int pa_nil))))) pss_nil)
      (pss_cons (ps_set (i := 2) sc_fraction.nd rfl (Or.inl rfl) (k_fn (K := K) (T := T) ⟨rfl, rfl, rfl, rfl, rfl⟩ (ok_common M) hr (by decide) (by rfl) (pcall (takes_of rfl rfl rfl rfl) (fun _ _ _ _ h => h)) (pa_cons (pv 0) (pa_cons (pv 1) pa_nil))))
      (pss_one (ps_ret (pe_tup (pa_cons (pe_op op_divG (pv 0) (pv 2)) (pa_cons (pe_op op_divG (pv 1) (pv 2)) pa_nil))))))), ?_⟩)
  rintro _ _ ⟨a, b, rfl, hb, rfl⟩
  unfold frac
  by_cases h : b = 0
  · rw [if_pos h]
    exact .inl (es_rt (es_if ((et_test (ev_op (ev_var rfl) ev_int (o_eq (.int _) (.int _)))).is (show _ = true by rw [eqD_int]; exact decide_eq_true (by omega))) (fun _ => es_ret (ev_tup (ea_cons ev_int (ea_cons ev_int ea_nil)) (by simp))) (fun z => nomatch z)))
  · rw [if_neg h]
    have hg : 0 < Nat.gcd a b := Nat.gcd_pos_of_pos_right a (Nat.pos_of_ne_zero h)
    have hg2 : Nat.gcd a b ≤ b := Nat.gcd_le_right a (Nat.pos_of_ne_zero h)
    refine .inl (es_seq (es_if ((et_test (ev_op (ev_var rfl) ev_int (o_eq (.int _) (.int _)))).is (show _ = false by rw [eqD_int]; exact decide_eq_false (by omega))) (fun z => nomatch z) (fun _ => es_next)) (es_seq (es_set (ev_call (ea_cons (ev_var rfl) (ea_cons (ev_var rfl) ea_nil)) ⟨a, b, rfl, rfl⟩)) (es_ret ?_)))
    exact (ev_tup (ea_cons (ev_op (ev_var rfl) (ev_var rfl) (o_div (by omega) (by omega))) (ea_cons (ev_op (ev_var rfl) (ev_var rfl) (o_div (by omega) (by omega))) ea_nil)) (by simp)).is (by simp [frD])
def isWay : D → Bool
  | .str l => decide (l ∈ [tx "set", tx "bag", tx "part", tx "twice"])
  | _ => false
def R_need_way (Q : Ads) : List D → Res → Prop := fun ds r => ∃ d, ds = [d] ∧ PD d ∧ r = if isWay d = true then .ok .non else .xc Q.BadWay
theorem ways_rp (M : Facts K mg Q) (G : Hp) : Rp K G (.ref Q.WAYS) (.tup ([tx "set", tx "bag", tx "part", tx "twice"].map D.str)) := .tup (M.t_WAYS G) (.cons (rp_str K G _) (.cons (rp_str K G _) (.cons (rp_str K G _) (.cons (rp_str K G _) .nil))))
theorem inD_strs (l : List Nat) (ls : List (List Nat)) : inD (.str l) (ls.map D.str) = decide (l ∈ ls) := by
  unfold inD
  induction ls with
  | nil => simp
  | cons m ls ih =>
    rw [List.map_cons, List.any_cons, ih, eqD_str]
    by_cases h : m = l
    · subst h; simp
    · have : ¬ l = m := fun z => h z.symm
      simp [h, this]
theorem flt_strs (ls : List (List Nat)) : (ls.map D.str).all flt = true := by
  rw [List.all_map]; simp [flt]
theorem ok_need_way (M : Facts K mg Q) : Fn P w K mg base T 1 "need_way" (R_need_way Q) := by
  refine mk_fn M.d_need_way sc_need_way (by rintro _ _ ⟨d, rfl, _⟩; rfl) (fun _ _ _ _ _ _ us hl => match us, hl with | [_], _ => rfl) (fun f cdv A outer s H E hr => ⟨_, (pss_one (ps_if (PW.pt (pw_or (pt_not (pt_val (pe_callB (k_isi (K := K) rfl) (by rfl) M.n_isinstance (by decide +kernel) (pa_cons (pv 0) (pa_cons (pe_bltn (v := .ty "str") (by rfl) M.n_str (by decide +kernel) rfl) pa_nil))))) (pw_or1 (pt_cmpR (k_notIn (K := K) rfl (hu_of hr)) (pv 0) (pe_gcn (by rfl) M.c_WAYS) (by rfl))))) (pss_one (ps_raise rfl (takes_of rfl rfl rfl rfl) (pmk_own PySem.F.excBase_ValueError M.x_BadWay.x M.x_BadWay.g M.x_BadWay.k (raises_own M.x_BadWay.b M.x_BadWay.t) (by exact rfl)))) pss_nil)), ?_⟩)
  rintro _ _ ⟨d, rfl, pd, rfl⟩
  cases d with
  | str l =>
    cases e : isWay (.str l) with
    | true => exact .inr ⟨rfl, _, es_if (et_or (et_not (et_B (ev_cb (ea_cons (ev_var rfl) (ea_cons ev_raw ea_nil)) (isi_str kt_str_str)))) fun _ => et_test (ev_op (ev_var rfl) (ev_c (ways_rp M)) (o_notInT (x := .str l) rfl (flt_strs _)))) (fun z => by rw [inD_strs] at z; rw [show decide (l ∈ [tx "set", tx "bag", tx "part", tx "twice"]) = true from e] at z; cases z) fun _ => es_next⟩
    | false => exact es_if (et_or (et_not (et_B (ev_cb (ea_cons (ev_var rfl) (ea_cons ev_raw ea_nil)) (isi_str kt_str_str)))) fun _ => et_test (ev_op (ev_var rfl) (ev_c (ways_rp M)) (o_notInT (x := .str l) rfl (flt_strs _)))) (fun _ => es_raise) (fun z => by rw [inD_strs] at z; rw [show decide (l ∈ [tx "set", tx "bag", tx "part", tx "twice"]) = false from e] at z; cases z)
  | non => exact es_if (et_or (y := true) (et_not (et_B (ev_cb (ea_cons (ev_var rfl) (ea_cons ev_raw ea_nil)) (isi_non kt_non_str)))) fun z => nomatch z) (fun _ => es_raise) (fun z => nomatch z)
  | bl => exact es_if (et_or (y := true) (et_not (et_B (ev_cb (ea_cons (ev_var rfl) (ea_cons ev_raw ea_nil)) (isi_bl kt_bool_str)))) fun z => nomatch z) (fun _ => es_raise) (fun z => nomatch z)
  | int => exact es_if (et_or (y := true) (et_not (et_B (ev_cb (ea_cons (ev_var rfl) (ea_cons ev_raw ea_nil)) (isi_int kt_int_str)))) fun z => nomatch z) (fun _ => es_raise) (fun z => nomatch z)
  | lst => exact es_if (et_or (y := true) (et_not (et_B (ev_cb (ea_cons (ev_var rfl) (ea_cons ev_raw ea_nil)) (isi_lst kt_list_str)))) fun z => nomatch z) (fun _ => es_raise) (fun z => nomatch z)
  | tup => exact es_if (et_or (y := true) (et_not (et_B (ev_cb (ea_cons (ev_var rfl) (ea_cons ev_raw ea_nil)) (isi_tup kt_tuple_str)))) fun z => nomatch z) (fun _ => es_raise) (fun z => nomatch z)
  | dct => exact es_if (et_or (y := true) (et_not (et_B (ev_cb (ea_cons (ev_var rfl) (ea_cons ev_raw ea_nil)) (isi_dct kt_dict_str)))) fun z => nomatch z) (fun _ => es_raise) (fun z => nomatch z)
  | scr l => exact absurd rfl (pd.2 l)
  | raw v => exact absurd rfl (pd.1 v)
/-- how many of two bags' pieces both have, and either -/
def bothNames (a b : Bag) : List (List Nat) := a.map (·.1) ++ (b.map (·.1)).filter fun p => !(a.any fun q => decide (q.1 = p))
def pairsOf (a b : Bag) (isBag : Bool) : List (Nat × Nat) := (bothNames a b).map fun p => if isBag then (getL a p, getL b p) else (min (getL a p) 1, min (getL b p) 1)
def sharedOf (a b : Bag) (isBag : Bool) : Nat × Nat := (((pairsOf a b isBag).map fun q => min q.1 q.2).sum, ((pairsOf a b isBag).map fun q => max q.1 q.2).sum)
def R_shared_of : List D → Res → Prop := fun ds r => ∃ (a b : Bag) (k : Bool), ds = [.dct (bagD a), .dct (bagD b), .bl k] ∧ a.length ≤ 1000 ∧ b.length ≤ 1000 ∧ r = .ok (.tup [.int ((sharedOf a b k).1 : Nat), .int ((sharedOf a b k).2 : Nat)])
theorem isSome_bag (a : Bag) (p : List Nat) : (valD (bagD a) (tk p)).isSome = (a.any fun q => decide (q.1 = p)) := by
  rw [valD_bag, Option.isSome_map]
  induction a with
  | nil => rfl
  | cons q a ih =>
    rw [List.find?_cons, List.any_cons]
    cases h : decide (q.1 = p) with
    | true => rfl
    | false => rw [ih]; rfl
theorem kD_bag (a : Bag) : (bagD a).map (fun kv => kD kv.1) = (a.map (·.1)).map D.str := by
  unfold bagD
  rw [List.map_map, List.map_map]; rfl
theorem sum_cast (ns : List Nat) : (ns.map fun n : Nat => (n : Int)).sum = ((ns.sum : Nat) : Int) := by
  induction ns with
  | nil => rfl
  | cons n ns ih => rw [List.map_cons, List.sum_cons, ih, List.sum_cons]; omega
theorem bothNames_len (a b : Bag) : (bothNames a b).length ≤ a.length + b.length := by
  unfold bothNames
  rw [List.length_append, List.length_map]
  have := List.length_filter_le (fun p => !(a.any fun q => decide (q.1 = p))) (b.map (·.1))
  rw [List.length_map] at this
  omega
def prD (q : Nat × Nat) : D := .tup [.int (q.1 : Nat), .int (q.2 : Nat)]
theorem ok_shared_of (M : Facts K mg Q) : Fn P w K mg base T 1 "shared_of" R_shared_of := by
  refine mk_fn M.d_shared_of sc_shared_of (by rintro _ _ ⟨a, b, k, rfl, _⟩; rfl) (fun _ _ _ _ _ _ us hl => match us, hl with | [_, _, _], _ => rfl) (fun f cdv A outer s H E hr => ⟨_, (pss_cons (ps_set (i := 3) sc_shared_of.nd rfl (Or.inl rfl) (pe_op op_addG (pe_callTy (k_list (K := K) rfl rfl) (by rfl) M.n_list (by decide +kernel) (pa_cons (pv 0) pa_nil)) (pe_lc (own := [("piece", 5)]) rfl sc_shared_of.nd (k_any' (K := K) rfl (pv 1)) (blkOk_by (N := N_shared_of) (sc := defScope s_shared_of) (by decide +kernel)) (fun _ _ _ _ _ => (pg_name (i := 5) sc_shared_of.nd rfl (Or.inl rfl))) (fun _ _ _ _ _ => (pts_one (pt_cmpR (k_notIn (K := K) rfl (hu_of hr)) (pv 5) (pv 0) (by rfl)))) (fun _ _ _ _ _ => (pv 5)))))
      (pss_cons (ps_setLc (i := 4) (own := [("piece", 5)]) rfl sc_shared_of.nd rfl rfl (sw_true rfl rfl rfl (by decide +kernel)) (k_any' (K := K) rfl (pv 3)) (blkOk_by (N := N_shared_of) (sc := defScope s_shared_of) (by decide +kernel)) (fun _ _ _ _ _ => (pg_name (i := 5) sc_shared_of.nd rfl (Or.inl rfl))) (fun _ _ _ _ _ => pts_nil) (fun _ _ _ _ _ => (pe_tup (pa_cons (pe_dget2 (hu_of hr) (pv 0) (pv 5) pe_int ⟨rfl, rfl, rfl, rfl⟩) (pa_cons (pe_dget2 (hu_of hr) (pv 1) (pv 5) pe_int ⟨rfl, rfl, rfl, rfl⟩) pa_nil)))))
      (pss_cons (ps_if (pt_not (pt_val (pv 2))) (pss_one (ps_setLc (i := 4) (own := [("mine", 6), ("its", 7)]) rfl sc_shared_of.nd rfl rfl (sw_true rfl rfl rfl (by decide +kernel)) (k_any' (K := K) rfl (pv 4)) (blkOk_by (N := N_shared_of) (sc := defScope s_shared_of) (by decide +kernel)) (fun _ _ _ _ _ => (k_tup (K := K) (n := 2) rfl rfl (pgs_cons (pg_name (i := 6) sc_shared_of.nd rfl (Or.inl rfl)) (pgs_cons (pg_name (i := 7) sc_shared_of.nd rfl (Or.inl rfl)) pgs_nil)))) (fun _ _ _ _ _ => pts_nil) (fun _ _ _ _ _ => (pe_tup (pa_cons (pe_callB (k_min (K := K) rfl rfl hr.units) (by rfl) M.n_min (by decide +kernel) (pa_cons (pv 6) (pa_cons pe_int pa_nil))) (pa_cons (pe_callB (k_min (K := K) rfl rfl hr.units) (by rfl) M.n_min (by decide +kernel) (pa_cons (pv 7) (pa_cons pe_int pa_nil))) pa_nil)))))) pss_nil)
      (pss_one (ps_ret (pe_tup (pa_cons (pe_callB (k_sum (K := K) rfl rfl) (by rfl) M.n_sum (by decide +kernel) (pa_cons (pe_lc (own := [("pair", 8)]) rfl sc_shared_of.nd (k_any' (K := K) rfl (pv 4)) (blkOk_by (N := N_shared_of) (sc := defScope s_shared_of) (by decide +kernel)) (fun _ _ _ _ _ => (pg_name (i := 8) sc_shared_of.nd rfl (Or.inl rfl))) (fun _ _ _ _ _ => pts_nil) (fun _ _ _ _ _ => (pe_callB (k_min (K := K) rfl rfl hr.units) (by rfl) M.n_min (by decide +kernel) (pa_cons (pv 8) pa_nil)))) pa_nil)) (pa_cons (pe_callB (k_sum (K := K) rfl rfl) (by rfl) M.n_sum (by decide +kernel) (pa_cons (pe_lc (own := [("pair", 8)]) rfl sc_shared_of.nd (k_any' (K := K) rfl (pv 4)) (blkOk_by (N := N_shared_of) (sc := defScope s_shared_of) (by decide +kernel)) (fun _ _ _ _ _ => (pg_name (i := 8) sc_shared_of.nd rfl (Or.inl rfl))) (fun _ _ _ _ _ => pts_nil) (fun _ _ _ _ _ => (pe_callB (k_max (K := K) rfl rfl hr.units) (by rfl) M.n_max (by decide +kernel) (pa_cons (pv 8) pa_nil)))) pa_nil)) pa_nil)))))))), ?_⟩)
  rintro _ _ ⟨a, b, k, rfl, ha, hb, rfl⟩
  have hlen := bothNames_len a b
  -- names
  refine .inl (es_seq (es_set (d := .lst ((bothNames a b).map D.str)) ?names) (es_seq (es_set (d := .lst (((bothNames a b).map fun p => (getL a p, getL b p)).map prD)) ?pairs) (es_seq (ρ1 := [some (.sh (.dct (bagD a))), some (.sh (.dct (bagD b))), some (.sh (.bl k)), some (.sh (.lst ((bothNames a b).map D.str))), some (.sh (.lst ((pairsOf a b k).map prD))), none, none, none, none]) ?bag (es_ret ?ret))))
  case names =>
    refine (ev_op (ev_cb (ea_cons (ev_var rfl) ea_nil) c_listD) (ev_lcG D.str (b.map (·.1)) D.str (fun p => !(a.any fun q => decide (q.1 = p))) id ?_ (by simp; omega) fun i p _ => ⟨_, _, eg_name, by decide, ?_, fun _ => ev_var rfl⟩) (o_addl ?_)).is ?_
    · have := ei_dict (K := K) (T := T) (ρ := startD N_shared_of [.dct (bagD a), .dct (bagD b), .bl k]) (kvs := bagD b) (te := tVar 1) (ev_var rfl)
      rw [kD_bag] at this
      exact this
    · refine (et_test (ev_op (ev_var rfl) (ev_var rfl) (o_notInD (k := tk p)))).is ?_
      rw [isSome_bag]
    · have := List.length_filter_le (fun p => !(a.any fun q => decide (q.1 = p))) (b.map (·.1))
      rw [List.length_map] at this
      simp only [List.length_map, bagD]; omega
    · rw [kD_bag, List.map_id, ← List.map_append]; rfl
  case pairs =>
    exact ev_lcM prD (bothNames a b) D.str _ (ei_list (ev_var rfl)) (by omega) fun i p _ => ⟨_, _, eg_name, by decide, ev_tup (ea_cons ((ev_dget2 (k := tk p) (ev_var rfl) (ev_var rfl) ev_int).is (getD_bag a p)) (ea_cons ((ev_dget2 (k := tk p) (ev_var rfl) (ev_var rfl) ev_int).is (getD_bag b p)) ea_nil)) (by simp)⟩
  case bag =>
    cases k with
    | true => exact es_if (et_not (et_B (ev_var rfl))) (fun z => nomatch z) fun _ => es_next
    | false =>
      refine es_if (et_not (et_B (ev_var rfl))) (fun _ => ?_) (fun z => nomatch z)
      have e : pairsOf a b false = ((bothNames a b).map fun p => (getL a p, getL b p)).map fun q => (min q.1 1, min q.2 1) := by
        unfold pairsOf
        rw [List.map_map]; rfl
      rw [e]
      refine es_set (ev_lcM prD ((bothNames a b).map fun p => (getL a p, getL b p)) prD (fun q => (min q.1 1, min q.2 1)) (ei_list (ev_var rfl)) (by simp; omega) fun i q _ => ⟨_, _, eg_tup rfl (egs_cons eg_name (egs_cons eg_name egs_nil)), by decide, ?_⟩)
      refine (ev_tup (ea_cons (ev_cb (ea_cons (ev_var rfl) (ea_cons ev_int ea_nil)) c_min2) (ea_cons (ev_cb (ea_cons (ev_var rfl) (ea_cons ev_int ea_nil)) c_min2) ea_nil)) (by simp)).is ?_
      simp only [prD]
      congr 2
      · congr 1; omega
      · congr 2; omega
  case ret =>
    have pl : (pairsOf a b k).length ≤ 100000 := by unfold pairsOf; rw [List.length_map]; omega
    refine (ev_tup (ea_cons (ev_cb (ea_cons (ev_lcM D.int (pairsOf a b k) prD (fun q => ((min q.1 q.2 : Nat) : Int)) (ei_list (ev_var rfl)) pl fun i q _ => ⟨_, _, eg_name, by decide, ?_⟩) ea_nil) c_sum)
      (ea_cons (ev_cb (ea_cons (ev_lcM D.int (pairsOf a b k) prD (fun q => ((max q.1 q.2 : Nat) : Int)) (ei_list (ev_var rfl)) pl fun i q _ => ⟨_, _, eg_name, by decide, ?_⟩) ea_nil) c_sum) ea_nil)) (by simp)).is ?_
    · refine (ev_cb (ea_cons (ev_var rfl) ea_nil) (c_minP (i := (q.1 : Nat)) (j := (q.2 : Nat)))).is ?_
      congr 1; omega
    · refine (ev_cb (ea_cons (ev_var rfl) ea_nil) (c_maxP (i := (q.1 : Nat)) (j := (q.2 : Nat)))).is ?_
      congr 1; omega
    · have e1 := sum_cast ((pairsOf a b k).map fun q => min q.1 q.2)
      have e2 := sum_cast ((pairsOf a b k).map fun q => max q.1 q.2)
      rw [List.map_map] at e1 e2
      unfold sharedOf
      rw [← e1, ← e2]; rfl
def SET : List Nat := tx "set"
def BAG : List Nat := tx "bag"
def PART : List Nat := tx "part"
def TWICE : List Nat := tx "twice"
/-- how like two bags are by a way -/
def likeOf (a b : Bag) (way : List Nat) : Nat × Nat :=
  if way = SET ∨ way = BAG then frac (sharedOf a b (decide (way = BAG))).1 (sharedOf a b (decide (way = BAG))).2
  else if way = PART then frac (sharedOf a b (decide (way = BAG))).1 a.length
  else frac (2 * (sharedOf a b (decide (way = BAG))).1) (a.length + b.length)
theorem sum_map_le {α : Type} (f : α → Nat) (c : Nat) : ∀ l : List α, (∀ x ∈ l, f x ≤ c) → (l.map f).sum ≤ l.length * c
  | [], _ => by simp
  | x :: l, h => by
    have h1 := h x List.mem_cons_self
    have h2 := sum_map_le f c l fun y hy => h y (List.mem_cons_of_mem _ hy)
    rw [List.map_cons, List.sum_cons, List.length_cons, Nat.add_mul]; omega
/-- a bag of few pieces, each few times -/
structure Few (a : Bag) : Prop where
  len : a.length ≤ 50
  get : ∀ p, getL a p ≤ 50
theorem sharedOf_le {a b : Bag} (ha : Few a) (hb : Few b) (k : Bool) : (sharedOf a b k).1 ≤ 5000 ∧ (sharedOf a b k).2 ≤ 5000 := by
  have pl : (pairsOf a b k).length ≤ 100 := by
    unfold pairsOf
    rw [List.length_map]
    have := bothNames_len a b
    have h1 := ha.len
    have h2 := hb.len
    omega
  have pe : ∀ q ∈ pairsOf a b k, q.1 ≤ 50 ∧ q.2 ≤ 50 := by
    intro q hq
    obtain ⟨p, _, rfl⟩ := List.mem_map.mp hq
    have h1 := ha.get p
    have h2 := hb.get p
    split <;> simp <;> omega
  have g1 := sum_map_le (fun q : Nat × Nat => min q.1 q.2) 50 (pairsOf a b k) fun q hq => by have := pe q hq; omega
  have g2 := sum_map_le (fun q : Nat × Nat => max q.1 q.2) 50 (pairsOf a b k) fun q hq => by have := pe q hq; omega
  constructor
  · exact Nat.le_trans g1 (Nat.le_trans (Nat.mul_le_mul_right 50 pl) (by decide))
  · exact Nat.le_trans g2 (Nat.le_trans (Nat.mul_le_mul_right 50 pl) (by decide))
def R_like_of : List D → Res → Prop := fun ds r => ∃ (a b : Bag) (way : List Nat), ds = [.dct (bagD a), .dct (bagD b), .str way] ∧ Few a ∧ Few b ∧ (way = SET ∨ way = BAG ∨ way = PART ∨ way = TWICE) ∧ r = .ok (frD (likeOf a b way))
theorem sh_str {n : Nat} {l : List Nat} (h : ∀ c ∈ l, c < 1114112) : Sh n (.str l) := .str h
theorem sh_way {n : Nat} {way : List Nat} (h : way = SET ∨ way = BAG ∨ way = PART ∨ way = TWICE) : Sh n (.str way) := .str (by rcases h with rfl | rfl | rfl | rfl <;> decide)
theorem ok_like_of (M : Facts K mg Q) : Fn P w K mg base T 3 "like_of" R_like_of := by
  refine mk_fn M.d_like_of sc_like_of (by rintro _ _ ⟨a, b, k, rfl, _⟩; rfl) (fun _ _ _ _ _ _ us hl => match us, hl with | [_, _, _], _ => rfl) (fun f cdv A outer s H E hr => ⟨_, (pss_cons (ps_asg (k_fn (K := K) (T := T) ⟨rfl, rfl, rfl, rfl, rfl⟩ (ok_shared_of M) hr (by decide) (by rfl) (pcall (takes_of rfl rfl rfl rfl) (fun _ _ _ _ h => h)) (pa_cons (pv 0) (pa_cons (pv 1) (pa_cons (pe_cmpR (k_eq (K := K) rfl hr.units) (pv 2) pe_str (nomark _)) pa_nil)))) (k_tup (K := K) (n := 2) rfl rfl (pgs_cons (pg_name (i := 3) sc_like_of.nd rfl (Or.inl rfl)) (pgs_cons (pg_name (i := 4) sc_like_of.nd rfl (Or.inl rfl)) pgs_nil))))
      (pss_cons (ps_if (pt_cmpR (k_in (K := K) rfl (hu_of hr)) (pv 2) (pe_tup (pa_cons pe_str (pa_cons pe_str pa_nil))) (by rfl)) (pss_one (ps_ret (k_fn (K := K) (T := T) ⟨rfl, rfl, rfl, rfl, rfl⟩ (ok_fraction M) hr (by decide) (by rfl) (pcall (takes_of rfl rfl rfl rfl) (fun _ _ _ _ h => h)) (pa_cons (pv 3) (pa_cons (pv 4) pa_nil))))) pss_nil)
      (pss_cons (ps_if (pt_cmpR (k_eq (K := K) rfl hr.units) (pv 2) pe_str (nomark _)) (pss_one (ps_ret (k_fn (K := K) (T := T) ⟨rfl, rfl, rfl, rfl, rfl⟩ (ok_fraction M) hr (by decide) (by rfl) (pcall (takes_of rfl rfl rfl rfl) (fun _ _ _ _ h => h)) (pa_cons (pv 3) (pa_cons (pe_callB (k_len (K := K) rfl) (by rfl) M.n_len PySem.boot_len (pa_cons (pv 0) pa_nil)) pa_nil))))) pss_nil)
      (pss_one (ps_ret (k_fn (K := K) (T := T) ⟨rfl, rfl, rfl, rfl, rfl⟩ (ok_fraction M) hr (by decide) (by rfl) (pcall (takes_of rfl rfl rfl rfl) (fun _ _ _ _ h => h)) (pa_cons (pe_op op_mulG pe_int (pv 3)) (pa_cons (pe_op op_addG (pe_callB (k_len (K := K) rfl) (by rfl) M.n_len PySem.boot_len (pa_cons (pv 0) pa_nil)) (pe_callB (k_len (K := K) rfl) (by rfl) M.n_len PySem.boot_len (pa_cons (pv 1) pa_nil))) pa_nil)))))))), ?_⟩)
  rintro _ _ ⟨a, b, way, rfl, ha, hb, hw, rfl⟩
  have hs := sharedOf_le ha hb (decide (way = BAG))
  have hal := ha.len
  have hbl := hb.len
  refine .inl (es_seq (es_asg (ev_call (d := .tup [.int ((sharedOf a b (decide (way = BAG))).1 : Nat), .int ((sharedOf a b (decide (way = BAG))).2 : Nat)]) (ea_cons (ev_var rfl) (ea_cons (ev_var rfl) (ea_cons ((ev_op (ev_var rfl) ev_str (o_eq (sh_way hw) (sh_str (by decide)))).is (show _ = D.bl (decide (way = BAG)) by rw [eqD_str]; rfl)) ea_nil))) ⟨a, b, _, rfl, by omega, by omega, rfl⟩) (eg_tup rfl (egs_cons eg_name (egs_cons eg_name egs_nil)))) ?_)
  unfold likeOf
  by_cases h1 : way = SET ∨ way = BAG
  · rw [if_pos h1]
    refine es_rt (es_if ((et_test (ev_op (ev_var rfl) (ev_tup (ea_cons ev_str (ea_cons ev_str ea_nil)) (by simp)) (o_inT (x := .str way) (ds := [tx "set", tx "bag"].map D.str) rfl rfl))).is (show _ = true by rw [inD_strs]; exact decide_eq_true (by rcases h1 with h | h <;> (rw [h]; decide)))) (fun _ => es_ret (ev_call (ea_cons (ev_var rfl) (ea_cons (ev_var rfl) ea_nil)) ⟨_, _, rfl, by omega, rfl⟩)) (fun z => nomatch z))
  · rw [if_neg h1]
    refine es_seq (es_if ((et_test (ev_op (ev_var rfl) (ev_tup (ea_cons ev_str (ea_cons ev_str ea_nil)) (by simp)) (o_inT (x := .str way) (ds := [tx "set", tx "bag"].map D.str) rfl rfl))).is (show _ = false by
      rw [inD_strs]
      exact decide_eq_false (by
        intro z
        simp only [List.mem_cons, List.not_mem_nil, or_false] at z
        exact h1 z))) (fun z => nomatch z) (fun _ => es_next)) ?_
    by_cases h2 : way = PART
    · rw [if_pos h2]
      exact es_rt (es_if ((et_test (ev_op (ev_var rfl) ev_str (o_eq (sh_way hw) (sh_str (by decide))))).is (show _ = true by rw [eqD_str]; exact decide_eq_true h2)) (fun _ => es_ret (ev_call (ea_cons (ev_var rfl) (ea_cons ((ev_cb (ea_cons (ev_var rfl) ea_nil) c_lenD).is (by simp [bagD])) ea_nil)) ⟨_, _, rfl, by omega, rfl⟩)) (fun z => nomatch z))
    · rw [if_neg h2]
      refine es_seq (es_if ((et_test (ev_op (ev_var rfl) ev_str (o_eq (sh_way hw) (sh_str (by decide))))).is (show _ = false by rw [eqD_str]; exact decide_eq_false h2)) (fun z => nomatch z) (fun _ => es_next)) (es_ret ?_)
      refine ev_call (ea_cons ((ev_op ev_int (ev_var rfl) (o_mulL (by decide) (by decide))).is (b := .int ((2 * (sharedOf a b (decide (way = BAG))).1 : Nat) : Int)) (by congr 1)) (ea_cons ((ev_op (ev_cb (ea_cons (ev_var rfl) ea_nil) c_lenD) (ev_cb (ea_cons (ev_var rfl) ea_nil) c_lenD) o_add).is (b := .int ((a.length + b.length : Nat) : Int)) (by simp [bagD])) ea_nil)) ⟨_, _, rfl, by omega, rfl⟩
theorem okT_len {l : List Nat} (h : okT l = true) : l.length ≤ 40 := by
  unfold okT at h
  rw [Bool.and_eq_true] at h
  exact of_decide_eq_true h.1
theorem nt_ok {l : List Nat} (h : okT l = true) : R_need_text Q [.str l] (.ok .non) := ⟨_, rfl, td_str (by have := okT_len h; omega), by rw [if_pos (show isText (.str l) = true from h)]⟩
theorem nt_no {d : D} (td : TD d) (h : isText d = false) : R_need_text Q [d] (.xc Q.BadText) := ⟨_, rfl, td, by rw [if_neg (by rw [h]; exact Bool.false_ne_true)]⟩
theorem pd_int (i : Int) : PD (.int i) := ⟨(by intro _ z; cases z), (by intro _ z; cases z)⟩
theorem cnt_ok {n lo hi : Int} (h1 : lo ≤ n) (h2 : n ≤ hi) : isCount (.int n) lo hi = true := by simp [isCount, h1, h2]
theorem nz_ok {n : Nat} (h1 : 1 ≤ n) (h2 : n ≤ 6) : R_need_size Q [.int n] (.ok .non) := ⟨_, rfl, pd_int _, by rw [if_pos (cnt_ok (by omega) (by omega))]⟩
theorem nz_no {d : D} (pd : PD d) (h : isCount d 1 6 = false) : R_need_size Q [d] (.xc Q.BadSize) := ⟨_, rfl, pd, by rw [if_neg (by rw [h]; exact Bool.false_ne_true)]⟩
/-- what stands ahead of every work at a text and a size -/
inductive Chk (Q : Ads) : D → D → Option Addr → Prop
  | ok {l : List Nat} {n : Nat} : okT l = true → 1 ≤ n → n ≤ 6 → Chk Q (.str l) (.int n) none
  | text {d s : D} : TD d → isText d = false → Chk Q d s (some Q.BadText)
  | size {d s : D} : TD d → isText d = true → PD s → isCount s 1 6 = false → Chk Q d s (some Q.BadSize)
theorem nt_yes {d : D} (td : TD d) (h : isText d = true) : R_need_text Q [d] (.ok .non) := ⟨_, rfl, td, by rw [if_pos h]⟩
theorem bagOf_len (l : List Nat) (n : Nat) : (bagOf l n).length ≤ l.length + 1 - n := by
  have := bagL_len (rowOf l n)
  rw [rowOf_len] at this
  exact this
theorem find_putL (b : Bag) (p q : List Nat) (c : Nat) : getL (putL b p c) q = if q = p then c else getL b q := by
  unfold getL putL
  by_cases h : (b.any fun z => decide (z.1 = p)) = true
  · rw [if_pos h]
    induction b with
    | nil => cases h
    | cons z b ih =>
      rw [List.map_cons, List.find?_cons, List.find?_cons]
      by_cases hz : z.1 = p
      · by_cases hq : q = p
        · subst hq; simp [hz]
        · have : ¬ p = q := fun e => hq e.symm
          simp only [hz, if_true, this, decide_false, hq, if_false]
          by_cases hb : (b.any fun z => decide (z.1 = p)) = true
          · have := ih hb; simpa [hq] using this
          · have e : b.map (fun q => if q.1 = p then (q.1, c) else q) = b := by
              have : ∀ x ∈ b, (fun q : List Nat × Nat => if q.1 = p then (q.1, c) else q) x = x := by
                intro x hx
                have hn : ¬ x.1 = p := fun e => hb (List.any_eq_true.mpr ⟨x, hx, by simp [e]⟩)
                simp [hn]
              rw [List.map_congr_left this, List.map_id']
            rw [e]
      · have hb : (b.any fun z => decide (z.1 = p)) = true := by simpa [hz] using h
        simp only [hz, if_false]
        by_cases hq : z.1 = q
        · have : ¬ q = p := fun e => hz (hq.trans e)
          simp [hq, this]
        · simp only [hq, decide_false]
          exact ih hb
  · rw [if_neg h]
    have hn : ∀ x ∈ b, ¬ x.1 = p := fun x hx e => h (List.any_eq_true.mpr ⟨x, hx, by simp [e]⟩)
    rw [List.find?_append]
    by_cases hq : q = p
    · subst hq
      have : b.find? (fun z => decide (z.1 = q)) = none := List.find?_eq_none.mpr fun x hx => by simpa using hn x hx
      rw [this]; simp
    · have hp : ¬ p = q := fun e => hq e.symm
      rw [if_neg hq]
      cases e : b.find? (fun z => decide (z.1 = q)) with
      | some z => rfl
      | none => simp [hp]
theorem getL_bagL (ps : List (List Nat)) (p : List Nat) : getL (bagL ps) p = ps.count p := by
  have gen : ∀ (qs : List (List Nat)) (b : Bag), getL (qs.foldl addP b) p = getL b p + qs.count p := by
    intro qs
    induction qs with
    | nil => intro b; rfl
    | cons q qs ih =>
      intro b
      rw [List.foldl_cons, ih]
      unfold addP
      rw [find_putL, List.count_cons]
      by_cases h : p = q
      · subst h; simp; omega
      · have : ¬ q = p := fun e => h e.symm
        simp [h, this]
  have := gen ps []
  simpa [getL, bagL] using this
theorem few_of {l : List Nat} {n : Nat} (h : okT l = true) : Few (bagOf l n) := by
  have hl := okT_len h
  refine ⟨by have := bagOf_len l n; omega, fun p => ?_⟩
  unfold bagOf
  rw [getL_bagL]
  have h1 : (rowOf l n).count p ≤ (rowOf l n).length := List.count_le_length
  rw [rowOf_len] at h1
  omega
theorem isWay_of {way : List Nat} (h : way = SET ∨ way = BAG ∨ way = PART ∨ way = TWICE) : isWay (.str way) = true := decide_eq_true (by rcases h with rfl | rfl | rfl | rfl <;> decide)
inductive Chk2 (Q : Ads) : D → D → D → Addr → Prop
  | one {d e s : D} : TD d → isText d = false → Chk2 Q d e s Q.BadText
  | two {d e s : D} : TD d → isText d = true → TD e → isText e = false → Chk2 Q d e s Q.BadText
  | size {d e s : D} : TD d → isText d = true → TD e → isText e = true → PD s → isCount s 1 6 = false → Chk2 Q d e s Q.BadSize
def R_like (Q : Ads) : List D → Res → Prop := fun ds r => ∃ d e s wy, ds = [d, e, s, wy] ∧ ((∃ (l m : List Nat) (n : Nat) (way : List Nat), d = .str l ∧ e = .str m ∧ s = .int n ∧ wy = .str way ∧ okT l = true ∧ okT m = true ∧ 1 ≤ n ∧ n ≤ 6 ∧ (way = SET ∨ way = BAG ∨ way = PART ∨ way = TWICE) ∧ r = .ok (frD (likeOf (bagOf l n) (bagOf m n) way))) ∨
  (∃ x, Chk2 Q d e s x ∧ r = .xc x) ∨ (TD d ∧ isText d = true ∧ TD e ∧ isText e = true ∧ PD s ∧ isCount s 1 6 = true ∧ PD wy ∧ isWay wy = false ∧ r = .xc Q.BadWay))
theorem nz_yes {d : D} (pd : PD d) (h : isCount d 1 6 = true) : R_need_size Q [d] (.ok .non) := ⟨_, rfl, pd, by rw [if_pos h]⟩
theorem nw_yes {d : D} (pd : PD d) (h : isWay d = true) : R_need_way Q [d] (.ok .non) := ⟨_, rfl, pd, by rw [if_pos h]⟩
theorem nw_no {d : D} (pd : PD d) (h : isWay d = false) : R_need_way Q [d] (.xc Q.BadWay) := ⟨_, rfl, pd, by rw [if_neg (by rw [h]; exact Bool.false_ne_true)]⟩
theorem pd_str (l : List Nat) : PD (.str l) := ⟨(by intro _ z; cases z), (by intro _ z; cases z)⟩
theorem ok_like (M : Facts K mg Q) : Fn P w K mg base T 4 "like" (R_like Q) := by
  refine mk_fn M.d_like sc_like (by rintro _ _ ⟨a, b, k, z, rfl, _⟩; rfl) (fun _ _ _ _ _ _ us hl => match us, hl with | [_, _, _, _], _ => rfl) (fun f cdv A outer s H E hr => ⟨_, (pss_cons (ps_expr (k_fn (K := K) (T := T) ⟨rfl, rfl, rfl, rfl, rfl⟩ (ok_need_text M) hr (by decide) (by rfl) (pcall (takes_of rfl rfl rfl rfl) (fun _ _ _ _ h => h)) (pa_cons (pv 0) pa_nil)))
      (pss_cons (ps_expr (k_fn (K := K) (T := T) ⟨rfl, rfl, rfl, rfl, rfl⟩ (ok_need_text M) hr (by decide) (by rfl) (pcall (takes_of rfl rfl rfl rfl) (fun _ _ _ _ h => h)) (pa_cons (pv 1) pa_nil)))
      (pss_cons (ps_expr (k_fn (K := K) (T := T) ⟨rfl, rfl, rfl, rfl, rfl⟩ (ok_need_size M) hr (by decide) (by rfl) (pcall (takes_of rfl rfl rfl rfl) (fun _ _ _ _ h => h)) (pa_cons (pv 2) pa_nil)))
      (pss_cons (ps_expr (k_fn (K := K) (T := T) ⟨rfl, rfl, rfl, rfl, rfl⟩ (ok_need_way M) hr (by decide) (by rfl) (pcall (takes_of rfl rfl rfl rfl) (fun _ _ _ _ h => h)) (pa_cons (pv 3) pa_nil)))
      (pss_one (ps_ret (k_fn (K := K) (T := T) ⟨rfl, rfl, rfl, rfl, rfl⟩ (ok_like_of M) hr (by decide) (by rfl) (pcall (takes_of rfl rfl rfl rfl) (fun _ _ _ _ h => h)) (pa_cons (k_fn (K := K) (T := T) ⟨rfl, rfl, rfl, rfl, rfl⟩ (ok_bag_of M) hr (by decide) (by rfl) (pcall (takes_of rfl rfl rfl rfl) (fun _ _ _ _ h => h)) (pa_cons (pv 0) (pa_cons (pv 2) pa_nil))) (pa_cons (k_fn (K := K) (T := T) ⟨rfl, rfl, rfl, rfl, rfl⟩ (ok_bag_of M) hr (by decide) (by rfl) (pcall (takes_of rfl rfl rfl rfl) (fun _ _ _ _ h => h)) (pa_cons (pv 1) (pa_cons (pv 2) pa_nil))) (pa_cons (pv 3) pa_nil)))))))))), ?_⟩)
  rintro _ _ ⟨d, e, s, wy, rfl, ⟨l, m, n, way, rfl, rfl, rfl, rfl, hl, hm, h1, h2, hw, rfl⟩ | ⟨x, h, rfl⟩ | ⟨td, hd, te, he, ps, hs, pw, hw, rfl⟩⟩
  · have l1 := okT_len hl
    have l2 := okT_len hm
    exact .inl (es_seq (es_drop (ev_call (ea_cons (ev_var rfl) ea_nil) (nt_ok hl))) (es_seq (es_drop (ev_call (ea_cons (ev_var rfl) ea_nil) (nt_ok hm))) (es_seq (es_drop (ev_call (ea_cons (ev_var rfl) ea_nil) (nz_ok h1 h2))) (es_seq (es_drop (ev_call (ea_cons (ev_var rfl) ea_nil) (nw_yes (pd_str _) (isWay_of hw))))
      (es_ret (ev_call (ea_cons (ev_call (ea_cons (ev_var rfl) (ea_cons (ev_var rfl) ea_nil)) ⟨l, n, rfl, h1, by omega, by omega, rfl⟩) (ea_cons (ev_call (ea_cons (ev_var rfl) (ea_cons (ev_var rfl) ea_nil)) ⟨m, n, rfl, h1, by omega, by omega, rfl⟩) (ea_cons (ev_var rfl) ea_nil))) ⟨_, _, _, rfl, few_of hl, few_of hm, hw, rfl⟩))))))
  · cases h with
    | one td h => exact es_xc (es_dropX (ex_call (ea_cons (ev_var rfl) ea_nil) (nt_no td h)))
    | two td h te h2 => exact es_seq (es_drop (ev_call (ea_cons (ev_var rfl) ea_nil) (nt_yes td h))) (es_xc (es_dropX (ex_call (ea_cons (ev_var rfl) ea_nil) (nt_no te h2))))
    | size td h te h2 pd hs => exact es_seq (es_drop (ev_call (ea_cons (ev_var rfl) ea_nil) (nt_yes td h))) (es_seq (es_drop (ev_call (ea_cons (ev_var rfl) ea_nil) (nt_yes te h2))) (es_xc (es_dropX (ex_call (ea_cons (ev_var rfl) ea_nil) (nz_no pd hs)))))
  · exact es_seq (es_drop (ev_call (ea_cons (ev_var rfl) ea_nil) (nt_yes td hd))) (es_seq (es_drop (ev_call (ea_cons (ev_var rfl) ea_nil) (nt_yes te he))) (es_seq (es_drop (ev_call (ea_cons (ev_var rfl) ea_nil) (nz_yes ps hs))) (es_xc (es_dropX (ex_call (ea_cons (ev_var rfl) ea_nil) (nw_no pw hw))))))
/-- a cell by its place -/
def cellL (ns : List Int) (k : Nat) : Int := if ns = [] then (k : Int) * 7919 else ns.getD (k % ns.length) 0 + ((k / ns.length : Nat) : Int) * 104729
def R__law_cell : List D → Res → Prop := fun ds r => ∃ (ns : List Int) (k : Nat), ds = [.scr ns, .int k] ∧ ns.length ≤ 63 ∧ k ≤ 1000 ∧ r = .ok (.int (cellL ns k))
theorem eqD_scr_nil (ns : List Int) : eqD (.scr ns) (.lst []) = decide (ns = []) := by
  cases ns <;> simp [eqD, toPy, toPyA, PyData.eqv, PyData.eqvAll]
theorem ok__law_cell (M : Facts K mg Q) : Fn P w K mg base T 1 "_law_cell" R__law_cell := by
  refine mk_fn M.d__law_cell sc__law_cell (by rintro _ _ ⟨a, b, rfl, _⟩; rfl) (fun _ _ _ _ _ _ us hl => match us, hl with | [_, _], _ => rfl) (fun f cdv A outer s H E hr => ⟨_, (pss_cons (ps_if (pt_cmpR (k_eq (K := K) rfl hr.units) (pv 0) (pe_lst pa_nil) (nomark _)) (pss_one (ps_ret (pe_op op_mulG (pv 1) pe_int))) pss_nil)
      (pss_one (ps_ret (pe_op op_addG (k_sub (K := K) rfl (hu_of hr) (pv 0) (pe_op op_modG (pv 1) (pe_callB (k_len (K := K) rfl) (by rfl) M.n_len PySem.boot_len (pa_cons (pv 0) pa_nil))) (fun _ _ => rfl) (fun _ _ => rfl)) (pe_op op_mulG (pe_op op_divG (pv 1) (pe_callB (k_len (K := K) rfl) (by rfl) M.n_len PySem.boot_len (pa_cons (pv 0) pa_nil))) pe_int))))), ?_⟩)
  rintro _ _ ⟨ns, k, rfl, hn, hk, rfl⟩
  unfold cellL
  by_cases h : ns = []
  · rw [if_pos h]
    exact .inl (es_rt (es_if ((et_test (ev_op (ev_var rfl) (ev_lst ea_nil (by simp)) (o_eq (.scr _) (.lst (by simp))))).is (show _ = true by rw [eqD_scr_nil]; exact decide_eq_true h)) (fun _ => es_ret (ev_op (ev_var rfl) ev_int (o_mulL (by omega) (by omega)))) (fun z => nomatch z)))
  · rw [if_neg h]
    have hp : 0 < ns.length := List.length_pos_iff.mpr h
    have hm : k % ns.length < ns.length := Nat.mod_lt _ hp
    refine .inl (es_seq (es_if ((et_test (ev_op (ev_var rfl) (ev_lst ea_nil (by simp)) (o_eq (.scr _) (.lst (by simp))))).is (show _ = false by rw [eqD_scr_nil]; exact decide_eq_false h)) (fun z => nomatch z) (fun _ => es_next)) (es_ret ?_))
    have hd : k / ns.length ≤ k := Nat.div_le_self _ _
    refine (ev_op (ev_ixScr (n := ns.getD (k % ns.length) 0) (ev_var rfl) (ev_op (ev_var rfl) (ev_cb (ea_cons (ev_var rfl) ea_nil) c_lenScr) (o_mod (by omega))) ?_) (ev_op (ev_op (ev_var rfl) (ev_cb (ea_cons (ev_var rfl) ea_nil) c_lenScr) (o_div (by omega) (by omega))) ev_int (o_mul (mulok_r (by decide) (by decide)))) o_add).is ?_
    · have : (k : Int) % (ns.length : Int) = ((k % ns.length : Nat) : Int) := rfl
      rw [this]
      exact atI_nat (by rw [List.getD_eq_getElem?_getD, List.getElem?_eq_getElem hm]; rfl)
    · rfl
def M1 : Int := 340282366920938463463374607431768211507
def dA (c : Int) (k : Nat) : Int := (c * 6364136223846793005 + ((k : Int) + 1) * 1442695040888963407) % 340282366920938463463374607431768211507
def dB (a : Int) : Int := a * a % 340282366920938463463374607431768211297
def dC (b : Int) : Int := ((b % 18446744073709551557 + 1) * (b / 18446744073709551557 + 1) * b) % 340282366920938463463374607431768211507
def drawn (c : Int) (k : Nat) : Int := dC (dB (dA c k))
theorem drawn_nn (c : Int) (k : Nat) : 0 ≤ drawn c k := Int.emod_nonneg _ (by decide)
theorem drawn_lt (c : Int) (k : Nat) : drawn c k < M1 := Int.emod_lt_of_pos _ (by decide)
def R__law_drawn : List D → Res → Prop := fun ds r => ∃ (c : Int) (k : Nat), ds = [.int c, .int k] ∧ k ≤ 100000 ∧ r = .ok (.int (drawn c k))
theorem small_mul {i j : Int} (hi : 0 ≤ i ∧ i < 2 ^ 250) (hj : 0 ≤ j ∧ j < 2 ^ 250) : IntMulOk i j := CMulW.ok (wide_mul (a := 250) (b := 250) (by have := hi.1; have := hi.2; omega) (by have := hj.1; have := hj.2; omega) (by decide) (by decide) (by decide))
theorem ok__law_drawn (M : Facts K mg Q) : Fn P w K mg base T 1 "_law_drawn" R__law_drawn := by
  refine mk_fn M.d__law_drawn sc__law_drawn (by rintro _ _ ⟨a, b, rfl, _⟩; rfl) (fun _ _ _ _ _ _ us hl => match us, hl with | [_, _], _ => rfl) (fun f cdv A outer s H E hr => ⟨_, (pss_cons (ps_set (i := 2) sc__law_drawn.nd rfl (Or.inl rfl) (pe_op op_modG (pe_op op_addG (pe_op op_mulG (pv 0) pe_int) (pe_op op_mulG (pe_op op_addG (pv 1) pe_int) pe_int)) pe_int))
      (pss_cons (ps_set (i := 2) sc__law_drawn.nd rfl (Or.inl rfl) (pe_op op_modG (pe_op op_mulG (pv 2) (pv 2)) pe_int))
      (pss_cons (ps_set (i := 2) sc__law_drawn.nd rfl (Or.inl rfl) (pe_op op_mulG (pe_op op_mulG (pe_op op_addG (pe_op op_modG (pv 2) pe_int) pe_int) (pe_op op_addG (pe_op op_divG (pv 2) pe_int) pe_int)) (pv 2)))
      (pss_one (ps_ret (pe_op op_modG (pv 2) pe_int)))))), ?_⟩)
  rintro _ _ ⟨c, k, rfl, hk, rfl⟩
  unfold drawn
  generalize ha : dA c k = a
  have a0 : 0 ≤ a := ha ▸ Int.emod_nonneg _ (by decide)
  have a1 : a < 340282366920938463463374607431768211507 := ha ▸ Int.emod_lt_of_pos _ (by decide)
  generalize hb : dB a = b
  unfold dC
  have b0 : 0 ≤ b := hb ▸ Int.emod_nonneg _ (by decide)
  have b1 : b < 340282366920938463463374607431768211297 := hb ▸ Int.emod_lt_of_pos _ (by decide)
  have c0 : 0 ≤ b % 18446744073709551557 := Int.emod_nonneg _ (by decide)
  have c1 : b % 18446744073709551557 < 18446744073709551557 := Int.emod_lt_of_pos _ (by decide)
  have d0 : 0 ≤ b / 18446744073709551557 := Int.ediv_nonneg b0 (by decide)
  have d1 : b / 18446744073709551557 ≤ b := Int.ediv_le_self _ b0
  have d2 : b / 18446744073709551557 < 36893488147419103232 := Int.ediv_lt_of_lt_mul (by decide) (by omega)
  refine .inl (es_seq (es_set ((ev_op (ev_op (ev_op (ev_var rfl) ev_int (o_mul (mulok_r (by decide) (by decide)))) (ev_op (ev_op (ev_var rfl) ev_int o_add) ev_int (o_mul (mulok_r (by decide) (by decide)))) o_add) ev_int (o_mod (by decide))).is (congrArg D.int ha))) (es_seq (es_set ((ev_op (ev_op (ev_var rfl) (ev_var rfl) (o_mul (small_mul ⟨a0, by omega⟩ ⟨a0, by omega⟩))) ev_int (o_mod (by decide))).is (congrArg D.int hb))) (es_seq (es_set (ev_op (ev_op (ev_op (ev_op (ev_var rfl) ev_int (o_mod (by decide))) ev_int o_add) (ev_op (ev_op (ev_var rfl) ev_int (o_div (by decide) (by decide))) ev_int o_add) (o_mul (mulok_l (by omega) (by omega)))) (ev_var rfl) (o_mul ?_))) (es_ret (ev_op (ev_var rfl) ev_int (o_mod (j := 340282366920938463463374607431768211507) (by decide)))))))
  refine small_mul ⟨Int.mul_nonneg (by omega) (by omega), ?_⟩ ⟨b0, by omega⟩
  have : (b % 18446744073709551557 + 1) * (b / 18446744073709551557 + 1) ≤ 18446744073709551616 * 36893488147419103233 := Int.mul_le_mul (by omega) (by omega) (by omega) (by decide)
  exact Int.lt_of_le_of_lt this (by decide)
def alphs : List (List Nat) := [tx "ab", tx "abc ", tx "abcdefgh ", tx "a"]
def alph (m : Int) : List Nat := alphs.getD (m % 4).toNat []
def textSize (m : Int) : Nat := (m / 4 % ([3, 12, 41] : List Int).getD (m / 64 % 3).toNat 3).toNat
def textL (m : Int) : List Nat := (List.range (textSize m)).map fun j => (alph m).getD (drawn m j / 8 % ((alph m).length : Nat)).toNat 0
theorem mod_cases4 (m : Int) : (m % 4).toNat = 0 ∨ (m % 4).toNat = 1 ∨ (m % 4).toNat = 2 ∨ (m % 4).toNat = 3 := by omega
theorem alph_mem (m : Int) : alph m ∈ alphs := by
  unfold alph
  rcases mod_cases4 m with h | h | h | h <;> (rw [h]; decide)
theorem alph_len (m : Int) : 1 ≤ (alph m).length ∧ (alph m).length ≤ 9 := by
  have h := alph_mem m
  have : ∀ a ∈ alphs, 1 ≤ a.length ∧ a.length ≤ 9 := by decide
  exact this _ h
theorem alph_ok (m : Int) : ∀ c ∈ alph m, c ∈ SIGNS := by
  have h := alph_mem m
  have : ∀ a ∈ alphs, ∀ c ∈ a, c ∈ SIGNS := by decide
  exact this _ h
theorem size_mem (m : Int) : ([3, 12, 41] : List Int).getD (m / 64 % 3).toNat 3 ∈ ([3, 12, 41] : List Int) := by
  have h : (m / 64 % 3).toNat = 0 ∨ (m / 64 % 3).toNat = 1 ∨ (m / 64 % 3).toNat = 2 := by omega
  rcases h with h | h | h <;> (rw [h]; decide)
theorem size_pos (m : Int) : 3 ≤ ([3, 12, 41] : List Int).getD (m / 64 % 3).toNat 3 ∧ ([3, 12, 41] : List Int).getD (m / 64 % 3).toNat 3 ≤ 41 := by
  have h := size_mem m
  have : ∀ a ∈ ([3, 12, 41] : List Int), 3 ≤ a ∧ a ≤ 41 := by decide
  exact this _ h
theorem textSize_le (m : Int) : textSize m ≤ 40 := by
  unfold textSize
  have h := size_pos m
  have h1 := Int.emod_nonneg (m / 4) (show ([3, 12, 41] : List Int).getD (m / 64 % 3).toNat 3 ≠ 0 by omega)
  have h2 := Int.emod_lt_of_pos (m / 4) (show 0 < ([3, 12, 41] : List Int).getD (m / 64 % 3).toNat 3 by omega)
  omega
theorem textL_len (m : Int) : (textL m).length = textSize m := by simp [textL]
theorem getD_mem {l : List Nat} {i : Nat} (h : i < l.length) : l.getD i 0 ∈ l := by
  rw [List.getD_eq_getElem?_getD, List.getElem?_eq_getElem h]; exact List.getElem_mem h
theorem textL_ok (m : Int) : okT (textL m) = true := by
  unfold okT
  rw [Bool.and_eq_true]
  refine ⟨decide_eq_true (by rw [textL_len]; exact textSize_le m), List.all_eq_true.mpr fun c hc => decide_eq_true ?_⟩
  obtain ⟨j, _, rfl⟩ := List.mem_map.mp hc
  refine alph_ok m _ (getD_mem ?_)
  have h := alph_len m
  have h1 := Int.emod_nonneg (drawn m j / 8) (show ((alph m).length : Int) ≠ 0 by omega)
  have h2 := Int.emod_lt_of_pos (drawn m j / 8) (show (0 : Int) < ((alph m).length : Int) by omega)
  omega
def R__law_text : List D → Res → Prop := fun ds r => ∃ (m : Int), ds = [.int m] ∧ r = .ok (.str (textL m))
theorem strs4 : alphs.map D.str = [.str (tx "ab"), .str (tx "abc "), .str (tx "abcdefgh "), .str (tx "a")] := rfl
theorem atI_getD {α : Type} {l : List α} {z : Int} {d : α} (h0 : 0 ≤ z) (h : z < l.length) : atI l z = some (l.getD z.toNat d) := by
  have e : z = ((z.toNat : Nat) : Int) := (Int.toNat_of_nonneg h0).symm
  have hn : z.toNat < l.length := by omega
  have h1 : ixN l.length z = some z.toNat := by
    unfold ixN
    rw [if_pos h0, if_pos h]
  unfold atI
  rw [h1]
  show l[z.toNat]? = _
  rw [List.getD_eq_getElem?_getD, List.getElem?_eq_getElem hn]; rfl
theorem getD_map {α β : Type} (f : α → β) (l : List α) (i : Nat) (d : α) (e : β) (h : i < l.length) : (l.map f).getD i e = f (l.getD i d) := by
  rw [List.getD_eq_getElem?_getD, List.getD_eq_getElem?_getD, List.getElem?_map, List.getElem?_eq_getElem h]; rfl
theorem sum_ones {α : Type} (l : List α) (f : α → Nat) (h : ∀ x ∈ l, f x = 1) : (l.map f).sum = l.length := by
  induction l with
  | nil => rfl
  | cons x l ih => rw [List.map_cons, List.sum_cons, h x List.mem_cons_self, ih fun y hy => h y (List.mem_cons_of_mem _ hy), List.length_cons]; omega
theorem ok__law_text (M : Facts K mg Q) : Fn P w K mg base T 2 "_law_text" R__law_text := by
  refine mk_fn M.d__law_text sc__law_text (by rintro _ _ ⟨a, rfl, _⟩; rfl) (fun _ _ _ _ _ _ us hl => match us, hl with | [_], _ => rfl) (fun f cdv A outer s H E hr => ⟨_, (pss_cons (ps_set (i := 1) sc__law_text.nd rfl (Or.inr rfl) (k_sub (K := K) rfl (hu_of hr) (pe_lst (pa_cons pe_str (pa_cons pe_str (pa_cons pe_str (pa_cons pe_str pa_nil))))) (pe_op op_modG (pv 0) pe_int) (fun _ _ => rfl) (fun _ _ => rfl)))
      (pss_cons (ps_set (i := 2) sc__law_text.nd rfl (Or.inl rfl) (pe_op op_modG (pe_op op_divG (pv 0) pe_int) (k_sub (K := K) rfl (hu_of hr) (pe_lst (pa_cons pe_int (pa_cons pe_int (pa_cons pe_int pa_nil)))) (pe_op op_modG (pe_op op_divG (pv 0) pe_int) pe_int) (fun _ _ => rfl) (fun _ _ => rfl))))
      (pss_one (ps_ret (k_join (K := K) rfl pe_str (pe_lc (own := [("j", 3)]) rfl sc__law_text.nd (pi_range1 (by rfl) M.n_range (pa_cons (pv 2) pa_nil)) (blkOk_by (N := N__law_text) (sc := defScope s__law_text) (by decide +kernel)) (fun _ _ _ _ _ => (pg_name (i := 3) sc__law_text.nd rfl (Or.inl rfl))) (fun _ _ _ _ _ => pts_nil) (fun _ _ _ _ _ => (k_sub (K := K) rfl (hu_of hr) (pv 1) (pe_op op_modG (pe_op op_divG (k_fn (K := K) (T := T) ⟨rfl, rfl, rfl, rfl, rfl⟩ (ok__law_drawn M) hr (by decide) (by rfl) passL (pa_cons (pv 0) (pa_cons (pv 3) pa_nil))) pe_int) (pe_callB (k_len (K := K) rfl) (by rfl) M.n_len PySem.boot_len (pa_cons (pv 1) pa_nil))) (fun _ _ => rfl) (fun _ _ => rfl))))))))), ?_⟩)
  rintro _ _ ⟨m, rfl, rfl⟩
  have ha := alph_len m
  have hz := size_pos m
  have hn := textSize_le m
  have e4 : atI [D.str (tx "ab"), .str (tx "abc "), .str (tx "abcdefgh "), .str (tx "a")] (m % 4) = some (.str (alph m)) := by
    rw [← strs4, atI_getD (d := .non) (Int.emod_nonneg _ (by decide)) (by have := Int.emod_lt_of_pos m (show (0 : Int) < 4 by decide); simpa [alphs] using this)]
    unfold alph
    rw [getD_map D.str alphs _ [] .non (by have := mod_cases4 m; simp [alphs]; omega)]
  have e3 : atI [D.int 3, .int 12, .int 41] (m / 64 % 3) = some (.int (([3, 12, 41] : List Int).getD (m / 64 % 3).toNat 3)) := by
    have h3 : [D.int 3, .int 12, .int 41] = ([3, 12, 41] : List Int).map D.int := rfl
    rw [h3, atI_getD (d := .non) (Int.emod_nonneg _ (by decide)) (by have := Int.emod_lt_of_pos (m / 64) (show (0 : Int) < 3 by decide); simpa using this)]
    rw [getD_map D.int ([3, 12, 41] : List Int) _ 3 .non (by simp; omega)]
  have sz : m / 4 % ([3, 12, 41] : List Int).getD (m / 64 % 3).toNat 3 = ((textSize m : Nat) : Int) := by
    unfold textSize
    rw [Int.toNat_of_nonneg (Int.emod_nonneg _ (by omega))]
  refine .inl (es_seq (es_set (ev_ixL (ev_lst (ea_cons ev_str (ea_cons ev_str (ea_cons ev_str (ea_cons ev_str ea_nil)))) (by simp)) (ev_op (ev_var rfl) ev_int (o_mod (by decide))) e4)) (es_seq (es_set ((ev_op (ev_op (ev_var rfl) ev_int (o_div (by decide) (by decide))) (ev_ixL (ev_lst (ea_cons ev_int (ea_cons ev_int (ea_cons ev_int ea_nil))) (by simp)) (ev_op (ev_op (ev_var rfl) ev_int (o_div (by decide) (by decide))) ev_int (o_mod (by decide))) e3) (o_mod (by omega))).is (congrArg D.int sz))) (es_ret ?_)))
  have cut : ((textSize m : Nat) : Int).toNat = textSize m := by omega
  refine (ev_join ev_str (ev_lcM D.str (List.range (textSize m)) (fun i => .int (i : Nat)) (fun j => [(alph m).getD (drawn m j / 8 % ((alph m).length : Nat)).toNat 0]) ?_ (by simp; omega) fun i j hj => ⟨_, _, eg_name, by decide, ?_⟩) ?_).is ?_
  · have := ei_range1 (K := K) (T := T) (ρ := [some (.sh (.int m)), some (.sh (.str (alph m))), some (.sh (.int (textSize m : Nat))), none]) (ta := tCons (tVar 2) tNil) (n := (textSize m : Nat)) (ea_cons (ev_var rfl) ea_nil) (by omega) (by omega)
    rw [cut] at this
    exact this
  · have h1 := Int.emod_nonneg (drawn m j / 8) (show ((alph m).length : Int) ≠ 0 by omega)
    have h2 := Int.emod_lt_of_pos (drawn m j / 8) (show (0 : Int) < ((alph m).length : Int) by omega)
    have hj' : j ≤ 100000 := by
      obtain ⟨h, e⟩ := List.getElem?_eq_some_iff.mp hj
      rw [List.getElem_range] at e
      rw [List.length_range] at h
      omega
    exact ev_ixS (ev_var rfl) (ev_op (ev_op (ev_call (ea_cons (ev_var rfl) (ea_cons (ev_var rfl) ea_nil)) ⟨m, j, rfl, hj', rfl⟩) ev_int (o_div (by decide) (by decide))) (ev_cb (ea_cons (ev_var rfl) ea_nil) (c_lenS (by omega))) (o_mod (by omega))) (atI_getD h1 h2) (by omega)
  · rw [List.map_map, sum_ones (List.range (textSize m)) (List.length ∘ fun j => [(alph m).getD (drawn m j / 8 % ((alph m).length : Nat)).toNat 0]) (fun _ _ => rfl)]
    simp only [List.length_map, List.length_range]
    have : (tx "").length = 0 := rfl
    rw [this]; omega
  · show D.str (joinN [] _) = _
    rw [joinN_nil]
    unfold textL
    rw [← flatten_one ((List.range (textSize m)).map _), List.map_map]; rfl
/-- one change of a text -/
def nearStep (found : List Nat) (here : Int) : List Nat :=
  let spot := (here / 8 % ((found.length : Int) + 1)).toNat
  let size := (here / 512 % 9).toNat
  let part := (found.drop spot).take size
  let rest := found.take spot ++ found.drop (spot + size)
  let goal := (here / 8192 % ((rest.length : Int) + 1)).toNat
  if here % 3 = 0 then rest else if here % 3 = 1 then rest.take goal ++ part ++ rest.drop goal else found.take spot ++ tx "b" ++ found.drop spot
def nearIt (text : List Nat) (m : Int) : Nat → List Nat
  | 0 => text
  | j + 1 => nearStep (nearIt text m j) (drawn m j)
def nearL (text : List Nat) (m : Int) : List Nat := (nearIt text m (1 + m % 3).toNat).take 40
theorem nearStep_len (f : List Nat) (h : Int) : (nearStep f h).length ≤ f.length + 1 := by
  unfold nearStep
  simp only
  split
  · simp; omega
  · split
    · simp; omega
    · have : (tx "b").length = 1 := rfl
      simp [this]; omega
theorem nearIt_len (t : List Nat) (m : Int) (j : Nat) : (nearIt t m j).length ≤ t.length + j := by
  induction j with
  | zero => simp [nearIt]
  | succ j ih => have := nearStep_len (nearIt t m j) (drawn m j); simp only [nearIt]; omega
theorem nearStep_mem (f : List Nat) (h : Int) (hf : ∀ c ∈ f, c ∈ SIGNS) : ∀ c ∈ nearStep f h, c ∈ SIGNS := by
  have hb : ∀ c ∈ tx "b", c ∈ SIGNS := by decide
  unfold nearStep
  simp only
  intro c hc
  have tk : ∀ {l : List Nat} {n : Nat}, c ∈ l.take n → c ∈ l := List.mem_of_mem_take
  have dr : ∀ {l : List Nat} {n : Nat}, c ∈ l.drop n → c ∈ l := List.mem_of_mem_drop
  split at hc
  · rcases List.mem_append.mp hc with h | h
    · exact hf c (tk h)
    · exact hf c (dr h)
  · split at hc
    · rcases List.mem_append.mp hc with h | h
      · rcases List.mem_append.mp h with h | h
        · rcases List.mem_append.mp (tk h) with h | h
          · exact hf c (tk h)
          · exact hf c (dr h)
        · exact hf c (dr (tk h))
      · rcases List.mem_append.mp (dr h) with h | h
        · exact hf c (tk h)
        · exact hf c (dr h)
    · rcases List.mem_append.mp hc with h | h
      · rcases List.mem_append.mp h with h | h
        · exact hf c (tk h)
        · exact hb c h
      · exact hf c (dr h)
theorem okT_mem {l : List Nat} (h : okT l = true) : ∀ c ∈ l, c ∈ SIGNS := by
  unfold okT at h
  rw [Bool.and_eq_true] at h
  intro c hc
  exact of_decide_eq_true (List.all_eq_true.mp h.2 c hc)
theorem okT_of {l : List Nat} (h1 : l.length ≤ 40) (h2 : ∀ c ∈ l, c ∈ SIGNS) : okT l = true := by
  unfold okT
  rw [Bool.and_eq_true]
  exact ⟨decide_eq_true h1, List.all_eq_true.mpr fun c hc => decide_eq_true (h2 c hc)⟩
theorem nearIt_mem (t : List Nat) (m : Int) (ht : ∀ c ∈ t, c ∈ SIGNS) : ∀ j, ∀ c ∈ nearIt t m j, c ∈ SIGNS
  | 0 => ht
  | j + 1 => nearStep_mem _ _ (nearIt_mem t m ht j)
theorem nearL_ok {t : List Nat} (m : Int) (ht : okT t = true) : okT (nearL t m) = true :=
  okT_of (by unfold nearL; rw [List.length_take]; omega) fun c hc => nearIt_mem t m (okT_mem ht) _ c (List.mem_of_mem_take hc)
theorem cutL_take (l : List Nat) (n : Nat) : cutL l none (some (n : Int)) = l.take n := by
  unfold cutL
  rw [HT.sIx_nat, HT.sIx_none, List.drop_zero, Nat.sub_zero]
  by_cases h : n ≤ l.length
  · rw [Nat.min_eq_left h]
  · rw [Nat.min_eq_right (by omega), List.take_length, List.take_of_length_le (by omega)]
theorem cutL_drop (l : List Nat) (n : Nat) : cutL l (some (n : Int)) none = l.drop n := by
  unfold cutL
  rw [HT.sIx_nat, HT.sIx_none]
  by_cases h : n ≤ l.length
  · rw [Nat.min_eq_left h, List.take_of_length_le (by rw [List.length_drop]; omega)]
  · rw [Nat.min_eq_right (by omega), Nat.sub_self, List.take_zero, List.drop_eq_nil_of_le (by omega)]
theorem cutL_mid (l : List Nat) (i n : Nat) : cutL l (some (i : Int)) (some ((i : Int) + (n : Int))) = (l.drop i).take n := by
  unfold cutL
  rw [show ((i : Int) + (n : Int)) = ((i + n : Nat) : Int) by omega, HT.sIx_nat, HT.sIx_nat]
  by_cases h : i + n ≤ l.length
  · rw [Nat.min_eq_left h, Nat.min_eq_left (show i ≤ l.length by omega), Nat.add_sub_cancel_left]
  · rw [Nat.min_eq_right (by omega)]
    by_cases h2 : i ≤ l.length
    · rw [Nat.min_eq_left h2, List.take_of_length_le (by rw [List.length_drop]; exact Nat.le_refl _), List.take_of_length_le (by rw [List.length_drop]; omega)]
    · rw [Nat.min_eq_right (by omega), Nat.sub_self, List.take_zero, List.drop_eq_nil_of_le (show l.length ≤ i by omega), List.take_nil]
def R__law_near : List D → Res → Prop := fun ds r => ∃ (t : List Nat) (m : Int), ds = [.str t, .int m] ∧ t.length ≤ 1000 ∧ 0 ≤ m ∧ r = .ok (.str (nearL t m))
theorem ok__law_near (M : Facts K mg Q) : Fn P w K mg base T 2 "_law_near" R__law_near := by
  refine mk_fn M.d__law_near sc__law_near (by rintro _ _ ⟨a, b, rfl, _⟩; rfl) (fun _ _ _ _ _ _ us hl => match us, hl with | [_, _], _ => rfl) (fun f cdv A outer s H E hr => ⟨_, (pss_cons (ps_set (i := 2) sc__law_near.nd rfl (Or.inl rfl) (pv 0))
      (pss_cons (ps_for (passes_of rfl) rfl (pi_range1 (by rfl) M.n_range (pa_cons (pe_op op_addG pe_int (pe_op op_modG (pv 1) pe_int)) pa_nil)) (pg_name (i := 3) sc__law_near.nd rfl (Or.inl rfl))
      (pss_cons (ps_set (i := 4) sc__law_near.nd rfl (Or.inl rfl) (k_fn (K := K) (T := T) ⟨rfl, rfl, rfl, rfl, rfl⟩ (ok__law_drawn M) hr (by decide) (by rfl) (pcall (takes_of rfl rfl rfl rfl) (fun _ _ _ _ h => h)) (pa_cons (pv 1) (pa_cons (pv 3) pa_nil))))
      (pss_cons (ps_par rfl sc__law_near.nd (i := 5) (j := 6) rfl rfl (by decide) rfl rfl (pa_cons (pe_op op_modG (pe_op op_divG (pv 4) pe_int) (pe_op op_addG (pe_callB (k_len (K := K) rfl) (by rfl) M.n_len PySem.boot_len (pa_cons (pv 2) pa_nil)) pe_int)) (pa_cons (pe_op op_modG (pe_op op_divG (pv 4) pe_int) pe_int) pa_nil)) (by rfl))
      (pss_cons (ps_set (i := 7) sc__law_near.nd rfl (Or.inl rfl) (pe_slice (k_sl (K := K) rfl) (pv 2) (po_some (pv 5)) (po_some (pe_op op_addG (pv 5) (pv 6)))))
      (pss_cons (ps_set (i := 8) sc__law_near.nd rfl (Or.inl rfl) (pe_op op_addG (pe_slice (k_sl (K := K) rfl) (pv 2) po_none (po_some (pv 5))) (pe_slice (k_sl (K := K) rfl) (pv 2) (po_some (pe_op op_addG (pv 5) (pv 6))) po_none)))
      (pss_cons (ps_set (i := 9) sc__law_near.nd rfl (Or.inl rfl) (pe_op op_modG (pe_op op_divG (pv 4) pe_int) (pe_op op_addG (pe_callB (k_len (K := K) rfl) (by rfl) M.n_len PySem.boot_len (pa_cons (pv 8) pa_nil)) pe_int)))
      (pss_one (ps_set (i := 2) sc__law_near.nd rfl (Or.inl rfl) (k_sub (K := K) rfl (hu_of hr) (pe_lst (pa_cons (pv 8) (pa_cons (pe_op op_addG (pe_op op_addG (pe_slice (k_sl (K := K) rfl) (pv 8) po_none (po_some (pv 9))) (pv 7)) (pe_slice (k_sl (K := K) rfl) (pv 8) (po_some (pv 9)) po_none)) (pa_cons (pe_op op_addG (pe_op op_addG (pe_slice (k_sl (K := K) rfl) (pv 2) po_none (po_some (pv 5))) pe_str) (pe_slice (k_sl (K := K) rfl) (pv 2) (po_some (pv 5)) po_none)) pa_nil)))) (pe_op op_modG (pv 4) pe_int) (fun _ _ => rfl) (fun _ _ => rfl))))))))))
      (pss_one (ps_ret (pe_slice (k_sl (K := K) rfl) (pv 2) po_none (po_some pe_int)))))), ?_⟩)
  rintro _ _ ⟨t, m, rfl, ht, hm, rfl⟩
  have m3 := Int.emod_nonneg m (show (3 : Int) ≠ 0 by decide)
  have m4 := Int.emod_lt_of_pos m (show (0 : Int) < 3 by decide)
  refine .inl (es_seq (es_set (ev_var rfl)) (es_seq (es_for (ei_range1 (ea_cons (ev_op ev_int (ev_op (ev_var rfl) ev_int (o_mod (by decide))) o_add) ea_nil) (by omega) (by omega)) (fun i => [some (.sh (.str t)), some (.sh (.int m)), some (.sh (.str (nearIt t m i))), none, none, none, none, none, none, none]) rfl fun i d hd => ?_) (es_ret ?_)))
  · rw [List.getElem?_map] at hd
    cases e : (List.range (1 + m % 3).toNat)[i]? with
    | none => rw [e] at hd; cases hd
    | some z =>
      rw [e] at hd
      cases hd
      obtain ⟨h, e⟩ := List.getElem?_eq_some_iff.mp e
      rw [List.getElem_range] at e
      rw [List.length_range] at h
      subst e
      have hi : i ≤ 2 := by omega
      have hl := nearIt_len t m i
      generalize hf : nearIt t m i = fo at hl
      have hnx : nearIt t m (i + 1) = nearStep fo (drawn m i) := by rw [← hf]; rfl
      rw [hnx]
      generalize hdr : drawn m i = he
      have s0 := Int.emod_nonneg (he / 8) (show ((fo.length : Int) + 1) ≠ 0 by omega)
      have s1 := Int.emod_lt_of_pos (he / 8) (show (0 : Int) < (fo.length : Int) + 1 by omega)
      have z0 := Int.emod_nonneg (he / 512) (show (9 : Int) ≠ 0 by decide)
      have z1 := Int.emod_lt_of_pos (he / 512) (show (0 : Int) < 9 by decide)
      have es : he / 8 % ((fo.length : Int) + 1) = (((he / 8 % ((fo.length : Int) + 1)).toNat : Nat) : Int) := (Int.toNat_of_nonneg s0).symm
      have ez : he / 512 % 9 = (((he / 512 % 9).toNat : Nat) : Int) := (Int.toNat_of_nonneg z0).symm
      unfold nearStep
      simp only
      generalize hsp : (he / 8 % ((fo.length : Int) + 1)).toNat = spot at *
      generalize hsz : (he / 512 % 9).toNat = size at *
      generalize hpt : (fo.drop spot).take size = part
      generalize hre : fo.take spot ++ fo.drop (spot + size) = rest
      have rl : rest.length ≤ 1010 := by rw [← hre]; simp; omega
      have pl : part.length ≤ 1010 := by rw [← hpt]; simp; omega
      have g0 := Int.emod_nonneg (he / 8192) (show ((rest.length : Int) + 1) ≠ 0 by omega)
      have eg : he / 8192 % ((rest.length : Int) + 1) = (((he / 8192 % ((rest.length : Int) + 1)).toNat : Nat) : Int) := (Int.toNat_of_nonneg g0).symm
      generalize hgo : (he / 8192 % ((rest.length : Int) + 1)).toNat = goal at *
      have c0 := Int.emod_nonneg he (show (3 : Int) ≠ 0 by decide)
      have c1 := Int.emod_lt_of_pos he (show (0 : Int) < 3 by decide)
      have tb : (tx "b").length = 1 := rfl
      have e3 : atI [D.str rest, .str (rest.take goal ++ part ++ rest.drop goal), .str (fo.take spot ++ tx "b" ++ fo.drop spot)] (he % 3) = some (.str (if he % 3 = 0 then rest else if he % 3 = 1 then rest.take goal ++ part ++ rest.drop goal else fo.take spot ++ tx "b" ++ fo.drop spot)) := by
        have h : he % 3 = 0 ∨ he % 3 = 1 ∨ he % 3 = 2 := by omega
        rcases h with h | h | h <;> (rw [h]; rfl)
      refine ⟨_, [3, 4, 5, 6, 7, 8, 9], _, _, eg_name, es_seq (es_set (d := .int he) (ev_call (ea_cons (ev_var rfl) (ea_cons (ev_var rfl) ea_nil)) ⟨m, i, rfl, by omega, by rw [hdr]⟩)) (es_seq (es_par (d1 := .int (spot : Nat)) (d2 := .int (size : Nat)) (ea_cons ((ev_op (ev_op (ev_var rfl) ev_int (o_div (by decide) (by decide))) (ev_op (ev_cb (ea_cons (ev_var rfl) ea_nil) (c_lenS (by omega))) ev_int o_add) (o_mod (by omega))).is (congrArg D.int es)) (ea_cons ((ev_op (ev_op (ev_var rfl) ev_int (o_div (by decide) (by decide))) ev_int (o_mod (by decide))).is (congrArg D.int ez)) ea_nil)))
        (es_seq (es_set (d := .str part) ((ev_sl (ev_var rfl) (eo_some (ev_var rfl)) (eo_some (ev_op (ev_var rfl) (ev_var rfl) o_add)) (s_slS (by omega))).is (by rw [cutL_mid, hpt]))) (es_seq (es_set (d := .str rest) ((ev_op (ev_sl (ev_var rfl) eo_none (eo_some (ev_var rfl)) (s_slS (by omega))) (ev_sl (ev_var rfl) (eo_some ((ev_op (ev_var rfl) (ev_var rfl) o_add).is (b := .int ((spot + size : Nat) : Int)) (by simp))) eo_none (s_slS (by omega))) (o_adds ?_)).is ?_))
        (es_seq (es_set (d := .int (goal : Nat)) ((ev_op (ev_op (ev_var rfl) ev_int (o_div (by decide) (by decide))) (ev_op (ev_cb (ea_cons (ev_var rfl) ea_nil) (c_lenS (by omega))) ev_int o_add) (o_mod (by omega))).is (congrArg D.int eg))) (es_set (ev_ixL (ev_lst (ea_cons (ev_var rfl) (ea_cons ((ev_op (ev_op (ev_sl (ev_var rfl) eo_none (eo_some (ev_var rfl)) (s_slS (by omega))) (ev_var rfl) (o_adds ?_)) (ev_sl (ev_var rfl) (eo_some (ev_var rfl)) eo_none (s_slS (by omega))) (o_adds ?_)).is ?_) (ea_cons ((ev_op (ev_op (ev_sl (ev_var rfl) eo_none (eo_some (ev_var rfl)) (s_slS (by omega))) ev_str (o_adds ?_)) (ev_sl (ev_var rfl) (eo_some (ev_var rfl)) eo_none (s_slS (by omega))) (o_adds ?_)).is ?_) ea_nil))) (by simp)) (ev_op (ev_var rfl) ev_int (o_mod (by decide))) e3)))))), rfl⟩
      · rw [cutL_take, cutL_drop]; simp; omega
      · rw [cutL_take, cutL_drop, hre]
      · rw [cutL_take]; simp; omega
      · rw [cutL_take, cutL_drop]; simp; omega
      · rw [cutL_take, cutL_drop]
      · rw [cutL_take, tb]; simp; omega
      · rw [cutL_take, cutL_drop]; simp [tb]; omega
      · rw [cutL_take, cutL_drop]
  · simp only [List.length_map, List.length_range]
    have hl := nearIt_len t m (1 + m % 3).toNat
    refine (ev_sl (ev_var rfl) eo_none (eo_some ev_int) (s_slS (by omega))).is ?_
    exact congrArg D.str (cutL_take _ 40)
theorem range_at {n i : Nat} {d : D} {f : Nat → D} (h : ((List.range n).map f)[i]? = some d) : i < n ∧ d = f i := by
  rw [List.getElem?_map] at h
  cases e : (List.range n)[i]? with
  | none => rw [e] at h; cases h
  | some z =>
    rw [e] at h
    cases h
    obtain ⟨h, e⟩ := List.getElem?_eq_some_iff.mp e
    rw [List.getElem_range] at e
    rw [List.length_range] at h
    subst e
    exact ⟨h, rfl⟩
def R__law_least : List D → Res → Prop := fun ds r => ∃ a b : Nat, ds = [.int a, .int b] ∧ b ≤ 100000 ∧ r = .ok (frD (frac a b))

theorem ok__law_least (M : Facts K mg Q) : Fn P w K mg base T 1 "_law_least" R__law_least := by
  refine mk_fn M.d__law_least sc__law_least (by rintro _ _ ⟨a, b, rfl, _⟩; rfl) (fun _ _ _ _ _ _ us hl => match us, hl with | [_, _], _ => rfl) (fun f cdv A outer s H E hr => ⟨_, (pss_cons (ps_for (passes_of rfl) rfl (pi_range3 (by rfl) M.n_range (pa_cons (pv 1) (pa_cons pe_int (pa_cons (pe_un un_neg pe_int) pa_nil)))) (pg_name (i := 2) sc__law_least.nd rfl (Or.inl rfl))
      (pss_one (ps_if (PW.pt (pw_and (pt_cmpR (k_eq (K := K) rfl hr.units) (pe_op op_modG (pv 0) (pv 2)) pe_int (nomark _)) (pw_and1 (pt_cmpR (k_eq (K := K) rfl hr.units) (pe_op op_modG (pv 1) (pv 2)) pe_int (nomark _))))) (pss_one (ps_ret (pe_tup (pa_cons (pe_op op_divG (pv 0) (pv 2)) (pa_cons (pe_op op_divG (pv 1) (pv 2)) pa_nil))))) pss_nil)))
      (pss_one (ps_ret (pe_tup (pa_cons pe_int (pa_cons pe_int pa_nil)))))), ?_⟩)
  rintro _ _ ⟨a, b, rfl, hb, rfl⟩
  have en : ((b : Int) - 0).toNat = b := by omega
  unfold frac
  by_cases h0 : b = 0
  · rw [if_pos h0]
    subst h0
    refine .inl (es_seq (es_for (ei_range3 (ea_cons (ev_var rfl) (ea_cons ev_int (ea_cons (ev_un ev_int (c := .int (-1)) ?_) ea_nil))) ⟨by omega, by omega⟩ ⟨by decide, by decide⟩) (fun _ => [some (.sh (.int a)), some (.sh (.int ((0 : Nat) : Int))), none]) rfl fun i d hd => ?_) (es_ret (ev_tup (ea_cons ev_int (ea_cons ev_int ea_nil)) (by simp))))
    · exact fun G H x k t r Q q => by cases r; exact ⟨1, rfl, q _ G H (Nxt.refl k) (.int _)⟩
    · exact absurd (range_at hd).1 (by omega)
  · rw [if_neg h0]
    have hg : 0 < Nat.gcd a b := Nat.gcd_pos_of_pos_right a (Nat.pos_of_ne_zero h0)
    have hg2 : Nat.gcd a b ≤ b := Nat.gcd_le_right a (Nat.pos_of_ne_zero h0)
    refine .inl (es_rt (es_forO out_rt (ei_range3 (ea_cons (ev_var rfl) (ea_cons ev_int (ea_cons (ev_un ev_int (c := .int (-1)) ?_) ea_nil))) ⟨by omega, by omega⟩ ⟨by decide, by decide⟩) (fun _ => [some (.sh (.int a)), some (.sh (.int b)), none]) rfl (b - Nat.gcd a b) (by simp; omega) (fun i d hi hd => ?_) fun d hd => ?_))
    · exact fun G H x k t r Q q => by cases r; exact ⟨1, rfl, q _ G H (Nxt.refl k) (.int _)⟩
    · obtain ⟨hi2, rfl⟩ := range_at hd
      have e : (b : Int) - ((i : Nat) : Int) = ((b - i : Nat) : Int) := by omega
      rw [e]
      have hp : 0 < b - i := by omega
      refine ⟨_, [2], _, [some (.sh (.int a)), some (.sh (.int b)), some (.sh (.int ((b - i : Nat) : Int)))], eg_name, es_if (x := false) ((et_and (et_test (ev_op (ev_op (ev_var rfl) (ev_var rfl) (o_mod (by omega))) ev_int (o_eq (.int _) (.int _)))) fun _ => et_test (ev_op (ev_op (ev_var rfl) (ev_var rfl) (o_mod (by omega))) ev_int (o_eq (.int _) (.int _)))).is ?_) (fun z => nomatch z) fun _ => es_next, rfl⟩
      rw [eqD_int, eqD_int]
      by_cases h1 : a % (b - i) = 0
      · by_cases h2 : b % (b - i) = 0
        · exfalso
          have hd : b - i ∣ Nat.gcd a b := Nat.dvd_gcd (Nat.dvd_of_mod_eq_zero h1) (Nat.dvd_of_mod_eq_zero h2)
          have := Nat.le_of_dvd hg hd
          omega
        · rw [decide_eq_false (show ¬ ((b : Int) % ((b - i : Nat) : Int) = 0) by rw [← Int.natCast_emod]; omega), Bool.and_false]
      · rw [decide_eq_false (show ¬ ((a : Int) % ((b - i : Nat) : Int) = 0) by rw [← Int.natCast_emod]; omega), Bool.false_and]
    · obtain ⟨hi2, rfl⟩ := range_at hd
      have e : (b : Int) - ((b - Nat.gcd a b : Nat) : Int) = ((Nat.gcd a b : Nat) : Int) := by omega
      rw [e]
      have h1 : a % Nat.gcd a b = 0 := Nat.mod_eq_zero_of_dvd (Nat.gcd_dvd_left a b)
      have h2 : b % Nat.gcd a b = 0 := Nat.mod_eq_zero_of_dvd (Nat.gcd_dvd_right a b)
      refine ⟨_, _, eg_name, es_if (x := true) ((et_and (et_test (ev_op (ev_op (ev_var rfl) (ev_var rfl) (o_mod (by omega))) ev_int (o_eq (.int _) (.int _)))) fun _ => et_test (ev_op (ev_op (ev_var rfl) (ev_var rfl) (o_mod (by omega))) ev_int (o_eq (.int _) (.int _)))).is ?_) (fun _ => es_ret ((ev_tup (ea_cons (ev_op (ev_var rfl) (ev_var rfl) (o_div (by omega) (by omega))) (ea_cons (ev_op (ev_var rfl) (ev_var rfl) (o_div (by omega) (by omega))) ea_nil)) (by simp)).is (by simp [frD]))) (fun z => nomatch z)⟩
      rw [eqD_int, eqD_int, decide_eq_true (show ((a : Int) % ((Nat.gcd a b : Nat) : Int) = 0) by rw [← Int.natCast_emod]; omega), decide_eq_true (show ((b : Int) % ((Nat.gcd a b : Nat) : Int) = 0) by rw [← Int.natCast_emod]; omega)]; rfl
def isWide (q p r : Nat × Nat) : Bool := decide ((q.1 * p.2 + p.1 * q.2) * r.2 < r.1 * q.2 * p.2)
def R__law_is_wide : List D → Res → Prop := fun ds r => ∃ q p t : Nat × Nat, ds = [frD q, frD p, frD t] ∧ q.1 < 2 ^ 60 ∧ q.2 < 2 ^ 60 ∧ p.1 < 2 ^ 60 ∧ p.2 < 2 ^ 60 ∧ t.1 < 2 ^ 60 ∧ t.2 < 2 ^ 60 ∧ r = .ok (.bl (isWide q p t))
theorem ok__law_is_wide (M : Facts K mg Q) : Fn P w K mg base T 1 "_law_is_wide" R__law_is_wide := by
  refine mk_fn M.d__law_is_wide sc__law_is_wide (by rintro _ _ ⟨a, b, c, rfl, _⟩; rfl) (fun _ _ _ _ _ _ us hl => match us, hl with | [_, _, _], _ => rfl) (fun f cdv A outer s H E hr => ⟨_, (pss_cons (ps_set (i := 3) sc__law_is_wide.nd rfl (Or.inl rfl) (pe_op op_addG (pe_op op_mulG (k_sub (K := K) rfl (hu_of hr) (pv 0) pe_int (fun _ _ => rfl) (fun _ _ => rfl)) (k_sub (K := K) rfl (hu_of hr) (pv 1) pe_int (fun _ _ => rfl) (fun _ _ => rfl))) (pe_op op_mulG (k_sub (K := K) rfl (hu_of hr) (pv 1) pe_int (fun _ _ => rfl) (fun _ _ => rfl)) (k_sub (K := K) rfl (hu_of hr) (pv 0) pe_int (fun _ _ => rfl) (fun _ _ => rfl)))))
      (pss_one (ps_ret (pe_cmpR op_gtI (pe_op op_mulG (pe_op op_mulG (k_sub (K := K) rfl (hu_of hr) (pv 2) pe_int (fun _ _ => rfl) (fun _ _ => rfl)) (k_sub (K := K) rfl (hu_of hr) (pv 0) pe_int (fun _ _ => rfl) (fun _ _ => rfl))) (k_sub (K := K) rfl (hu_of hr) (pv 1) pe_int (fun _ _ => rfl) (fun _ _ => rfl))) (pe_op op_mulG (pv 3) (k_sub (K := K) rfl (hu_of hr) (pv 2) pe_int (fun _ _ => rfl) (fun _ _ => rfl))) (nomark _))))), ?_⟩)
  rintro _ _ ⟨⟨a, b⟩, ⟨c, d⟩, ⟨e, g⟩, rfl, h1, h2, h3, h4, h5, h6, rfl⟩
  have h1 : a < 2 ^ 60 := h1
  have h2 : b < 2 ^ 60 := h2
  have h3 : c < 2 ^ 60 := h3
  have h4 : d < 2 ^ 60 := h4
  have h5 : e < 2 ^ 60 := h5
  have h6 : g < 2 ^ 60 := h6
  refine .inl (es_seq (es_set (ev_op (ev_op (ev_ixT (d := .int (a : Nat)) (ev_var rfl) ev_int rfl) (ev_ixT (d := .int (d : Nat)) (ev_var rfl) ev_int rfl) (o_mulL (by omega) (by omega))) (ev_op (ev_ixT (d := .int (c : Nat)) (ev_var rfl) ev_int rfl) (ev_ixT (d := .int (b : Nat)) (ev_var rfl) ev_int rfl) (o_mulL (by omega) (by omega))) o_add)) (es_ret ((ev_op (ev_op (ev_op (ev_ixT (d := .int (e : Nat)) (ev_var rfl) ev_int rfl) (ev_ixT (d := .int (b : Nat)) (ev_var rfl) ev_int rfl) (o_mulL (by omega) (by omega))) (ev_ixT (d := .int (d : Nat)) (ev_var rfl) ev_int rfl) (o_mul (mulok_r (by omega) (by omega)))) (ev_op (ev_var rfl) (ev_ixT (d := .int (g : Nat)) (ev_var rfl) ev_int rfl) (o_mul (mulok_r (by omega) (by omega)))) o_gt).is ?_)))
  unfold isWide
  congr 1
  apply decide_eq_decide.mpr
  show (((a : Int) * (d : Int) + (c : Int) * (b : Int)) * (g : Int) < (e : Int) * (b : Int) * (d : Int)) ↔ (a * d + c * b) * g < e * b * d
  rw [← Int.natCast_mul, ← Int.natCast_mul, ← Int.natCast_add, ← Int.natCast_mul, ← Int.natCast_mul, ← Int.natCast_mul, Int.ofNat_lt]
/-! what two bags share, counted -/
def keys (a : Bag) : List (List Nat) := a.map (·.1)
structure WF (a : Bag) : Prop where
  nd : (keys a).Nodup
  pos : ∀ p, p ∈ keys a ↔ 1 ≤ getL a p
theorem keys_putL (b : Bag) (p : List Nat) (c : Nat) : keys (putL b p c) = if p ∈ keys b then keys b else keys b ++ [p] := by
  have e : (b.any fun q => decide (q.1 = p)) = true ↔ p ∈ keys b := by
    unfold keys
    rw [List.any_eq_true, List.mem_map]
    constructor
    · rintro ⟨q, h, e⟩; exact ⟨q, h, by simpa using e⟩
    · rintro ⟨q, h, e⟩; exact ⟨q, h, by simpa using e⟩
  unfold putL
  by_cases h : p ∈ keys b
  · rw [if_pos h, if_pos (e.mpr h)]
    unfold keys
    rw [List.map_map]
    apply List.map_congr_left
    intro q _
    by_cases hq : q.1 = p <;> simp [hq]
  · rw [if_neg h, if_neg (fun z => h (e.mp z))]
    unfold keys
    rw [List.map_append]; rfl
theorem mem_keys_bagL (ps : List (List Nat)) (p : List Nat) : p ∈ keys (bagL ps) ↔ p ∈ ps := by
  have gen : ∀ (qs : List (List Nat)) (b : Bag), p ∈ keys (qs.foldl addP b) ↔ p ∈ keys b ∨ p ∈ qs := by
    intro qs
    induction qs with
    | nil => intro b; simp
    | cons q qs ih =>
      intro b
      rw [List.foldl_cons, ih]
      unfold addP
      rw [keys_putL]
      by_cases h : q ∈ keys b
      · rw [if_pos h]
        constructor
        · rintro (h1 | h1)
          · exact .inl h1
          · exact .inr (List.mem_cons_of_mem _ h1)
        · rintro (h1 | h1)
          · exact .inl h1
          · rcases List.mem_cons.mp h1 with e | h1
            · subst e; exact .inl h
            · exact .inr h1
      · rw [if_neg h, List.mem_append, List.mem_singleton, List.mem_cons, or_assoc]
  have := gen ps []
  simpa [bagL, keys] using this
theorem nodup_keys_bagL (ps : List (List Nat)) : (keys (bagL ps)).Nodup := by
  have gen : ∀ (qs : List (List Nat)) (b : Bag), (keys b).Nodup → (keys (qs.foldl addP b)).Nodup := by
    intro qs
    induction qs with
    | nil => intro b h; exact h
    | cons q qs ih =>
      intro b h
      rw [List.foldl_cons]
      apply ih
      unfold addP
      rw [keys_putL]
      by_cases hq : q ∈ keys b
      · rw [if_pos hq]; exact h
      · rw [if_neg hq]
        rw [List.nodup_append]
        refine ⟨h, by simp, fun x hx y hy => ?_⟩
        rw [List.mem_singleton] at hy
        subst hy
        intro e; subst e; exact hq hx
  exact gen ps [] (by simp [keys])
theorem wf_bagL (ps : List (List Nat)) : WF (bagL ps) := ⟨nodup_keys_bagL ps, fun p => by
  rw [mem_keys_bagL, getL_bagL]
  exact (List.count_pos_iff).symm⟩
theorem wf_bagOf (l : List Nat) (n : Nat) : WF (bagOf l n) := wf_bagL _
theorem any_keys (a : Bag) (p : List Nat) : (a.any fun q => decide (q.1 = p)) = decide (p ∈ keys a) := by
  rw [Bool.eq_iff_iff, List.any_eq_true, decide_eq_true_eq]
  unfold keys
  rw [List.mem_map]
  constructor
  · rintro ⟨q, h, e⟩; exact ⟨q, h, by simpa using e⟩
  · rintro ⟨q, h, e⟩; exact ⟨q, h, by simpa using e⟩
/-- both have -/
def inter (a b : Bag) : List (List Nat) := (keys a).filter fun p => decide (p ∈ keys b)
theorem inter_len_comm {a b : Bag} (ha : WF a) (hb : WF b) : (inter a b).length = (inter b a).length := by
  have h1 : (inter a b).Nodup := ha.nd.filter _
  have h2 : (inter b a).Nodup := hb.nd.filter _
  apply List.Perm.length_eq
  rw [List.perm_ext_iff_of_nodup h1 h2]
  intro p
  unfold inter
  simp only [List.mem_filter, decide_eq_true_eq]
  exact And.comm
theorem inter_le (a b : Bag) : (inter a b).length ≤ (keys a).length := List.length_filter_le _ _
theorem keys_len (a : Bag) : (keys a).length = a.length := List.length_map ..
theorem sum_ind {α : Type} (l : List α) (p : α → Bool) : (l.map fun x => if p x = true then 1 else 0).sum = (l.filter p).length := by
  induction l with
  | nil => rfl
  | cons x l ih =>
    rw [List.map_cons, List.sum_cons, ih]
    cases h : p x with
    | true => rw [List.filter_cons_of_pos h, List.length_cons, if_pos rfl]; omega
    | false => rw [List.filter_cons_of_neg (by rw [h]; exact Bool.false_ne_true), if_neg Bool.false_ne_true]; omega
theorem filter_not_len {α : Type} (l : List α) (p : α → Bool) : (l.filter fun x => !p x).length + (l.filter p).length = l.length := by
  induction l with
  | nil => rfl
  | cons x l ih =>
    cases h : p x with
    | true => rw [List.filter_cons_of_pos h, List.filter_cons_of_neg (by simp [h]), List.length_cons, List.length_cons]; omega
    | false => rw [List.filter_cons_of_pos (by simp [h]), List.filter_cons_of_neg (by rw [h]; exact Bool.false_ne_true), List.length_cons, List.length_cons]; omega
theorem bothNames_eq (a b : Bag) : bothNames a b = keys a ++ (keys b).filter fun p => !decide (p ∈ keys a) := by
  unfold bothNames keys
  congr 1
  apply List.filter_congr
  intro p _
  rw [any_keys]; rfl
theorem min1 {n : Nat} (h : 1 ≤ n) : min n 1 = 1 := by omega
theorem get0 {a : Bag} (ha : WF a) {p : List Nat} (h : p ∉ keys a) : getL a p = 0 := by
  have := (not_congr (ha.pos p)).mp h
  omega
theorem set_shared {a b : Bag} (ha : WF a) (hb : WF b) : sharedOf a b false = ((inter a b).length, a.length + b.length - (inter a b).length) := by
  have e1 : ((pairsOf a b false).map fun q => min q.1 q.2).sum = (inter a b).length := by
    unfold pairsOf
    rw [List.map_map, bothNames_eq, List.map_append, List.sum_append]
    have h1 : ∀ p ∈ keys a, ((fun q : Nat × Nat => min q.1 q.2) ∘ fun p => if false = true then (getL a p, getL b p) else (min (getL a p) 1, min (getL b p) 1)) p = if decide (p ∈ keys b) = true then 1 else 0 := by
      intro p hp
      have g := (ha.pos p).mp hp
      by_cases h : p ∈ keys b
      · have g2 := (hb.pos p).mp h
        simp [h]; omega
      · have g2 := get0 hb h
        simp [h, g2]
    have h2 : ∀ p ∈ (keys b).filter (fun p => !decide (p ∈ keys a)), ((fun q : Nat × Nat => min q.1 q.2) ∘ fun p => if false = true then (getL a p, getL b p) else (min (getL a p) 1, min (getL b p) 1)) p = 0 := by
      intro p hp
      have hn : p ∉ keys a := by
        have := (List.mem_filter.mp hp).2
        simpa using this
      have g := get0 ha hn
      simp [g]
    rw [List.map_congr_left h1, sum_ind]
    have h3 : (((keys b).filter fun p => !decide (p ∈ keys a)).map ((fun q : Nat × Nat => min q.1 q.2) ∘ fun p => if false = true then (getL a p, getL b p) else (min (getL a p) 1, min (getL b p) 1))).sum = 0 := by
      rw [List.map_congr_left h2]
      clear h2
      induction (keys b).filter fun p => !decide (p ∈ keys a) with
      | nil => rfl
      | cons x l ih => rw [List.map_cons, List.sum_cons, ih]
    rw [h3]; rfl
  have e2 : ((pairsOf a b false).map fun q => max q.1 q.2).sum = a.length + b.length - (inter a b).length := by
    unfold pairsOf
    rw [List.map_map, bothNames_eq]
    have h1 : ∀ p ∈ keys a ++ (keys b).filter (fun p => !decide (p ∈ keys a)), ((fun q : Nat × Nat => max q.1 q.2) ∘ fun p => if false = true then (getL a p, getL b p) else (min (getL a p) 1, min (getL b p) 1)) p = 1 := by
      intro p hp
      rcases List.mem_append.mp hp with hp | hp
      · have g := (ha.pos p).mp hp
        simp; omega
      · have g := (hb.pos p).mp (List.mem_filter.mp hp).1
        simp; omega
    rw [sum_ones _ _ h1, List.length_append, keys_len]
    have h4 := filter_not_len (keys b) (fun p => decide (p ∈ keys a))
    have h5 : ((keys b).filter fun p => decide (p ∈ keys a)).length = (inter a b).length := (inter_len_comm ha hb).symm
    have h6 := keys_len b
    omega
  unfold sharedOf
  rw [e1, e2]
theorem likeOf_set {a b : Bag} (ha : WF a) (hb : WF b) : likeOf a b SET = frac (inter a b).length (a.length + b.length - (inter a b).length) := by
  unfold likeOf
  rw [if_pos (.inl rfl), show decide (SET = BAG) = false by decide, set_shared ha hb]
theorem bag_le {l : List Nat} {n : Nat} (h : okT l = true) (hn : 1 ≤ n) : (bagOf l n).length ≤ 40 := by
  have := okT_len h
  have := bagOf_len l n
  omega
theorem frac_scale (g x y : Nat) (hg : 0 < g) : frac (g * x) (g * y) = frac x y := by
  unfold frac
  by_cases h : y = 0
  · subst h; simp
  · have : g * y ≠ 0 := Nat.mul_ne_zero (by omega) h
    rw [if_neg this, if_neg h, Nat.gcd_mul_left, Nat.mul_div_mul_left _ _ hg, Nat.mul_div_mul_left _ _ hg]
/-- what a fraction was made of -/
theorem frac_of (c e : Nat) (he : 0 < e) : ∃ g, 0 < g ∧ c = g * (frac c e).1 ∧ e = g * (frac c e).2 ∧ 0 < (frac c e).2 := by
  have hg : 0 < Nat.gcd c e := Nat.gcd_pos_of_pos_right c he
  refine ⟨Nat.gcd c e, hg, ?_⟩
  unfold frac
  rw [if_neg (by omega)]
  obtain ⟨x, hx⟩ := Nat.gcd_dvd_left c e
  obtain ⟨y, hy⟩ := Nat.gcd_dvd_right c e
  have e1 : c / Nat.gcd c e = x := by
    have := Nat.mul_div_cancel_left x hg
    rw [← hx] at this; exact this
  have e2 : e / Nat.gcd c e = y := by
    have := Nat.mul_div_cancel_left y hg
    rw [← hy] at this; exact this
  show c = _ * (c / Nat.gcd c e) ∧ e = _ * (e / Nat.gcd c e) ∧ 0 < e / Nat.gcd c e
  rw [e1, e2]
  refine ⟨hx, hy, ?_⟩
  cases y with
  | zero => omega
  | succ y => omega
theorem frac_one (c e : Nat) (he : 0 < e) : frac c e = (1, 1) ↔ c = e := by
  constructor
  · intro h
    obtain ⟨g, _, h1, h2, _⟩ := frac_of c e he
    rw [h] at h1 h2
    simp at h1 h2
    omega
  · intro h
    subst h
    unfold frac
    rw [if_neg (by omega), Nat.gcd_self, Nat.div_self he]
theorem frac_zero (c e : Nat) (he : 0 < e) : (frac c e).1 = 0 ↔ c = 0 := by
  obtain ⟨g, hg, h1, h2, _⟩ := frac_of c e he
  constructor
  · intro h; rw [h] at h1; simpa using h1
  · intro h
    rw [h] at h1
    have := Nat.mul_eq_zero.mp h1.symm
    rcases this with z | z
    · omega
    · rw [h]; exact z
theorem eqD_fr (p q : Nat × Nat) : eqD (frD p) (frD q) = decide (p = q) := by
  obtain ⟨a, b⟩ := p
  obtain ⟨c, d⟩ := q
  unfold frD
  rw [eqD_pair, eqD_int, eqD_int]
  by_cases h1 : a = c
  · by_cases h2 : b = d
    · subst h1; subst h2; simp
    · have e : ¬ ((b : Int) = (d : Int)) := by omega
      simp only [e, decide_false, Bool.and_false]
      rw [eq_comm, decide_eq_false_iff_not]
      intro z; exact h2 (Prod.mk.inj z).2
  · have e : ¬ ((a : Int) = (c : Int)) := by omega
    simp only [e, decide_false, Bool.false_and]
    rw [eq_comm, decide_eq_false_iff_not]
    intro z; exact h1 (Prod.mk.inj z).1
theorem sh_fr {n : Nat} (p : Nat × Nat) : Sh (n + 1) (frD p) := .tup (by
  intro d hd
  simp only [List.mem_cons, List.not_mem_nil, or_false] at hd
  rcases hd with rfl | rfl <;> exact .int _)
theorem likeOf_part {a b : Bag} (ha : WF a) (hb : WF b) : likeOf a b PART = frac (inter a b).length a.length := by
  unfold likeOf
  rw [if_neg (by decide), if_pos rfl, show decide (PART = BAG) = false by decide, set_shared ha hb]
theorem likeOf_twice {a b : Bag} (ha : WF a) (hb : WF b) : likeOf a b TWICE = frac (2 * (inter a b).length) (a.length + b.length) := by
  unfold likeOf
  rw [if_neg (by decide), if_neg (by decide), show decide (TWICE = BAG) = false by decide, set_shared ha hb]
theorem likeOf_bag (a b : Bag) : likeOf a b BAG = frac (sharedOf a b true).1 (sharedOf a b true).2 := by
  unfold likeOf
  rw [if_pos (.inr rfl), show decide (BAG = BAG) = true by decide]
theorem twice_eq (C A B : Nat) (h1 : C ≤ A) (h2 : C ≤ B) : frac (2 * C) (A + B) = frac (2 * (frac C (A + B - C)).1) ((frac C (A + B - C)).1 + (frac C (A + B - C)).2) := by
  by_cases h0 : A + B - C = 0
  · have : A = 0 ∧ B = 0 ∧ C = 0 := by omega
    obtain ⟨rfl, rfl, rfl⟩ := this
    decide
  · obtain ⟨g, hg, e1, e2, _⟩ := frac_of C (A + B - C) (by omega)
    generalize (frac C (A + B - C)).1 = x at *
    generalize (frac C (A + B - C)).2 = y at *
    rw [← frac_scale g (2 * x) (x + y) hg]
    congr 1
    · rw [e1]; exact Nat.mul_left_comm 2 g x
    · rw [Nat.mul_add, ← e1, ← e2]; omega
theorem like_ev {l m : List Nat} {n : Nat} {way : List Nat} (hl : okT l = true) (hm : okT m = true) (h1 : 1 ≤ n) (h6 : n ≤ 6) (hw : way = SET ∨ way = BAG ∨ way = PART ∨ way = TWICE) : R_like Q [.str l, .str m, .int n, .str way] (.ok (frD (likeOf (bagOf l n) (bagOf m n) way))) := ⟨_, _, _, _, rfl, .inl ⟨l, m, n, way, rfl, rfl, rfl, rfl, hl, hm, h1, h6, hw, rfl⟩⟩
theorem frac_le (a b : Nat) : (frac a b).1 ≤ a + 1 ∧ (frac a b).2 ≤ b + 1 := by
  unfold frac
  split
  · simp
  · exact ⟨Nat.le_trans (Nat.div_le_self _ _) (by omega), Nat.le_trans (Nat.div_le_self _ _) (by omega)⟩
theorem tri_main (a b c x y z X Y Z : Nat) (hX : 2 * X = a + c + x) (hY : 2 * Y = c + b + y) (hZ : 2 * Z = a + b + z) (h1 : z ≤ x + y) (h2 : c ≤ b + y) (h3 : c ≤ a + x) (h0 : 0 < a + b + x + y) : z * (X * Y) ≤ x * (Y * Z) + y * (X * Z) := by
  have k1 : z * (a + b + x + y) ≤ (x + y) * (2 * Z) := by
    rw [hZ]
    have : z * (a + b) ≤ (x + y) * (a + b) := Nat.mul_le_mul_right _ h1
    grind
  have k2 : 2 * X ≤ a + b + x + y := by omega
  have k3 : 2 * Y ≤ a + b + x + y := by omega
  generalize a + b + x + y = W at *
  have k4 : (X * Y) * (z * W) ≤ (X * Y) * ((x + y) * (2 * Z)) := Nat.mul_le_mul_left _ k1
  have k5 : (x * (Y * Z)) * (2 * X) ≤ (x * (Y * Z)) * W := Nat.mul_le_mul_left _ k2
  have k6 : (y * (X * Z)) * (2 * Y) ≤ (y * (X * Z)) * W := Nat.mul_le_mul_left _ k3
  have : (z * (X * Y)) * W ≤ (x * (Y * Z) + y * (X * Z)) * W := by grind
  exact Nat.le_of_mul_le_mul_right this h0
/-- what is told of how far: a fraction of D and X, 0 where there is nothing -/
structure Far (D X : Nat) (p q : Nat) : Prop where
  q0 : 0 < q
  e : p * X = D * q
  z : X = 0 → p = 0
theorem tri_far (a b c x y z X Y Z p1 q1 p2 q2 p3 q3 : Nat) (hX : 2 * X = a + c + x) (hY : 2 * Y = c + b + y) (hZ : 2 * Z = a + b + z) (h1 : z ≤ x + y) (h2 : c ≤ b + y) (h3 : c ≤ a + x) (h4 : z ≤ a + b) (h5 : y ≤ c + b) (h6 : x ≤ a + c) (h7 : b ≤ a + z) (h8 : a ≤ b + z) (h9 : b ≤ c + y) (h10 : a ≤ c + x)
    (F1 : Far x X p1 q1) (F2 : Far y Y p2 q2) (F3 : Far z Z p3 q3) : p3 * q1 * q2 ≤ (p1 * q2 + p2 * q1) * q3 := by
  by_cases hz : Z = 0
  · rw [F3.z hz]; simp
  by_cases hx : X = 0
  · have e : Y = Z ∧ y = z := by omega
    rw [F1.z hx]
    have e3 := F3.e
    have e2 := F2.e
    rw [e.1, e.2] at e2
    have h : p3 * q2 * Z = p2 * q3 * Z := by grind
    have h := Nat.eq_of_mul_eq_mul_right (by omega) h
    refine Nat.le_of_eq ?_
    have k : p3 * q1 * q2 = p3 * q2 * q1 := by rw [Nat.mul_right_comm]
    rw [k, h, Nat.zero_mul, Nat.zero_add, Nat.mul_right_comm]
  by_cases hy : Y = 0
  · have e : X = Z ∧ x = z := by omega
    rw [F2.z hy]
    have e3 := F3.e
    have e1 := F1.e
    rw [e.1, e.2] at e1
    have h : p3 * q1 * Z = p1 * q3 * Z := by grind
    have h := Nat.eq_of_mul_eq_mul_right (by omega) h
    refine Nat.le_of_eq ?_
    rw [h, Nat.zero_mul, Nat.add_zero, Nat.mul_right_comm]
  have m := tri_main a b c x y z X Y Z hX hY hZ h1 h2 h3 (by omega)
  have hp : 0 < X * Y * Z := Nat.mul_pos (Nat.mul_pos (by omega) (by omega)) (by omega)
  refine Nat.le_of_mul_le_mul_right ?_ hp
  have e1 := F1.e
  have e2 := F2.e
  have e3 := F3.e
  have m2 := Nat.mul_le_mul_left (q1 * q2 * q3) m
  have l : p3 * q1 * q2 * (X * Y * Z) = q1 * q2 * q3 * (z * (X * Y)) := by
    have : p3 * q1 * q2 * (X * Y * Z) = (p3 * Z) * (q1 * q2 * X * Y) := by grind
    rw [this, e3]; grind
  have r : (p1 * q2 + p2 * q1) * q3 * (X * Y * Z) = q1 * q2 * q3 * (x * (Y * Z) + y * (X * Z)) := by
    have : (p1 * q2 + p2 * q1) * q3 * (X * Y * Z) = (p1 * X) * (q2 * q3 * Y * Z) + (p2 * Y) * (q1 * q3 * X * Z) := by grind
    rw [this, e1, e2]; grind
  rw [l, r]; exact m2
theorem sum_perm {l m : List Nat} (h : l.Perm m) : l.sum = m.sum := by
  induction h with
  | nil => rfl
  | cons x _ ih => rw [List.sum_cons, List.sum_cons, ih]
  | swap x y l => simp only [List.sum_cons]; omega
  | trans _ _ h1 h2 => exact h1.trans h2
/-- a sum over some, where the rest gives nothing -/
theorem sum_part {α : Type} [DecidableEq α] {l U : List α} (hl : l.Nodup) (hU : U.Nodup) (hs : ∀ x ∈ l, x ∈ U) (F : α → Nat) (h0 : ∀ x ∈ U, x ∉ l → F x = 0) : (l.map F).sum = (U.map F).sum := by
  have hp : U.Perm (l ++ U.filter fun x => decide (x ∉ l)) := by
    rw [List.perm_ext_iff_of_nodup hU]
    · intro x
      rw [List.mem_append, List.mem_filter]
      constructor
      · intro h
        by_cases hx : x ∈ l
        · exact .inl hx
        · exact .inr ⟨h, by simpa using hx⟩
      · rintro (h | h)
        · exact hs x h
        · exact h.1
    · rw [List.nodup_append]
      refine ⟨hl, hU.filter _, fun x hx y hy => ?_⟩
      rintro rfl
      have := (List.mem_filter.mp hy).2
      exact absurd hx (by simpa using this)
  rw [sum_perm (hp.map F), List.map_append, List.sum_append]
  have : ((U.filter fun x => decide (x ∉ l)).map F).sum = 0 := by
    have h : ∀ x ∈ U.filter (fun x => decide (x ∉ l)), F x = 0 := fun x hx => h0 x (List.mem_filter.mp hx).1 (by simpa using (List.mem_filter.mp hx).2)
    generalize U.filter (fun x => decide (x ∉ l)) = k at h
    induction k with
    | nil => rfl
    | cons y k ih => rw [List.map_cons, List.sum_cons, h y List.mem_cons_self, ih fun x hx => h x (List.mem_cons_of_mem _ hx)]
  rw [this]; rfl
/-- how often, as each way counts -/
def cntf (k : Bool) (a : Bag) (p : List Nat) : Nat := if k then getL a p else min (getL a p) 1
theorem sharedOf_eq (a b : Bag) (k : Bool) : sharedOf a b k = (((bothNames a b).map fun p => min (cntf k a p) (cntf k b p)).sum, ((bothNames a b).map fun p => max (cntf k a p) (cntf k b p)).sum) := by
  unfold sharedOf pairsOf
  rw [List.map_map, List.map_map]
  cases k <;> rfl
theorem bothNames_nodup {a b : Bag} (ha : WF a) (hb : WF b) : (bothNames a b).Nodup := by
  rw [bothNames_eq, List.nodup_append]
  refine ⟨ha.nd, hb.nd.filter _, fun x hx y hy => ?_⟩
  rintro rfl
  have := (List.mem_filter.mp hy).2
  simp [hx] at this
theorem bothNames_mem (a b : Bag) (p : List Nat) : p ∈ bothNames a b ↔ p ∈ keys a ∨ p ∈ keys b := by
  rw [bothNames_eq, List.mem_append, List.mem_filter]
  by_cases h : p ∈ keys a <;> simp [h]
theorem cntf_0 {a : Bag} (ha : WF a) {p : List Nat} (h : p ∉ keys a) (k : Bool) : cntf k a p = 0 := by
  unfold cntf
  rw [get0 ha h]
  cases k <;> rfl
def sMin {α : Type} (U : List α) (f g : α → Nat) : Nat := (U.map fun p => min (f p) (g p)).sum
def sMax {α : Type} (U : List α) (f g : α → Nat) : Nat := (U.map fun p => max (f p) (g p)).sum
theorem shared_on {a b : Bag} (ha : WF a) (hb : WF b) (k : Bool) {U : List (List Nat)} (hU : U.Nodup) (h1 : ∀ p ∈ keys a, p ∈ U) (h2 : ∀ p ∈ keys b, p ∈ U) : sharedOf a b k = (sMin U (cntf k a) (cntf k b), sMax U (cntf k a) (cntf k b)) := by
  have hs : ∀ p ∈ bothNames a b, p ∈ U := fun p hp => by
    rcases (bothNames_mem a b p).mp hp with h | h
    · exact h1 p h
    · exact h2 p h
  have hz : ∀ p, p ∉ bothNames a b → cntf k a p = 0 ∧ cntf k b p = 0 := fun p hp => by
    rw [bothNames_mem, not_or] at hp
    exact ⟨cntf_0 ha hp.1 k, cntf_0 hb hp.2 k⟩
  rw [sharedOf_eq]
  unfold sMin sMax
  rw [sum_part (bothNames_nodup ha hb) hU hs _ (fun p _ hp => by rw [(hz p hp).1, (hz p hp).2]; rfl), sum_part (bothNames_nodup ha hb) hU hs _ (fun p _ hp => by rw [(hz p hp).1, (hz p hp).2]; rfl)]
theorem sMin_comm {α : Type} (U : List α) (f g : α → Nat) : sMin U f g = sMin U g f := by
  unfold sMin; congr 1; apply List.map_congr_left; intro p _; exact Nat.min_comm _ _
theorem sMax_comm {α : Type} (U : List α) (f g : α → Nat) : sMax U f g = sMax U g f := by
  unfold sMax; congr 1; apply List.map_congr_left; intro p _; exact Nat.max_comm _ _
theorem sum_two {α : Type} (U : List α) (f g : α → Nat) : sMin U f g + sMax U f g = (U.map f).sum + (U.map g).sum ∧ sMin U f g ≤ sMax U f g ∧ (U.map f).sum ≤ sMax U f g ∧ (U.map g).sum ≤ sMax U f g := by
  unfold sMin sMax
  induction U with
  | nil => simp
  | cons x U ih => simp only [List.map_cons, List.sum_cons]; omega
theorem sum_three {α : Type} (U : List α) (f g h : α → Nat) : sMax U f g + sMin U f h + sMin U h g ≤ sMax U f h + sMax U h g + sMin U f g := by
  unfold sMin sMax
  induction U with
  | nil => simp
  | cons x U ih => simp only [List.map_cons, List.sum_cons]; omega
def FarB {α : Type} (U : List α) (f g : α → Nat) (p q : Nat) : Prop := Far (sMax U f g - sMin U f g) (sMax U f g) p q
theorem FarB.symm {α : Type} {U : List α} {f g : α → Nat} {p q : Nat} (h : FarB U f g p q) : FarB U g f p q := by
  unfold FarB at *
  rw [sMin_comm, sMax_comm]; exact h
theorem tri_on {α : Type} {U : List α} {f g h : α → Nat} {p1 q1 p2 q2 p3 q3 : Nat} (F1 : FarB U f h p1 q1) (F2 : FarB U h g p2 q2) (F3 : FarB U f g p3 q3) : isWide (p1, q1) (p2, q2) (p3, q3) = false := by
  have a1 := sum_two U f h
  have a2 := sum_two U h g
  have a3 := sum_two U f g
  have a4 := sum_three U f g h
  unfold FarB at *
  have := tri_far (U.map f).sum (U.map g).sum (U.map h).sum _ _ _ _ _ _ p1 q1 p2 q2 p3 q3 (by omega) (by omega) (by omega) (by omega) (by omega) (by omega) (by omega) (by omega) (by omega) (by omega) (by omega) (by omega) (by omega) F1 F2 F3
  exact decide_eq_false (Nat.not_lt.mpr this)
theorem far_frac (N X : Nat) (h : N ≤ X) : Far (X - N) X ((frac N X).2 - (frac N X).1) (frac N X).2 ∧ (frac N X).1 ≤ (frac N X).2 := by
  by_cases h0 : X = 0
  · subst h0
    have : N = 0 := by omega
    subst this
    exact ⟨⟨by decide, by decide, fun _ => by decide⟩, by decide⟩
  · obtain ⟨g, hg, e1, e2, e3⟩ := frac_of N X (by omega)
    generalize (frac N X).1 = u at *
    generalize (frac N X).2 = v at *
    refine ⟨⟨e3, ?_, fun z => absurd z h0⟩, ?_⟩
    · rw [e2, e1, ← Nat.mul_sub, Nat.mul_left_comm, Nat.mul_assoc]; 
    · rw [e1, e2] at h
      exact Nat.le_of_mul_le_mul_left h hg
theorem frac_idem (c e : Nat) : frac (frac c e).1 (frac c e).2 = frac c e := by
  by_cases h : e = 0
  · subst h
    show frac 1 1 = (1, 1)
    decide
  · obtain ⟨g, hg, e1, e2, e3⟩ := frac_of c e (by omega)
    have := frac_scale g (frac c e).1 (frac c e).2 hg
    rw [← e1, ← e2] at this
    exact this.symm
def R_law : List D → Res → Prop := fun ds r => ∃ ns : List Int, ds = [.scr ns] ∧ ns.length ≤ 63 ∧ r = .ok (.bl true)
theorem far_key (N X : Nat) (h : N ≤ X) (hX : X ≤ 5000) : ∃ u v : Nat, frac N X = (u, v) ∧ u ≤ v ∧ v < 2 ^ 60 ∧ Far (X - N) X (v - u) v := by
  have ff := far_frac N X h
  have fl := frac_le N X
  generalize frac N X = q at ff fl
  exact ⟨q.1, q.2, rfl, ff.2, by omega, ff.1⟩
/-- what is told of two by set or bag -/
theorem like_set_bag {l m : List Nat} {n : Nat} {way : List Nat} (hl : okT l = true) (hm : okT m = true) (hw : way = SET ∨ way = BAG) {U : List (List Nat)} (hU : U.Nodup) (h1 : ∀ p ∈ keys (bagOf l n), p ∈ U) (h2 : ∀ p ∈ keys (bagOf m n), p ∈ U) :
    ∃ u v : Nat, likeOf (bagOf l n) (bagOf m n) way = (u, v) ∧ u ≤ v ∧ v < 2 ^ 60 ∧ FarB U (cntf (decide (way = BAG)) (bagOf l n)) (cntf (decide (way = BAG)) (bagOf m n)) (v - u) v := by
  have wa := wf_bagOf l n
  have wb := wf_bagOf m n
  have hs := sharedOf_le (few_of hl) (few_of hm) (decide (way = BAG)) (a := bagOf l n) (b := bagOf m n)
  have e : likeOf (bagOf l n) (bagOf m n) way = frac (sharedOf (bagOf l n) (bagOf m n) (decide (way = BAG))).1 (sharedOf (bagOf l n) (bagOf m n) (decide (way = BAG))).2 := by
    unfold likeOf
    rw [if_pos hw]
  rw [e]
  have so := shared_on wa wb (decide (way = BAG)) hU h1 h2
  rw [so] at hs ⊢
  have s2 := sum_two U (cntf (decide (way = BAG)) (bagOf l n)) (cntf (decide (way = BAG)) (bagOf m n))
  exact far_key _ _ s2.2.1 hs.2
theorem like_least {l m : List Nat} {n : Nat} {way : List Nat} (hl : okT l = true) (hm : okT m = true) (h1 : 1 ≤ n) (hw : way = SET ∨ way = BAG ∨ way = PART ∨ way = TWICE) :
    ∃ u v : Nat, likeOf (bagOf l n) (bagOf m n) way = (u, v) ∧ u ≤ v ∧ v ≤ 100000 ∧ frac u v = (u, v) := by
  have wa := wf_bagOf l n
  have wb := wf_bagOf m n
  have A40 := bag_le hl h1
  have B40 := bag_le hm h1
  have hs := sharedOf_le (few_of hl) (few_of hm) true (a := bagOf l n) (b := bagOf m n)
  have hcA : (inter (bagOf l n) (bagOf m n)).length ≤ (bagOf l n).length := by rw [← keys_len]; exact inter_le _ _
  have hcB : (inter (bagOf l n) (bagOf m n)).length ≤ (bagOf m n).length := by rw [inter_len_comm wa wb, ← keys_len]; exact inter_le _ _
  have key : ∀ c e : Nat, c ≤ e → e ≤ 90000 → ∃ u v : Nat, frac c e = (u, v) ∧ u ≤ v ∧ v ≤ 100000 ∧ frac u v = (u, v) := fun c e h1 h2 => by
    have fl := frac_le c e
    have ff := (far_frac c e h1).2
    have fi := frac_idem c e
    generalize frac c e = q at ff fl fi
    exact ⟨q.1, q.2, rfl, ff, by omega, fi⟩
  rcases hw with rfl | rfl | rfl | rfl
  · rw [likeOf_set wa wb]; exact key _ _ (by omega) (by omega)
  · rw [likeOf_bag]
    refine key _ _ ?_ (by have := hs.2; omega)
    have so := shared_on wa wb true (U := keys (bagL (keys (bagOf l n) ++ keys (bagOf m n)))) (nodup_keys_bagL _) (fun p hp => (mem_keys_bagL _ _).mpr (List.mem_append_left _ hp)) (fun p hp => (mem_keys_bagL _ _).mpr (List.mem_append_right _ hp))
    rw [so]
    exact (sum_two _ _ _).2.1
  · rw [likeOf_part wa wb]; exact key _ _ (by omega) (by omega)
  · rw [likeOf_twice wa wb]; exact key _ _ (by omega) (by omega)
/-- by twice no less than by set -/
theorem twice_ge {C A B : Nat} (h1 : C ≤ A) (h2 : C ≤ B) : (frac C (A + B - C)).1 * (frac (2 * C) (A + B)).2 ≤ (frac (2 * C) (A + B)).1 * (frac C (A + B - C)).2 := by
  by_cases h0 : A + B = 0
  · have : A = 0 ∧ B = 0 ∧ C = 0 := by omega
    obtain ⟨rfl, rfl, rfl⟩ := this
    decide
  · obtain ⟨g, hg, e1, e2, _⟩ := frac_of C (A + B - C) (by omega)
    obtain ⟨k, hk, e3, e4, _⟩ := frac_of (2 * C) (A + B) (by omega)
    generalize (frac C (A + B - C)).1 = x at *
    generalize (frac C (A + B - C)).2 = y at *
    generalize (frac (2 * C) (A + B)).1 = u at *
    generalize (frac (2 * C) (A + B)).2 = v at *
    have hh : C * (A + B) ≤ 2 * C * (A + B - C) := by
      rw [Nat.mul_comm 2 C, Nat.mul_assoc]
      exact Nat.mul_le_mul_left _ (by omega)
    have hp : 0 < g * k := Nat.mul_pos hg hk
    refine Nat.le_of_mul_le_mul_left ?_ hp
    calc g * k * (x * v) = (g * x) * (k * v) := by rw [Nat.mul_mul_mul_comm]
      _ = C * (A + B) := by rw [← e1, ← e4]
      _ ≤ 2 * C * (A + B - C) := hh
      _ = (k * u) * (g * y) := by rw [← e3, ← e2]
      _ = g * k * (u * y) := by rw [Nat.mul_mul_mul_comm, Nat.mul_comm k g]
theorem ok_law {f : Addr} {fd : FuncData} (F : Fun K "law" "law" s_law f fd) (M : Facts K mg Q) : FnOk P w K mg base (L2.CX P w) 5 f fd ["script"] (spR K T R_law) := by
  refine fn_ok F sc_law (by rintro _ _ ⟨ns, rfl, _⟩; rfl) (fun cdv A outer s H E hr => ⟨_, (pss_cons (ps_for (passes_of rfl) rfl (pi_range1 (by rfl) M.n_range (pa_cons (pe_callB (k_max (K := K) rfl rfl hr.units) (by rfl) M.n_max (by decide +kernel) (pa_cons pe_int (pa_cons (pe_callB (k_min (K := K) rfl rfl hr.units) (by rfl) M.n_min (by decide +kernel) (pa_cons pe_int (pa_cons (pe_callB (k_len (K := K) rfl) (by rfl) M.n_len PySem.boot_len (pa_cons (pv 0) pa_nil)) pa_nil))) pa_nil))) pa_nil)) (pg_name (i := 1) sc_law.nd rfl (Or.inl rfl))
      (pss_cons (ps_set (i := 2) sc_law.nd rfl (Or.inl rfl) (k_fn (K := K) (T := T) ⟨rfl, rfl, rfl, rfl, rfl⟩ (ok__law_drawn M) hr (by decide) (by rfl) (pcall (takes_of rfl rfl rfl rfl) (fun _ _ _ _ h => h)) (pa_cons (k_fn (K := K) (T := T) ⟨rfl, rfl, rfl, rfl, rfl⟩ (ok__law_cell M) hr (by decide) (by rfl) (pcall (takes_of rfl rfl rfl rfl) (fun _ _ _ _ h => h)) (pa_cons (pv 0) (pa_cons (pv 1) pa_nil))) (pa_cons (pv 1) pa_nil))))
      (pss_cons (ps_set (i := 3) sc_law.nd rfl (Or.inl rfl) (k_fn (K := K) (T := T) ⟨rfl, rfl, rfl, rfl, rfl⟩ (ok__law_text M) hr (by decide) (by rfl) (pcall (takes_of rfl rfl rfl rfl) (fun _ _ _ _ h => h)) (pa_cons (pe_op op_divG (pv 2) pe_int) pa_nil)))
      (pss_cons (ps_par rfl sc_law.nd (i := 4) (j := 5) rfl rfl (by decide) rfl rfl (pa_cons (k_fn (K := K) (T := T) ⟨rfl, rfl, rfl, rfl, rfl⟩ (ok__law_near M) hr (by decide) (by rfl) (pcall (takes_of rfl rfl rfl rfl) (fun _ _ _ _ h => h)) (pa_cons (pv 3) (pa_cons (k_fn (K := K) (T := T) ⟨rfl, rfl, rfl, rfl, rfl⟩ (ok__law_drawn M) hr (by decide) (by rfl) (pcall (takes_of rfl rfl rfl rfl) (fun _ _ _ _ h => h)) (pa_cons (pv 2) (pa_cons pe_int pa_nil))) pa_nil))) (pa_cons (k_fn (K := K) (T := T) ⟨rfl, rfl, rfl, rfl, rfl⟩ (ok__law_near M) hr (by decide) (by rfl) (pcall (takes_of rfl rfl rfl rfl) (fun _ _ _ _ h => h)) (pa_cons (pv 3) (pa_cons (k_fn (K := K) (T := T) ⟨rfl, rfl, rfl, rfl, rfl⟩ (ok__law_drawn M) hr (by decide) (by rfl) (pcall (takes_of rfl rfl rfl rfl) (fun _ _ _ _ h => h)) (pa_cons (pv 2) (pa_cons pe_int pa_nil))) pa_nil))) pa_nil)) (by rfl))
      (pss_cons (ps_if (pt_cmpR (k_eq (K := K) rfl hr.units) (pe_op op_modG (pv 2) pe_int) pe_int (nomark _)) (pss_one (ps_set (i := 5) sc_law.nd rfl (Or.inl rfl) (k_fn (K := K) (T := T) ⟨rfl, rfl, rfl, rfl, rfl⟩ (ok__law_text M) hr (by decide) (by rfl) (pcall (takes_of rfl rfl rfl rfl) (fun _ _ _ _ h => h)) (pa_cons (k_fn (K := K) (T := T) ⟨rfl, rfl, rfl, rfl, rfl⟩ (ok__law_drawn M) hr (by decide) (by rfl) (pcall (takes_of rfl rfl rfl rfl) (fun _ _ _ _ h => h)) (pa_cons (pv 2) (pa_cons pe_int pa_nil))) pa_nil)))) pss_nil)
      (pss_one (ps_for (passes_of rfl) rfl (pi_range2 (by rfl) M.n_range (pa_cons pe_int (pa_cons pe_int pa_nil))) (pg_name (i := 6) sc_law.nd rfl (Or.inl rfl))
      (pss_cons (ps_for (passes_of rfl) rfl (k_any' (K := K) rfl (pe_lst (pa_cons pe_str (pa_cons pe_str pa_nil)))) (pg_name (i := 7) sc_law.nd rfl (Or.inl rfl))
      (pss_cons (ps_set (i := 8) sc_law.nd rfl (Or.inl rfl) (pe_lst pa_nil))
      (pss_cons (ps_for (passes_of rfl) rfl (k_any' (K := K) rfl (pe_lst (pa_cons (pe_tup (pa_cons (pv 3) (pa_cons (pv 4) pa_nil))) (pa_cons (pe_tup (pa_cons (pv 4) (pa_cons (pv 5) pa_nil))) (pa_cons (pe_tup (pa_cons (pv 3) (pa_cons (pv 5) pa_nil))) pa_nil))))) (pg_name (i := 9) sc_law.nd rfl (Or.inl rfl))
      (pss_cons (ps_asg (k_fn (K := K) (T := T) ⟨rfl, rfl, rfl, rfl, rfl⟩ (ok_like M) hr (by decide) (by rfl) (pcall (takes_of rfl rfl rfl rfl) (fun _ _ _ _ h => h)) (pa_cons (k_sub (K := K) rfl (hu_of hr) (pv 9) pe_int (fun _ _ => rfl) (fun _ _ => rfl)) (pa_cons (k_sub (K := K) rfl (hu_of hr) (pv 9) pe_int (fun _ _ => rfl) (fun _ _ => rfl)) (pa_cons (pv 6) (pa_cons (pv 7) pa_nil))))) (k_tup (K := K) (n := 2) rfl rfl (pgs_cons (pg_name (i := 10) sc_law.nd rfl (Or.inl rfl)) (pgs_cons (pg_name (i := 11) sc_law.nd rfl (Or.inl rfl)) pgs_nil))))
      (pss_one (ps_expr (k_bm (K := K) rfl PySem.F.plainAttrs_list PySem.F.slot_list_append PySem.F.type_list_append mt_append (pv 8) (pa_cons (pe_tup (pa_cons (pe_op op_subG (pv 11) (pv 10)) (pa_cons (pv 11) pa_nil))) pa_nil))))))
      (pss_one (ps_for (passes_of rfl) rfl (k_any' (K := K) rfl (pe_lst (pa_cons (pe_tup (pa_cons pe_int (pa_cons pe_int (pa_cons pe_int pa_nil)))) (pa_cons (pe_tup (pa_cons pe_int (pa_cons pe_int (pa_cons pe_int pa_nil)))) (pa_cons (pe_tup (pa_cons pe_int (pa_cons pe_int (pa_cons pe_int pa_nil)))) pa_nil))))) (k_tup (K := K) (n := 3) rfl rfl (pgs_cons (pg_name (i := 12) sc_law.nd rfl (Or.inl rfl)) (pgs_cons (pg_name (i := 13) sc_law.nd rfl (Or.inl rfl)) (pgs_cons (pg_name (i := 14) sc_law.nd rfl (Or.inl rfl)) pgs_nil))))
      (pss_one (ps_if (pt_val (k_fn (K := K) (T := T) ⟨rfl, rfl, rfl, rfl, rfl⟩ (ok__law_is_wide M) hr (by decide) (by rfl) (pcall (takes_of rfl rfl rfl rfl) (fun _ _ _ _ h => h)) (pa_cons (k_sub (K := K) rfl (hu_of hr) (pv 8) (pv 12) (fun _ _ => rfl) (fun _ _ => rfl)) (pa_cons (k_sub (K := K) rfl (hu_of hr) (pv 8) (pv 13) (fun _ _ => rfl) (fun _ _ => rfl)) (pa_cons (k_sub (K := K) rfl (hu_of hr) (pv 8) (pv 14) (fun _ _ => rfl) (fun _ _ => rfl)) pa_nil))))) (pss_one (ps_ret pe_bl)) pss_nil)))))))
      (pss_cons (ps_for (passes_of rfl) rfl (k_any' (K := K) rfl (pe_lst (pa_cons pe_str (pa_cons pe_str (pa_cons pe_str (pa_cons pe_str pa_nil)))))) (pg_name (i := 7) sc_law.nd rfl (Or.inl rfl))
      (pss_cons (ps_asg (k_fn (K := K) (T := T) ⟨rfl, rfl, rfl, rfl, rfl⟩ (ok_like M) hr (by decide) (by rfl) (pcall (takes_of rfl rfl rfl rfl) (fun _ _ _ _ h => h)) (pa_cons (pv 3) (pa_cons (pv 5) (pa_cons (pv 6) (pa_cons (pv 7) pa_nil))))) (k_tup (K := K) (n := 2) rfl rfl (pgs_cons (pg_name (i := 10) sc_law.nd rfl (Or.inl rfl)) (pgs_cons (pg_name (i := 11) sc_law.nd rfl (Or.inl rfl)) pgs_nil))))
      (pss_one (ps_if (PW.pt (pw_or (pt_not (pt_chain op_leI op_leI pe_int (pv 10) (pv 11))) (pw_or1 (pt_cmpR (k_ne (K := K) rfl hr.units) (k_fn (K := K) (T := T) ⟨rfl, rfl, rfl, rfl, rfl⟩ (ok__law_least M) hr (by decide) (by rfl) (pcall (takes_of rfl rfl rfl rfl) (fun _ _ _ _ h => h)) (pa_cons (pv 10) (pa_cons (pv 11) pa_nil))) (pe_tup (pa_cons (pv 10) (pa_cons (pv 11) pa_nil))) (nomark _))))) (pss_one (ps_ret pe_bl)) pss_nil))))
      (pss_cons (ps_par rfl sc_law.nd (i := 15) (j := 16) rfl rfl (by decide) rfl rfl (pa_cons (k_fn (K := K) (T := T) ⟨rfl, rfl, rfl, rfl, rfl⟩ (ok_like M) hr (by decide) (by rfl) (pcall (takes_of rfl rfl rfl rfl) (fun _ _ _ _ h => h)) (pa_cons (pv 3) (pa_cons (pv 5) (pa_cons (pv 6) (pa_cons pe_str pa_nil))))) (pa_cons (k_fn (K := K) (T := T) ⟨rfl, rfl, rfl, rfl, rfl⟩ (ok_like M) hr (by decide) (by rfl) (pcall (takes_of rfl rfl rfl rfl) (fun _ _ _ _ h => h)) (pa_cons (pv 3) (pa_cons (pv 5) (pa_cons (pv 6) (pa_cons pe_str pa_nil))))) pa_nil)) (by rfl))
      (pss_one (ps_if (pt_cmpR op_ltG (pe_op op_mulG (k_sub (K := K) rfl (hu_of hr) (pv 15) pe_int (fun _ _ => rfl) (fun _ _ => rfl)) (k_sub (K := K) rfl (hu_of hr) (pv 16) pe_int (fun _ _ => rfl) (fun _ _ => rfl))) (pe_op op_mulG (k_sub (K := K) rfl (hu_of hr) (pv 16) pe_int (fun _ _ => rfl) (fun _ _ => rfl)) (k_sub (K := K) rfl (hu_of hr) (pv 15) pe_int (fun _ _ => rfl) (fun _ _ => rfl))) (nomark _)) (pss_one (ps_ret pe_bl)) pss_nil))))))))))))
      (pss_one (ps_ret pe_bl))), ?_⟩)
  rintro _ _ ⟨ns, rfl, hns, rfl⟩
  refine .inl (es_seq (es_for (ei_range1 (ea_cons (ev_cb (ea_cons ev_int (ea_cons (ev_cb (ea_cons ev_int (ea_cons (ev_cb (ea_cons (ev_var rfl) ea_nil) c_lenScr) ea_nil)) c_min2) ea_nil)) c_max2) ea_nil) (by omega) (by omega)) (fun _ => [some (.sh (.scr ns)), none, none, none, none, none, none, none, none, none, none, none, none, none, none, none, none]) rfl fun k d hd => ?_) (es_ret ev_bl))
  obtain ⟨hk, rfl⟩ := range_at hd
  generalize hmo : drawn (cellL ns k) k = more
  have l_ok : okT (textL (more / 8)) = true := textL_ok _
  generalize hl : textL (more / 8) = l at l_ok
  have m_ok : okT (nearL l (drawn more 1)) = true := nearL_ok _ l_ok
  generalize hm : nearL l (drawn more 1) = m at m_ok
  have t_ok : okT (if more % 3 = 0 then textL (drawn more 3) else nearL l (drawn more 2)) = true := by
    split
    · exact textL_ok _
    · exact nearL_ok _ l_ok
  generalize ht : (if more % 3 = 0 then textL (drawn more 3) else nearL l (drawn more 2)) = t at t_ok
  have ll := okT_len l_ok
  have lm := okT_len m_ok
  have lt := okT_len t_ok
  refine ⟨_, [1, 2, 3, 4, 5], _, [some (.sh (.scr ns)), some (.sh (.int (k : Nat))), some (.sh (.int more)), some (.sh (.str l)), some (.sh (.str m)), some (.sh (.str t)), none, none, none, none, none, none, none, none, none, none, none], eg_name, ?_, rfl⟩
  dsimp only [List.set]
  refine es_seq (es_set (d := .int more) (ev_call (ea_cons (ev_call (ea_cons (ev_var rfl) (ea_cons (ev_var rfl) ea_nil)) ⟨ns, k, rfl, hns, by omega, rfl⟩) (ea_cons (ev_var rfl) ea_nil)) ⟨_, k, rfl, by omega, by rw [hmo]⟩)) ?_
  dsimp only [List.set]
  refine es_seq (es_set (d := .str l) (ev_call (ea_cons (ev_op (ev_var rfl) ev_int (o_div (by decide) (by decide))) ea_nil) ⟨_, rfl, by rw [hl]⟩)) ?_
  dsimp only [List.set]
  refine es_seq (es_par (d1 := .str m) (d2 := .str (nearL l (drawn more 2))) (ea_cons (ev_call (ea_cons (ev_var rfl) (ea_cons (ev_call (ea_cons (ev_var rfl) (ea_cons ev_int ea_nil)) ⟨more, 1, rfl, by decide, rfl⟩) ea_nil)) ⟨l, _, rfl, by omega, drawn_nn _ _, by rw [hm]⟩) (ea_cons (ev_call (ea_cons (ev_var rfl) (ea_cons (ev_call (ea_cons (ev_var rfl) (ea_cons ev_int ea_nil)) ⟨more, 2, rfl, by decide, rfl⟩) ea_nil)) ⟨l, _, rfl, by omega, drawn_nn _ _, rfl⟩) ea_nil))) ?_
  dsimp only [List.set]
  refine es_seq (ρ1 := [some (.sh (.scr ns)), some (.sh (.int (k : Nat))), some (.sh (.int more)), some (.sh (.str l)), some (.sh (.str m)), some (.sh (.str t)), none, none, none, none, none, none, none, none, none, none, none]) (es_if (et_test (ev_op (ev_op (ev_var rfl) ev_int (o_mod (by decide))) ev_int (o_eq (.int _) (.int _)))) (fun h => ?t1) (fun h => ?t2)) ?_
  case t1 =>
    rw [eqD_int] at h
    rw [if_pos (of_decide_eq_true h)] at ht
    subst ht
    exact es_set (d := .str (textL (drawn more 3))) (ev_call (ea_cons (ev_call (ea_cons (ev_var rfl) (ea_cons ev_int ea_nil)) ⟨more, 3, rfl, by decide, rfl⟩) ea_nil) ⟨_, rfl, rfl⟩)
  case t2 =>
    rw [eqD_int] at h
    rw [if_neg (of_decide_eq_false h)] at ht
    subst ht
    exact es_next
  refine es_for (ei_range2 (ea_cons ev_int (ea_cons ev_int ea_nil)) ⟨by decide, by decide⟩ ⟨by decide, by decide⟩) (fun _ => [some (.sh (.scr ns)), some (.sh (.int (k : Nat))), some (.sh (.int more)), some (.sh (.str l)), some (.sh (.str m)), some (.sh (.str t)), none, none, none, none, none, none, none, none, none, none, none]) rfl fun i d hd => ?_
  obtain ⟨hi, rfl⟩ := range_at hd
  have hi' : i < 6 := by simpa using hi
  obtain ⟨n, hn⟩ : ∃ n : Nat, (1 : Int) + ((i : Nat) : Int) = (n : Int) := ⟨1 + i, by omega⟩
  rw [hn]
  have n1 : 1 ≤ n := by omega
  have n6 : n ≤ 6 := by omega
  obtain ⟨U, hU, hUl, hUm, hUt⟩ : ∃ U : List (List Nat), U.Nodup ∧ (∀ p ∈ keys (bagOf l n), p ∈ U) ∧ (∀ p ∈ keys (bagOf m n), p ∈ U) ∧ (∀ p ∈ keys (bagOf t n), p ∈ U) :=
    ⟨keys (bagL (keys (bagOf l n) ++ keys (bagOf m n) ++ keys (bagOf t n))), nodup_keys_bagL _, fun p hp => (mem_keys_bagL _ _).mpr (List.mem_append_left _ (List.mem_append_left _ hp)), fun p hp => (mem_keys_bagL _ _).mpr (List.mem_append_left _ (List.mem_append_right _ hp)), fun p hp => (mem_keys_bagL _ _).mpr (List.mem_append_right _ hp)⟩
  have tg := twice_ge (C := (inter (bagOf l n) (bagOf t n)).length) (A := (bagOf l n).length) (B := (bagOf t n).length) (by rw [← keys_len]; exact inter_le _ _) (by rw [inter_len_comm (wf_bagOf l n) (wf_bagOf t n), ← keys_len]; exact inter_le _ _)
  rw [← likeOf_twice (wf_bagOf l n) (wf_bagOf t n), ← likeOf_set (wf_bagOf l n) (wf_bagOf t n)] at tg
  refine ⟨_, [6, 15, 16], _, [some (.sh (.scr ns)), some (.sh (.int (k : Nat))), some (.sh (.int more)), some (.sh (.str l)), some (.sh (.str m)), some (.sh (.str t)), some (.sh (.int (n : Nat))), none, none, none, none, none, none, none, none, some (.sh (frD (likeOf (bagOf l n) (bagOf t n) TWICE))), some (.sh (frD (likeOf (bagOf l n) (bagOf t n) SET)))], eg_name, ?_, rfl⟩
  dsimp only [List.set]
  refine es_seq (es_for (ds := [.str SET, .str BAG]) (ei_list ((ev_lst (ea_cons ev_str (ea_cons ev_str ea_nil)) (by simp)).is rfl)) (fun _ => [some (.sh (.scr ns)), some (.sh (.int (k : Nat))), some (.sh (.int more)), some (.sh (.str l)), some (.sh (.str m)), some (.sh (.str t)), some (.sh (.int (n : Nat))), none, none, none, none, none, none, none, none, none, none]) rfl fun j d hd => ?w1) ?_
  case w1 =>
    obtain ⟨way, rfl, hw⟩ : ∃ way, d = .str way ∧ (way = SET ∨ way = BAG) := by
      have := List.mem_of_getElem? hd
      simp only [List.mem_cons, List.not_mem_nil, or_false] at this
      rcases this with h | h
      · exact ⟨_, h, .inl rfl⟩
      · exact ⟨_, h, .inr rfl⟩
    have hw4 : way = SET ∨ way = BAG ∨ way = PART ∨ way = TWICE := hw.elim .inl fun h => .inr (.inl h)
    obtain ⟨u1, v1, e1, q1, b1, F1⟩ := like_set_bag l_ok m_ok hw hU hUl hUm
    obtain ⟨u2, v2, e2, q2, b2, F2⟩ := like_set_bag m_ok t_ok hw hU hUm hUt
    obtain ⟨u3, v3, e3, q3, b3, F3⟩ := like_set_bag l_ok t_ok hw hU hUl hUt
    have L1 := like_ev (Q := Q) l_ok m_ok n1 n6 hw4
    have L2 := like_ev (Q := Q) m_ok t_ok n1 n6 hw4
    have L3 := like_ev (Q := Q) l_ok t_ok n1 n6 hw4
    rw [e1] at L1
    rw [e2] at L2
    rw [e3] at L3
    have W1 := tri_on F1 F2 F3
    have W2 := tri_on F2 F3.symm F1.symm
    have W3 := tri_on F1.symm F3 F2
    refine ⟨_, [7, 8], _, [some (.sh (.scr ns)), some (.sh (.int (k : Nat))), some (.sh (.int more)), some (.sh (.str l)), some (.sh (.str m)), some (.sh (.str t)), some (.sh (.int (n : Nat))), some (.sh (.str way)), some (.sh (.lst [frD (v1 - u1, v1), frD (v2 - u2, v2), frD (v3 - u3, v3)])), none, none, none, none, none, none, none, none], eg_name, ?_, rfl⟩
    dsimp only [List.set]
    refine es_seq (es_newL ea_nil (by simp)) ?_
    dsimp only [List.set]
    refine es_seq (es_for (ds := [.tup [.str l, .str m], .tup [.str m, .str t], .tup [.str l, .str t]]) (ei_list (ev_lst (ea_cons (ev_tup (ea_cons (ev_var rfl) (ea_cons (ev_var rfl) ea_nil)) (by simp)) (ea_cons (ev_tup (ea_cons (ev_var rfl) (ea_cons (ev_var rfl) ea_nil)) (by simp)) (ea_cons (ev_tup (ea_cons (ev_var rfl) (ea_cons (ev_var rfl) ea_nil)) (by simp)) ea_nil))) (by simp))) (fun j => [some (.sh (.scr ns)), some (.sh (.int (k : Nat))), some (.sh (.int more)), some (.sh (.str l)), some (.sh (.str m)), some (.sh (.str t)), some (.sh (.int (n : Nat))), some (.sh (.str way)), some (.ol (([frD (v1 - u1, v1), frD (v2 - u2, v2), frD (v3 - u3, v3)] : List D).take j)), none, none, none, none, none, none, none, none]) rfl fun j d hd => ?p1) ?_
    case p1 =>
      obtain ⟨x, y, u, v, fs, huv, hfs, hL, hd, hj, hj1⟩ : ∃ (x y : List Nat) (u v : Nat) (fs : List D), u ≤ v ∧ fs.length ≤ 3 ∧ R_like Q [.str x, .str y, .int n, .str way] (.ok (frD (u, v))) ∧ d = .tup [.str x, .str y] ∧ ([frD (v1 - u1, v1), frD (v2 - u2, v2), frD (v3 - u3, v3)] : List D).take j = fs ∧ ([frD (v1 - u1, v1), frD (v2 - u2, v2), frD (v3 - u3, v3)] : List D).take (j + 1) = fs ++ [frD (v - u, v)] := by
        match j, hd with
        | 0, hd => exact ⟨l, m, u1, v1, [], q1, by simp, L1, (Option.some.inj hd).symm, rfl, rfl⟩
        | 1, hd => exact ⟨m, t, u2, v2, _, q2, by simp, L2, (Option.some.inj hd).symm, rfl, rfl⟩
        | 2, hd => exact ⟨l, t, u3, v3, _, q3, by simp, L3, (Option.some.inj hd).symm, rfl, rfl⟩
      subst hd
      rw [hj, hj1]
      refine ⟨_, [9, 10, 11], _, [some (.sh (.scr ns)), some (.sh (.int (k : Nat))), some (.sh (.int more)), some (.sh (.str l)), some (.sh (.str m)), some (.sh (.str t)), some (.sh (.int (n : Nat))), some (.sh (.str way)), some (.ol (fs ++ [frD (v - u, v)])), some (.sh (.tup [.str x, .str y])), some (.sh (.int (u : Nat))), some (.sh (.int (v : Nat))), none, none, none, none, none], eg_name, ?_, rfl⟩
      dsimp only [List.set]
      refine es_seq (es_asg (ev_call (ea_cons (ev_ixT (d := .str x) (ev_var rfl) ev_int rfl) (ea_cons (ev_ixT (d := .str y) (ev_var rfl) ev_int rfl) (ea_cons (ev_var rfl) (ea_cons (ev_var rfl) ea_nil)))) hL) (eg_tup rfl (egs_cons eg_name (egs_cons eg_name egs_nil)))) ?_
      dsimp only [List.set]
      exact es_append rfl ((ev_tup (ea_cons (ev_op (ev_var rfl) (ev_var rfl) o_sub) (ea_cons (ev_var rfl) ea_nil)) (by simp)).is (by unfold frD; rw [Int.ofNat_sub huv])) (by omega)
    dsimp only [List.length, List.take]
    refine es_let (i := 8) rfl ?_
    dsimp only [List.set]
    refine es_for (ds := [.tup [.int 0, .int 1, .int 2], .tup [.int 1, .int 2, .int 0], .tup [.int 0, .int 2, .int 1]]) (ei_list ((ev_lst (ea_cons (ev_tup (ea_cons ev_int (ea_cons ev_int (ea_cons ev_int ea_nil))) (by simp)) (ea_cons (ev_tup (ea_cons ev_int (ea_cons ev_int (ea_cons ev_int ea_nil))) (by simp)) (ea_cons (ev_tup (ea_cons ev_int (ea_cons ev_int (ea_cons ev_int ea_nil))) (by simp)) ea_nil))) (by simp)).is rfl)) (fun _ => [some (.sh (.scr ns)), some (.sh (.int (k : Nat))), some (.sh (.int more)), some (.sh (.str l)), some (.sh (.str m)), some (.sh (.str t)), some (.sh (.int (n : Nat))), some (.sh (.str way)), some (.sh (.lst [frD (v1 - u1, v1), frD (v2 - u2, v2), frD (v3 - u3, v3)])), none, none, none, none, none, none, none, none]) rfl fun j d hd => ?_
    obtain ⟨a, b, c, p, q, r, hd, ha, hb, hc, hw, h1, h2, h3, h4, h5, h6⟩ : ∃ (a b c : Int) (p q r : Nat × Nat), d = .tup [.int a, .int b, .int c] ∧ atI ([frD (v1 - u1, v1), frD (v2 - u2, v2), frD (v3 - u3, v3)] : List D) a = some (frD p) ∧ atI ([frD (v1 - u1, v1), frD (v2 - u2, v2), frD (v3 - u3, v3)] : List D) b = some (frD q) ∧ atI ([frD (v1 - u1, v1), frD (v2 - u2, v2), frD (v3 - u3, v3)] : List D) c = some (frD r) ∧ isWide p q r = false ∧ p.1 < 2 ^ 60 ∧ p.2 < 2 ^ 60 ∧ q.1 < 2 ^ 60 ∧ q.2 < 2 ^ 60 ∧ r.1 < 2 ^ 60 ∧ r.2 < 2 ^ 60 := by
      have c1 : v1 - u1 < 2 ^ 60 := by omega
      have c2 : v2 - u2 < 2 ^ 60 := by omega
      have c3 : v3 - u3 < 2 ^ 60 := by omega
      match j, hd with
      | 0, hd => exact ⟨0, 1, 2, (v1 - u1, v1), (v2 - u2, v2), (v3 - u3, v3), (Option.some.inj hd).symm, rfl, rfl, rfl, W1, c1, b1, c2, b2, c3, b3⟩
      | 1, hd => exact ⟨1, 2, 0, (v2 - u2, v2), (v3 - u3, v3), (v1 - u1, v1), (Option.some.inj hd).symm, rfl, rfl, rfl, W2, c2, b2, c3, b3, c1, b1⟩
      | 2, hd => exact ⟨0, 2, 1, (v1 - u1, v1), (v3 - u3, v3), (v2 - u2, v2), (Option.some.inj hd).symm, rfl, rfl, rfl, W3, c1, b1, c3, b3, c2, b2⟩
    subst hd
    refine ⟨_, [12, 13, 14], _, [some (.sh (.scr ns)), some (.sh (.int (k : Nat))), some (.sh (.int more)), some (.sh (.str l)), some (.sh (.str m)), some (.sh (.str t)), some (.sh (.int (n : Nat))), some (.sh (.str way)), some (.sh (.lst [frD (v1 - u1, v1), frD (v2 - u2, v2), frD (v3 - u3, v3)])), none, none, none, some (.sh (.int a)), some (.sh (.int b)), some (.sh (.int c)), none, none], eg_tup rfl (egs_cons eg_name (egs_cons eg_name (egs_cons eg_name egs_nil))), ?_, rfl⟩
    exact es_if (x := false) (et_test (ev_call (ea_cons (ev_ixL (ev_var rfl) (ev_var rfl) ha) (ea_cons (ev_ixL (ev_var rfl) (ev_var rfl) hb) (ea_cons (ev_ixL (ev_var rfl) (ev_var rfl) hc) ea_nil))) ⟨p, q, r, rfl, h1, h2, h3, h4, h5, h6, by rw [hw]⟩)) (fun z => nomatch z) fun _ => es_next
  refine es_seq (es_for (ds := [.str SET, .str BAG, .str PART, .str TWICE]) (ei_list ((ev_lst (ea_cons ev_str (ea_cons ev_str (ea_cons ev_str (ea_cons ev_str ea_nil)))) (by simp)).is rfl)) (fun _ => [some (.sh (.scr ns)), some (.sh (.int (k : Nat))), some (.sh (.int more)), some (.sh (.str l)), some (.sh (.str m)), some (.sh (.str t)), some (.sh (.int (n : Nat))), none, none, none, none, none, none, none, none, none, none]) rfl fun j d hd => ?w2) ?_
  case w2 =>
    obtain ⟨way, rfl, hw⟩ : ∃ way, d = .str way ∧ (way = SET ∨ way = BAG ∨ way = PART ∨ way = TWICE) := by
      have := List.mem_of_getElem? hd
      simp only [List.mem_cons, List.not_mem_nil, or_false] at this
      rcases this with h | h | h | h
      · exact ⟨_, h, .inl rfl⟩
      · exact ⟨_, h, .inr (.inl rfl)⟩
      · exact ⟨_, h, .inr (.inr (.inl rfl))⟩
      · exact ⟨_, h, .inr (.inr (.inr rfl))⟩
    obtain ⟨u, v, e, huv, hv, hf⟩ := like_least l_ok t_ok n1 hw
    have L := like_ev (Q := Q) l_ok t_ok n1 n6 hw
    rw [e] at L
    refine ⟨_, [7, 10, 11], _, [some (.sh (.scr ns)), some (.sh (.int (k : Nat))), some (.sh (.int more)), some (.sh (.str l)), some (.sh (.str m)), some (.sh (.str t)), some (.sh (.int (n : Nat))), some (.sh (.str way)), none, none, some (.sh (.int (u : Nat))), some (.sh (.int (v : Nat))), none, none, none, none, none], eg_name, ?_, rfl⟩
    dsimp only [List.set]
    refine es_seq (es_asg (ev_call (ea_cons (ev_var rfl) (ea_cons (ev_var rfl) (ea_cons (ev_var rfl) (ea_cons (ev_var rfl) ea_nil)))) L) (eg_tup rfl (egs_cons eg_name (egs_cons eg_name egs_nil)))) ?_
    dsimp only [List.set]
    refine es_if (x := false) ((et_or (et_not (et_test (ev_chain ev_int (ev_var rfl) o_le (fun _ => ev_var rfl) (fun _ => o_le)))) fun _ => et_test (ev_op (ev_call (ea_cons (ev_var rfl) (ea_cons (ev_var rfl) ea_nil)) ⟨u, v, rfl, hv, by rw [hf]⟩) ((ev_tup (ea_cons (ev_var rfl) (ea_cons (ev_var rfl) ea_nil)) (by simp)).is (b := frD (u, v)) rfl) (o_ne (sh_fr _) (sh_fr _)))).is ?_) (fun z => nomatch z) fun _ => es_next
    rw [eqD_fr, decide_eq_true rfl, decide_eq_true (show (0 : Int) ≤ (u : Int) by omega), decide_eq_true (show (u : Int) ≤ (v : Int) by omega)]; rfl
  refine es_seq (es_par (ea_cons (ev_call (ea_cons (ev_var rfl) (ea_cons (ev_var rfl) (ea_cons (ev_var rfl) (ea_cons ev_str ea_nil)))) (like_ev l_ok t_ok n1 n6 (way := TWICE) (.inr (.inr (.inr rfl))))) (ea_cons (ev_call (ea_cons (ev_var rfl) (ea_cons (ev_var rfl) (ea_cons (ev_var rfl) (ea_cons ev_str ea_nil)))) (like_ev l_ok t_ok n1 n6 (way := SET) (.inl rfl))) ea_nil))) ?_
  dsimp only [List.set]
  obtain ⟨u, v, e, huv, hv, _⟩ := like_least l_ok t_ok n1 (way := TWICE) (.inr (.inr (.inr rfl)))
  obtain ⟨x, y, e', hxy, hy, _⟩ := like_least l_ok t_ok n1 (way := SET) (.inl rfl)
  rw [e, e'] at tg ⊢
  have tg : x * v ≤ u * y := tg
  refine es_if (x := false) ((et_test (ev_op (ev_op (ev_ixT (d := .int (u : Nat)) (ev_var rfl) ev_int rfl) (ev_ixT (d := .int (y : Nat)) (ev_var rfl) ev_int rfl) (o_mulL (by omega) (by omega))) (ev_op (ev_ixT (d := .int (x : Nat)) (ev_var rfl) ev_int rfl) (ev_ixT (d := .int (v : Nat)) (ev_var rfl) ev_int rfl) (o_mulL (by omega) (by omega))) o_lt)).is ?_) (fun z => nomatch z) fun _ => es_next
  refine decide_eq_false ?_
  rw [← Int.natCast_mul, ← Int.natCast_mul, Int.ofNat_lt]
  omega
end
theorem all_mk {l : PySem.W.OpenLaw} {w : World} {K : PySem.W.Frag} {h : Heap} {mg : Str → Option Value} {fa : Addr} (X : K.In h) (G : h.Ns mainGlobals mg) (hfa : mg "law" = some (.ref fa))
    {t_MOST_SIGNS : Tok} {t_MOST_SIZE : Tok} {t_SIGNS : Tok} {A_WAYS : Addr} {od_WAYS : Option Addr} {n_WAYS : Nat} {sl_WAYS : Array (Option Value)} {t_WAYS0 t_WAYS1 t_WAYS2 t_WAYS3 : Tok} {C_LikeError : Addr} {C_BadText : Addr} {C_BadSize : Addr} {C_BadWay : Addr} {f0 : Addr} {od0 an0 : Option Addr} {sl0 : Array (Option Value)} {oc0 kV0 dc0 pm0 cd0 ct0 : Value} {f1 : Addr} {od1 an1 : Option Addr} {sl1 : Array (Option Value)} {oc1 kV1 dc1 pm1 cd1 ct1 : Value} {f2 : Addr} {od2 an2 : Option Addr} {sl2 : Array (Option Value)} {oc2 kV2 dc2 pm2 cd2 ct2 : Value} {f3 : Addr} {od3 an3 : Option Addr} {sl3 : Array (Option Value)} {oc3 kV3 dc3 pm3 cd3 ct3 : Value} {f4 : Addr} {od4 an4 : Option Addr} {sl4 : Array (Option Value)} {oc4 kV4 dc4 pm4 cd4 ct4 : Value} {f5 : Addr} {od5 an5 : Option Addr} {sl5 : Array (Option Value)} {oc5 kV5 dc5 pm5 cd5 ct5 : Value} {f6 : Addr} {od6 an6 : Option Addr} {sl6 : Array (Option Value)} {oc6 kV6 dc6 pm6 cd6 ct6 : Value} {f7 : Addr} {od7 an7 : Option Addr} {sl7 : Array (Option Value)} {oc7 kV7 dc7 pm7 cd7 ct7 : Value} {f8 : Addr} {od8 an8 : Option Addr} {sl8 : Array (Option Value)} {oc8 kV8 dc8 pm8 cd8 ct8 : Value} {f9 : Addr} {od9 an9 : Option Addr} {sl9 : Array (Option Value)} {oc9 kV9 dc9 pm9 cd9 ct9 : Value} {f10 : Addr} {od10 an10 : Option Addr} {sl10 : Array (Option Value)} {oc10 kV10 dc10 pm10 cd10 ct10 : Value} {f11 : Addr} {od11 an11 : Option Addr} {sl11 : Array (Option Value)} {oc11 kV11 dc11 pm11 cd11 ct11 : Value} {f12 : Addr} {od12 an12 : Option Addr} {sl12 : Array (Option Value)} {oc12 kV12 dc12 pm12 cd12 ct12 : Value} {f13 : Addr} {od13 an13 : Option Addr} {sl13 : Array (Option Value)} {oc13 kV13 dc13 pm13 cd13 ct13 : Value} {f14 : Addr} {od14 an14 : Option Addr} {sl14 : Array (Option Value)} {oc14 kV14 dc14 pm14 cd14 ct14 : Value} {f15 : Addr} {od15 an15 : Option Addr} {sl15 : Array (Option Value)} {oc15 kV15 dc15 pm15 cd15 ct15 : Value} {f16 : Addr} {od16 an16 : Option Addr} {sl16 : Array (Option Value)} {oc16 kV16 dc16 pm16 cd16 ct16 : Value} {f17 : Addr} {od17 an17 : Option Addr} {sl17 : Array (Option Value)} {oc17 kV17 dc17 pm17 cd17 ct17 : Value} {f18 : Addr} {od18 an18 : Option Addr} {sl18 : Array (Option Value)} {oc18 kV18 dc18 pm18 cd18 ct18 : Value}
    (z_all : PySem.W.nsIn K mainGlobals "all" = some none)
    (z_bool : PySem.W.nsIn K mainGlobals "bool" = some none)
    (z_int : PySem.W.nsIn K mainGlobals "int" = some none)
    (z_isinstance : PySem.W.nsIn K mainGlobals "isinstance" = some none)
    (z_len : PySem.W.nsIn K mainGlobals "len" = some none)
    (z_list : PySem.W.nsIn K mainGlobals "list" = some none)
    (z_max : PySem.W.nsIn K mainGlobals "max" = some none)
    (z_min : PySem.W.nsIn K mainGlobals "min" = some none)
    (z_range : PySem.W.nsIn K mainGlobals "range" = some none)
    (z_str : PySem.W.nsIn K mainGlobals "str" = some none)
    (z_sum : PySem.W.nsIn K mainGlobals "sum" = some none)
    (a_MOST_SIGNS : PySem.W.nsIn K mainGlobals "MOST_SIGNS" = some (some (.int 40 t_MOST_SIGNS)))
    (a_MOST_SIZE : PySem.W.nsIn K mainGlobals "MOST_SIZE" = some (some (.int 6 t_MOST_SIZE)))
    (a_SIGNS : PySem.W.nsIn K mainGlobals "SIGNS" = some (some (.str "abcdefghijklmnopqrstuvwxyz " t_SIGNS)))
    (a_WAYS : PySem.W.nsIn K mainGlobals "WAYS" = some (some (.ref A_WAYS)))
    (l_WAYS : K.lookup A_WAYS = some ⟨.type "tuple", od_WAYS, .seq #[.str "set" t_WAYS0, .str "bag" t_WAYS1, .str "part" t_WAYS2, .str "twice" t_WAYS3] n_WAYS, sl_WAYS⟩)
    (g_LikeError : PySem.W.nsIn K mainGlobals "LikeError" = some (some (.ref C_LikeError)))
    (x_LikeError : PySem.W.excIn K C_LikeError [.type "ValueError", .type "Exception", .type "BaseException", .type "object"] "ValueError.__new__" = true)
    (k_LikeError : PySem.W.keepIn K (.ref C_LikeError) = true)
    (b_LikeError : PySem.W.subIn K (.ref C_LikeError) (.type "BaseException") = some true)
    (t_LikeError : PySem.W.typeIn K (.ref C_LikeError) = some (.type "type"))
    (g_BadText : PySem.W.nsIn K mainGlobals "BadText" = some (some (.ref C_BadText)))
    (x_BadText : PySem.W.excIn K C_BadText [.type "ValueError", .type "Exception", .type "BaseException", .type "object"] "ValueError.__new__" = true)
    (k_BadText : PySem.W.keepIn K (.ref C_BadText) = true)
    (b_BadText : PySem.W.subIn K (.ref C_BadText) (.type "BaseException") = some true)
    (t_BadText : PySem.W.typeIn K (.ref C_BadText) = some (.type "type"))
    (g_BadSize : PySem.W.nsIn K mainGlobals "BadSize" = some (some (.ref C_BadSize)))
    (x_BadSize : PySem.W.excIn K C_BadSize [.type "ValueError", .type "Exception", .type "BaseException", .type "object"] "ValueError.__new__" = true)
    (k_BadSize : PySem.W.keepIn K (.ref C_BadSize) = true)
    (b_BadSize : PySem.W.subIn K (.ref C_BadSize) (.type "BaseException") = some true)
    (t_BadSize : PySem.W.typeIn K (.ref C_BadSize) = some (.type "type"))
    (g_BadWay : PySem.W.nsIn K mainGlobals "BadWay" = some (some (.ref C_BadWay)))
    (x_BadWay : PySem.W.excIn K C_BadWay [.type "ValueError", .type "Exception", .type "BaseException", .type "object"] "ValueError.__new__" = true)
    (k_BadWay : PySem.W.keepIn K (.ref C_BadWay) = true)
    (b_BadWay : PySem.W.subIn K (.ref C_BadWay) (.type "BaseException") = some true)
    (t_BadWay : PySem.W.typeIn K (.ref C_BadWay) = some (.type "type"))
    (a0 : PySem.W.nsIn K mainGlobals "is_count" = some (some (.ref f0)))
    (l0 : K.lookup f0 = some ⟨oc0, od0, .func (PySem.W.fnOf "is_count" "is_count" (defArgs s_is_count) (defBody s_is_count) (defScope s_is_count) .none kV0 dc0 pm0 an0 cd0 ct0), sl0⟩)
    (c0 : PySem.W.codeIn K cd0 "is_count" = true)
    (k0 : PySem.W.keepIn K (.ref f0) = true)
    (a1 : PySem.W.nsIn K mainGlobals "is_text" = some (some (.ref f1)))
    (l1 : K.lookup f1 = some ⟨oc1, od1, .func (PySem.W.fnOf "is_text" "is_text" (defArgs s_is_text) (defBody s_is_text) (defScope s_is_text) .none kV1 dc1 pm1 an1 cd1 ct1), sl1⟩)
    (c1 : PySem.W.codeIn K cd1 "is_text" = true)
    (k1 : PySem.W.keepIn K (.ref f1) = true)
    (a2 : PySem.W.nsIn K mainGlobals "need_text" = some (some (.ref f2)))
    (l2 : K.lookup f2 = some ⟨oc2, od2, .func (PySem.W.fnOf "need_text" "need_text" (defArgs s_need_text) (defBody s_need_text) (defScope s_need_text) .none kV2 dc2 pm2 an2 cd2 ct2), sl2⟩)
    (c2 : PySem.W.codeIn K cd2 "need_text" = true)
    (k2 : PySem.W.keepIn K (.ref f2) = true)
    (a3 : PySem.W.nsIn K mainGlobals "need_size" = some (some (.ref f3)))
    (l3 : K.lookup f3 = some ⟨oc3, od3, .func (PySem.W.fnOf "need_size" "need_size" (defArgs s_need_size) (defBody s_need_size) (defScope s_need_size) .none kV3 dc3 pm3 an3 cd3 ct3), sl3⟩)
    (c3 : PySem.W.codeIn K cd3 "need_size" = true)
    (k3 : PySem.W.keepIn K (.ref f3) = true)
    (a4 : PySem.W.nsIn K mainGlobals "row_of" = some (some (.ref f4)))
    (l4 : K.lookup f4 = some ⟨oc4, od4, .func (PySem.W.fnOf "row_of" "row_of" (defArgs s_row_of) (defBody s_row_of) (defScope s_row_of) .none kV4 dc4 pm4 an4 cd4 ct4), sl4⟩)
    (c4 : PySem.W.codeIn K cd4 "row_of" = true)
    (k4 : PySem.W.keepIn K (.ref f4) = true)
    (a5 : PySem.W.nsIn K mainGlobals "bag_of" = some (some (.ref f5)))
    (l5 : K.lookup f5 = some ⟨oc5, od5, .func (PySem.W.fnOf "bag_of" "bag_of" (defArgs s_bag_of) (defBody s_bag_of) (defScope s_bag_of) .none kV5 dc5 pm5 an5 cd5 ct5), sl5⟩)
    (c5 : PySem.W.codeIn K cd5 "bag_of" = true)
    (k5 : PySem.W.keepIn K (.ref f5) = true)
    (a6 : PySem.W.nsIn K mainGlobals "common" = some (some (.ref f6)))
    (l6 : K.lookup f6 = some ⟨oc6, od6, .func (PySem.W.fnOf "common" "common" (defArgs s_common) (defBody s_common) (defScope s_common) .none kV6 dc6 pm6 an6 cd6 ct6), sl6⟩)
    (c6 : PySem.W.codeIn K cd6 "common" = true)
    (k6 : PySem.W.keepIn K (.ref f6) = true)
    (a7 : PySem.W.nsIn K mainGlobals "fraction" = some (some (.ref f7)))
    (l7 : K.lookup f7 = some ⟨oc7, od7, .func (PySem.W.fnOf "fraction" "fraction" (defArgs s_fraction) (defBody s_fraction) (defScope s_fraction) .none kV7 dc7 pm7 an7 cd7 ct7), sl7⟩)
    (c7 : PySem.W.codeIn K cd7 "fraction" = true)
    (k7 : PySem.W.keepIn K (.ref f7) = true)
    (a8 : PySem.W.nsIn K mainGlobals "need_way" = some (some (.ref f8)))
    (l8 : K.lookup f8 = some ⟨oc8, od8, .func (PySem.W.fnOf "need_way" "need_way" (defArgs s_need_way) (defBody s_need_way) (defScope s_need_way) .none kV8 dc8 pm8 an8 cd8 ct8), sl8⟩)
    (c8 : PySem.W.codeIn K cd8 "need_way" = true)
    (k8 : PySem.W.keepIn K (.ref f8) = true)
    (a9 : PySem.W.nsIn K mainGlobals "shared_of" = some (some (.ref f9)))
    (l9 : K.lookup f9 = some ⟨oc9, od9, .func (PySem.W.fnOf "shared_of" "shared_of" (defArgs s_shared_of) (defBody s_shared_of) (defScope s_shared_of) .none kV9 dc9 pm9 an9 cd9 ct9), sl9⟩)
    (c9 : PySem.W.codeIn K cd9 "shared_of" = true)
    (k9 : PySem.W.keepIn K (.ref f9) = true)
    (a10 : PySem.W.nsIn K mainGlobals "like_of" = some (some (.ref f10)))
    (l10 : K.lookup f10 = some ⟨oc10, od10, .func (PySem.W.fnOf "like_of" "like_of" (defArgs s_like_of) (defBody s_like_of) (defScope s_like_of) .none kV10 dc10 pm10 an10 cd10 ct10), sl10⟩)
    (c10 : PySem.W.codeIn K cd10 "like_of" = true)
    (k10 : PySem.W.keepIn K (.ref f10) = true)
    (a11 : PySem.W.nsIn K mainGlobals "like" = some (some (.ref f11)))
    (l11 : K.lookup f11 = some ⟨oc11, od11, .func (PySem.W.fnOf "like" "like" (defArgs s_like) (defBody s_like) (defScope s_like) .none kV11 dc11 pm11 an11 cd11 ct11), sl11⟩)
    (c11 : PySem.W.codeIn K cd11 "like" = true)
    (k11 : PySem.W.keepIn K (.ref f11) = true)
    (a12 : PySem.W.nsIn K mainGlobals "_law_cell" = some (some (.ref f12)))
    (l12 : K.lookup f12 = some ⟨oc12, od12, .func (PySem.W.fnOf "_law_cell" "_law_cell" (defArgs s__law_cell) (defBody s__law_cell) (defScope s__law_cell) .none kV12 dc12 pm12 an12 cd12 ct12), sl12⟩)
    (c12 : PySem.W.codeIn K cd12 "_law_cell" = true)
    (k12 : PySem.W.keepIn K (.ref f12) = true)
    (a13 : PySem.W.nsIn K mainGlobals "_law_drawn" = some (some (.ref f13)))
    (l13 : K.lookup f13 = some ⟨oc13, od13, .func (PySem.W.fnOf "_law_drawn" "_law_drawn" (defArgs s__law_drawn) (defBody s__law_drawn) (defScope s__law_drawn) .none kV13 dc13 pm13 an13 cd13 ct13), sl13⟩)
    (c13 : PySem.W.codeIn K cd13 "_law_drawn" = true)
    (k13 : PySem.W.keepIn K (.ref f13) = true)
    (a14 : PySem.W.nsIn K mainGlobals "_law_text" = some (some (.ref f14)))
    (l14 : K.lookup f14 = some ⟨oc14, od14, .func (PySem.W.fnOf "_law_text" "_law_text" (defArgs s__law_text) (defBody s__law_text) (defScope s__law_text) .none kV14 dc14 pm14 an14 cd14 ct14), sl14⟩)
    (c14 : PySem.W.codeIn K cd14 "_law_text" = true)
    (k14 : PySem.W.keepIn K (.ref f14) = true)
    (a15 : PySem.W.nsIn K mainGlobals "_law_near" = some (some (.ref f15)))
    (l15 : K.lookup f15 = some ⟨oc15, od15, .func (PySem.W.fnOf "_law_near" "_law_near" (defArgs s__law_near) (defBody s__law_near) (defScope s__law_near) .none kV15 dc15 pm15 an15 cd15 ct15), sl15⟩)
    (c15 : PySem.W.codeIn K cd15 "_law_near" = true)
    (k15 : PySem.W.keepIn K (.ref f15) = true)
    (a16 : PySem.W.nsIn K mainGlobals "_law_least" = some (some (.ref f16)))
    (l16 : K.lookup f16 = some ⟨oc16, od16, .func (PySem.W.fnOf "_law_least" "_law_least" (defArgs s__law_least) (defBody s__law_least) (defScope s__law_least) .none kV16 dc16 pm16 an16 cd16 ct16), sl16⟩)
    (c16 : PySem.W.codeIn K cd16 "_law_least" = true)
    (k16 : PySem.W.keepIn K (.ref f16) = true)
    (a17 : PySem.W.nsIn K mainGlobals "_law_is_wide" = some (some (.ref f17)))
    (l17 : K.lookup f17 = some ⟨oc17, od17, .func (PySem.W.fnOf "_law_is_wide" "_law_is_wide" (defArgs s__law_is_wide) (defBody s__law_is_wide) (defScope s__law_is_wide) .none kV17 dc17 pm17 an17 cd17 ct17), sl17⟩)
    (c17 : PySem.W.codeIn K cd17 "_law_is_wide" = true)
    (k17 : PySem.W.keepIn K (.ref f17) = true)
    (a18 : PySem.W.nsIn K mainGlobals "law" = some (some (.ref f18)))
    (l18 : K.lookup f18 = some ⟨oc18, od18, .func (PySem.W.fnOf "law" "law" (defArgs s_law) (defBody s_law) (defScope s_law) .none kV18 dc18 pm18 an18 cd18 ct18), sl18⟩)
    (c18 : PySem.W.codeIn K cd18 "law" = true)
    (k18 : PySem.W.keepIn K (.ref f18) = true)
    : ∃ fd : FuncData, (∀ (s : Shared) (v : Value), BindsTo s fd ⟨[v], []⟩ [("script", v)]) ∧ ∀ base : Heap, K.In base → base.Ns mainGlobals mg → FnOk l.prog w K mg base (L2.CX l.prog w) 5 fa fd ["script"] (spR K [] R_law) := by
  have M : Facts K mg ⟨C_LikeError, C_BadText, C_BadSize, 0, C_BadWay, 0, 0, 0, A_WAYS, 0⟩ := ⟨PySem.W.mg_none_of X G z_all,
    PySem.W.mg_none_of X G z_bool,
    PySem.W.mg_none_of X G z_int,
    PySem.W.mg_none_of X G z_isinstance,
    PySem.W.mg_none_of X G z_len,
    PySem.W.mg_none_of X G z_list,
    PySem.W.mg_none_of X G z_max,
    PySem.W.mg_none_of X G z_min,
    PySem.W.mg_none_of X G z_range,
    PySem.W.mg_none_of X G z_str,
    PySem.W.mg_none_of X G z_sum,
    ⟨_, PySem.W.mg_of X G a_MOST_SIGNS, ⟨_, rfl⟩⟩,
    ⟨_, PySem.W.mg_of X G a_MOST_SIZE, ⟨_, rfl⟩⟩,
    ⟨_, PySem.W.mg_of X G a_SIGNS, ⟨_, rfl⟩⟩,
    ⟨_, PySem.W.mg_of X G a_WAYS, rfl⟩,
    fun H => .inr ⟨_, _, _, l_WAYS, rfl, rfl, (by show 4 ≤ sizeLine; decide), (.cons ⟨_, rfl⟩ (.cons ⟨_, rfl⟩ (.cons ⟨_, rfl⟩ (.cons ⟨_, rfl⟩ .nil))))⟩,
    ⟨x_LikeError, PySem.W.mg_of X G g_LikeError, k_LikeError, b_LikeError, t_LikeError⟩,
    ⟨x_BadText, PySem.W.mg_of X G g_BadText, k_BadText, b_BadText, t_BadText⟩,
    ⟨x_BadSize, PySem.W.mg_of X G g_BadSize, k_BadSize, b_BadSize, t_BadSize⟩,
    ⟨x_BadWay, PySem.W.mg_of X G g_BadWay, k_BadWay, b_BadWay, t_BadWay⟩,
    ⟨⟨f0, _, fun_mk (st := s_is_count) l0 c0 k0, PySem.W.mg_of X G a0⟩⟩,
    ⟨⟨f1, _, fun_mk (st := s_is_text) l1 c1 k1, PySem.W.mg_of X G a1⟩⟩,
    ⟨⟨f2, _, fun_mk (st := s_need_text) l2 c2 k2, PySem.W.mg_of X G a2⟩⟩,
    ⟨⟨f3, _, fun_mk (st := s_need_size) l3 c3 k3, PySem.W.mg_of X G a3⟩⟩,
    ⟨⟨f4, _, fun_mk (st := s_row_of) l4 c4 k4, PySem.W.mg_of X G a4⟩⟩,
    ⟨⟨f5, _, fun_mk (st := s_bag_of) l5 c5 k5, PySem.W.mg_of X G a5⟩⟩,
    ⟨⟨f6, _, fun_mk (st := s_common) l6 c6 k6, PySem.W.mg_of X G a6⟩⟩,
    ⟨⟨f7, _, fun_mk (st := s_fraction) l7 c7 k7, PySem.W.mg_of X G a7⟩⟩,
    ⟨⟨f8, _, fun_mk (st := s_need_way) l8 c8 k8, PySem.W.mg_of X G a8⟩⟩,
    ⟨⟨f9, _, fun_mk (st := s_shared_of) l9 c9 k9, PySem.W.mg_of X G a9⟩⟩,
    ⟨⟨f10, _, fun_mk (st := s_like_of) l10 c10 k10, PySem.W.mg_of X G a10⟩⟩,
    ⟨⟨f11, _, fun_mk (st := s_like) l11 c11 k11, PySem.W.mg_of X G a11⟩⟩,
    ⟨⟨f12, _, fun_mk (st := s__law_cell) l12 c12 k12, PySem.W.mg_of X G a12⟩⟩,
    ⟨⟨f13, _, fun_mk (st := s__law_drawn) l13 c13 k13, PySem.W.mg_of X G a13⟩⟩,
    ⟨⟨f14, _, fun_mk (st := s__law_text) l14 c14 k14, PySem.W.mg_of X G a14⟩⟩,
    ⟨⟨f15, _, fun_mk (st := s__law_near) l15 c15 k15, PySem.W.mg_of X G a15⟩⟩,
    ⟨⟨f16, _, fun_mk (st := s__law_least) l16 c16 k16, PySem.W.mg_of X G a16⟩⟩,
    ⟨⟨f17, _, fun_mk (st := s__law_is_wide) l17 c17 k17, PySem.W.mg_of X G a17⟩⟩,
    ⟨⟨f18, _, fun_mk (st := s_law) l18 c18 k18, PySem.W.mg_of X G a18⟩⟩⟩
  have e := hfa.symm.trans (PySem.W.mg_of X G a18)
  cases e
  exact ⟨PySem.W.fnOf "law" "law" (defArgs s_law) (defBody s_law) (defScope s_law) .none kV18 dc18 pm18 an18 cd18 ct18, fun s v => .of_eq rfl, fun base _ _ => ok_law (T := []) (fun_mk (st := s_law) l18 c18 k18) M⟩
theorem no_cx {P : Program} {w : World} {H : Hp} {s : Shared} {e : Value} {s' : Shared} (h : L2.CX P w [] H s (fun _ _ _ => False) e s') : False := by
  obtain ⟨_, _, _, _, _, _, _, _, _, _, _, _, z⟩ := h
  exact z.elim
theorem walk {l : PySem.W.OpenLaw} {q : Program} {loose : List Str} {XP : (Str → Option Value) → Heap → Prop} {YP : World → Heap → Prop} {d : DefRec} {K : Params → PySem.W.Frag} (hn : l.most = some 63) (hdf : d.params.defaults = [])
    (hY : ∀ (w : World) (h : Heap), YP w h → (K w.params).In h)
    (F : ∀ (w : World) (mg : Str → Option Value) (fa : Addr) (h : Heap), (K w.params).In h → h.Ns mainGlobals mg → mg d.name = some (.ref fa) →
      ∃ fd : FuncData, (∀ (s : Shared) (u : Value), BindsTo s fd ⟨[u], []⟩ [("script", u)]) ∧ ∀ base : Heap, (K w.params).In base → base.Ns mainGlobals mg → FnOk l.prog w (K w.params) mg base (L2.CX l.prog w) 5 fa fd ["script"] (spR (K w.params) [] R_law)) :
    PySem.W.WalkO q loose XP YP l.row.toRowW d [] (fun f vs => PySem.call f vs) :=
  L2.walk_ofB (n := 63) (k := 5) (x := "script") (CX := fun w => L2.CX l.prog w) (sp := fun w => spR (K w.params) [] R_law) hn (by decide) hdf ⟨rfl, by decide, by decide⟩ hY F
    (fun _ H a ns hl _ _ hS => ⟨noTab H, [.scr ns], .ok (.bl true), noTab_kn H, (fun p hp => nomatch hp), .cons (.scr (noTab_l hS)) .nil, ⟨ns, rfl, hl, rfl⟩, fun v G' H' _ r => by cases r; rfl⟩) fun _ _ _ _ _ z => no_cx z
end Row
open PySem PySem.W PyProof.Rows
set_option maxRecDepth 100000 in
set_option maxHeartbeats 0 in
theorem PySem.Challenge.cw_sharedbits_k21_whole_triangles_holds : PySem.Challenge.rw_sharedbits_k21_whole_triangles.Holds := by
  w_on; o_law; k_head; (case hw => w_witness2)
  k_fill
  refine Row.walk (l := PySem.Challenge.rw_sharedbits_k21_whole_triangles) rfl rfl (fun w h Y => PySem.W.kIn_of Y) ?F
  case F =>
    intro w mg fa h KX G hmg
    refine' Row.all_mk KX G hmg ?z_all ?z_bool ?z_int ?z_isinstance ?z_len ?z_list ?z_max ?z_min ?z_range ?z_str ?z_sum ?a_MOST_SIGNS ?a_MOST_SIZE ?a_SIGNS ?a_WAYS ?l_WAYS ?g_LikeError ?x_LikeError ?k_LikeError ?b_LikeError ?t_LikeError ?g_BadText ?x_BadText ?k_BadText ?b_BadText ?t_BadText ?g_BadSize ?x_BadSize ?k_BadSize ?b_BadSize ?t_BadSize ?g_BadWay ?x_BadWay ?k_BadWay ?b_BadWay ?t_BadWay ?a0 ?l0 ?c0 ?k0 ?a1 ?l1 ?c1 ?k1 ?a2 ?l2 ?c2 ?k2 ?a3 ?l3 ?c3 ?k3 ?a4 ?l4 ?c4 ?k4 ?a5 ?l5 ?c5 ?k5 ?a6 ?l6 ?c6 ?k6 ?a7 ?l7 ?c7 ?k7 ?a8 ?l8 ?c8 ?k8 ?a9 ?l9 ?c9 ?k9 ?a10 ?l10 ?c10 ?k10 ?a11 ?l11 ?c11 ?k11 ?a12 ?l12 ?c12 ?k12 ?a13 ?l13 ?c13 ?k13 ?a14 ?l14 ?c14 ?k14 ?a15 ?l15 ?c15 ?k15 ?a16 ?l16 ?c16 ?k16 ?a17 ?l17 ?c17 ?k17 ?a18 ?l18 ?c18 ?k18
    (case z_all => k_is)
    (case z_bool => k_is)
    (case z_int => k_is)
    (case z_isinstance => k_is)
    (case z_len => k_is)
    (case z_list => k_is)
    (case z_max => k_is)
    (case z_min => k_is)
    (case z_range => k_is)
    (case z_str => k_is)
    (case z_sum => k_is)
    (case a_MOST_SIGNS => k_is)
    (case a_MOST_SIZE => k_is)
    (case a_SIGNS => k_is)
    (case a_WAYS => k_is)
    (case l_WAYS => k_is)
    (case g_LikeError => k_is)
    (case x_LikeError => k_exc)
    (case k_LikeError => k_is)
    (case b_LikeError => k_is)
    (case t_LikeError => k_is)
    (case g_BadText => k_is)
    (case x_BadText => k_exc)
    (case k_BadText => k_is)
    (case b_BadText => k_is)
    (case t_BadText => k_is)
    (case g_BadSize => k_is)
    (case x_BadSize => k_exc)
    (case k_BadSize => k_is)
    (case b_BadSize => k_is)
    (case t_BadSize => k_is)
    (case g_BadWay => k_is)
    (case x_BadWay => k_exc)
    (case k_BadWay => k_is)
    (case b_BadWay => k_is)
    (case t_BadWay => k_is)
    (case a0 => k_is)
    (case l0 => k_is)
    (case c0 => k_is)
    (case k0 => k_is)
    (case a1 => k_is)
    (case l1 => k_is)
    (case c1 => k_is)
    (case k1 => k_is)
    (case a2 => k_is)
    (case l2 => k_is)
    (case c2 => k_is)
    (case k2 => k_is)
    (case a3 => k_is)
    (case l3 => k_is)
    (case c3 => k_is)
    (case k3 => k_is)
    (case a4 => k_is)
    (case l4 => k_is)
    (case c4 => k_is)
    (case k4 => k_is)
    (case a5 => k_is)
    (case l5 => k_is)
    (case c5 => k_is)
    (case k5 => k_is)
    (case a6 => k_is)
    (case l6 => k_is)
    (case c6 => k_is)
    (case k6 => k_is)
    (case a7 => k_is)
    (case l7 => k_is)
    (case c7 => k_is)
    (case k7 => k_is)
    (case a8 => k_is)
    (case l8 => k_is)
    (case c8 => k_is)
    (case k8 => k_is)
    (case a9 => k_is)
    (case l9 => k_is)
    (case c9 => k_is)
    (case k9 => k_is)
    (case a10 => k_is)
    (case l10 => k_is)
    (case c10 => k_is)
    (case k10 => k_is)
    (case a11 => k_is)
    (case l11 => k_is)
    (case c11 => k_is)
    (case k11 => k_is)
    (case a12 => k_is)
    (case l12 => k_is)
    (case c12 => k_is)
    (case k12 => k_is)
    (case a13 => k_is)
    (case l13 => k_is)
    (case c13 => k_is)
    (case k13 => k_is)
    (case a14 => k_is)
    (case l14 => k_is)
    (case c14 => k_is)
    (case k14 => k_is)
    (case a15 => k_is)
    (case l15 => k_is)
    (case c15 => k_is)
    (case k15 => k_is)
    (case a16 => k_is)
    (case l16 => k_is)
    (case c16 => k_is)
    (case k16 => k_is)
    (case a17 => k_is)
    (case l17 => k_is)
    (case c17 => k_is)
    (case k17 => k_is)
    (case a18 => k_is)
    (case l18 => k_is)
    (case c18 => k_is)
    (case k18 => k_is)
