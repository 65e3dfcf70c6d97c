import PyProof.Rows.All
import Wide.All
import OpenK.AllK
import Wide.FinOn
import HandS.ForMost
import HandS.ForExc
import HandS.ExcInit
import KE.KExcSuper
import KE.KExcPX
import HandS.TupAny
import HandS.ExcField
import HandS.ExcIs
import KE.KExcIs
import HandS.More
import PySem.Challenge.RW_whatturns_k01_errors
import HandS.Comp
set_option Elab.async false
set_option linter.all false
set_option maxRecDepth 100000
set_option maxHeartbeats 4000000
/-! EV: data trees, and expressions and statements judged by the data that they are worth -/
namespace WT
open PySem L2

/-- data, without addresses; fz: a list that is read alone; ref: an object by its address; obj: an instance that is never changed -/
inductive D where
  | non | bl (b : Bool) | int (i : Int) | str (x : Str)
  | tup (xs : List D) | lst (xs : List D) | fz (xs : List D) | dct (kvs : List (Key × D))
  | obj (C : Addr) (fs : List (Str × D))
  | ref (a : Addr) | ty (n : String)
  /-- an error of the class at C that is never raised (with its attributes | with none); an error that was caught, at a, its dict at dx -/
  | err (C : Addr) (fs : List (Str × D)) | err0 (C : Addr) | exn (a dx : Addr) (fs : List (Str × D))

/-- what may change (M), what is watched (W), and what is known of it (J), by a state g of the prover's own -/
structure Sys (G : Type) where
  M : Addr → Prop
  W : Addr → Prop
  sub : ∀ a, M a → W a
  J : G → Hp → Prop
  dom : ∀ g H a, J g H → W a → H a ≠ none
  loc : ∀ g H H', J g H → (∀ a, W a → H' a = H a) → J g H'
def Sys.Ext {G : Type} (S : Sys G) (H H' : Hp) : Prop := ∀ a o, H a = some o → ¬ S.M a → H' a = some o
theorem Sys.grow {G : Type} (S : Sys G) (g : G) (H H' : Hp) (j : S.J g H) (k : ∀ a o, H a = some o → H' a = some o) : S.J g H' := S.loc g H H' j fun a m => by
  cases e : H a with
  | none => exact absurd e (S.dom g H a j m)
  | some o => exact k a o e
/-- one more object, which no datum leans on; it is o -/
def Sys.hold {G : Type} (S : Sys G) (p : Addr) (o : HO) : Sys G where
  M := fun a => S.M a ∨ a = p
  W := fun a => S.W a ∨ a = p
  sub := fun a h => h.imp (S.sub a) id
  J := fun g H => S.J g H ∧ H p = some o
  dom := fun g H a h m => m.elim (S.dom g H a h.1) fun e => by rw [e, h.2]; exact fun z => nomatch z
  loc := fun g H H' h k => ⟨S.loc g H H' h.1 fun a m => k a (Or.inl m), by rw [k p (Or.inr rfl)]; exact h.2⟩
variable {G : Type}
theorem Sys.Ext.refl {S : Sys G} (H : Hp) : S.Ext H H := fun _ _ h _ => h
theorem Sys.Ext.trans {S : Sys G} {H H1 H2 : Hp} (a : S.Ext H H1) (b : S.Ext H1 H2) : S.Ext H H2 := fun c o h n => b c o (a c o h n) n
theorem Sys.Ext.new {S : Sys G} {H : Hp} {p : Addr} {o : HO} (h : H p = Option.none) : S.Ext H (upd H p o) := fun a u e _ => by
  rw [upd_ne (ne_of_none e h)]
  exact e
theorem Sys.Ext.full {S : Sys G} {H H' : Hp} (h : Same H H') : S.Ext H H' := fun a o e _ => h a o e
theorem same_new {H : Hp} {p : Addr} {o : HO} (h : H p = Option.none) : Same H (upd H p o) := fun a u e => by
  rw [upd_ne (ne_of_none e h)]
  exact e
theorem Sys.new {S : Sys G} {g : G} {H : Hp} {p : Addr} {o : HO} (h : H p = Option.none) (j : S.J g H) : S.J g (upd H p o) := S.grow _ _ _ j (same_new h)
theorem Sys.fresh {S : Sys G} {g : G} {H : Hp} {p : Addr} (h : H p = Option.none) (j : S.J g H) : ¬ S.M p := fun m => S.dom g H p j (S.sub p m) h
theorem Sys.freshW {S : Sys G} {g : G} {H : Hp} {p : Addr} (h : H p = Option.none) (j : S.J g H) : ¬ S.W p := fun m => S.dom g H p j m h

/-- a list, a tuple of the module's own -/
def KL (K : PySem.W.Frag) (a : Addr) (xs : List V) : Prop :=
  ∃ (o : Obj) (its : Array Value) (n : Nat), K.lookup a = some o ∧ o.cls = .type "list" ∧ o.dict = none ∧ o.data = .seq its n ∧ its.size ≤ sizeLine ∧ Vals xs its.toList
def KT (K : PySem.W.Frag) (a : Addr) (xs : List V) : Prop :=
  ∃ (o : Obj) (its : Array Value) (n : Nat), K.lookup a = some o ∧ o.cls = .type "tuple" ∧ o.data = .seq its n ∧ its.size ≤ sizeLine ∧ Vals xs its.toList
/-- a list, a tuple that stays -/
def MqL (K : PySem.W.Frag) (S : Sys G) (H : Hp) (a : Addr) (xs : List V) : Prop := (Rd H a (.lst xs) ∧ ¬ S.M a) ∨ KL K a xs
def MqT (K : PySem.W.Frag) (S : Sys G) (H : Hp) (a : Addr) (xs : List V) : Prop := (Rd H a (.tup xs) ∧ ¬ S.M a) ∨ KT K a xs
theorem MqL.sq {K : PySem.W.Frag} {S : Sys G} {H : Hp} {a : Addr} {xs : List V} (h : MqL K S H a xs) : SqL K H a xs := h.imp (·.1) id
theorem MqT.sq {K : PySem.W.Frag} {S : Sys G} {H : Hp} {a : Addr} {xs : List V} (h : MqT K S H a xs) : SqT K H a xs := h.imp (·.1) id
mutual
inductive Dt {G : Type} (K : PySem.W.Frag) (S : Sys G) (H : Hp) : V → D → Prop
  | non : Dt K S H .non .non
  | bl (b : Bool) : Dt K S H (.bl b) (.bl b)
  | int (i : Int) : Dt K S H (.int i) (.int i)
  | str (x : Str) : Dt K S H (.str x) (.str x)
  | lst {a : Addr} {xs : List V} {ds : List D} : H a = some (.lst xs) → ¬ S.M a → DtL K S H xs ds → Dt K S H (.ref a) (.lst ds)
  | fz {a : Addr} {xs : List V} {ds : List D} : MqL K S H a xs → DtL K S H xs ds → Dt K S H (.ref a) (.fz ds)
  | tup {a : Addr} {xs : List V} {ds : List D} : MqT K S H a xs → DtL K S H xs ds → Dt K S H (.ref a) (.tup ds)
  | dct {a : Addr} {xs : List (Key × V)} {ds : List (Key × D)} : H a = some (.dK xs) → ¬ S.M a → DtK K S H xs ds → Dt K S H (.ref a) (.dct ds)
  | obj {a C dx : Addr} {xs : List (Str × V)} {ds : List (Str × D)} : H a = some (.ins C dx xs) → ¬ S.M a → DtF K S H xs ds → Dt K S H (.ref a) (.obj C ds)
  | ref (a : Addr) : Dt K S H (.ref a) (.ref a)
  | ty (n : String) : Dt K S H (.ty n) (.ty n)
  | err {a C dx : Addr} {xs : List (Str × V)} {ds : List (Str × D)} : H a = some (exo a C (some dx)) → ¬ S.M a → H dx = some (exd dx xs) → ¬ S.M dx → DtF K S H xs ds → Dt K S H (.ref a) (.err C ds)
  | err0 {a C : Addr} : H a = some (exo a C Option.none) → ¬ S.M a → Dt K S H (.ref a) (.err0 C)
  | exn {a dx : Addr} {xs : List (Str × V)} {ds : List (Str × D)} : H dx = some (.xd xs) → ¬ S.M dx → DtF K S H xs ds → Dt K S H (.ref a) (.exn a dx ds)
inductive DtL {G : Type} (K : PySem.W.Frag) (S : Sys G) (H : Hp) : List V → List D → Prop
  | nil : DtL K S H [] []
  | cons {v : V} {vs : List V} {d : D} {ds : List D} : Dt K S H v d → DtL K S H vs ds → DtL K S H (v :: vs) (d :: ds)
inductive DtK {G : Type} (K : PySem.W.Frag) (S : Sys G) (H : Hp) : List (Key × V) → List (Key × D) → Prop
  | nil : DtK K S H [] []
  | cons {k : Key} {v : V} {vs : List (Key × V)} {d : D} {ds : List (Key × D)} : Dt K S H v d → DtK K S H vs ds → DtK K S H ((k, v) :: vs) ((k, d) :: ds)
inductive DtF {G : Type} (K : PySem.W.Frag) (S : Sys G) (H : Hp) : List (Str × V) → List (Str × D) → Prop
  | nil : DtF K S H [] []
  | cons {k : Str} {v : V} {vs : List (Str × V)} {d : D} {ds : List (Str × D)} : Dt K S H v d → DtF K S H vs ds → DtF K S H ((k, v) :: vs) ((k, d) :: ds)
end

section
variable {G' : Type} {K : PySem.W.Frag} {S : Sys G} {S' : Sys G'} {H H' : Hp}
theorem rd_ext {a : Addr} {u : HO} (e : S.Ext H H') (n : ¬ S.M a) (h : Rd H a u) : Rd H' a u := by
  rcases h with h | ⟨o, h⟩
  · exact .inl (e _ _ h n)
  · exact .inr ⟨o, e _ _ h n⟩
theorem rd_there {a : Addr} {u : HO} (h : Rd H a u) : ∃ o, H a = some o := h.elim (fun h => ⟨_, h⟩) fun ⟨o, h⟩ => ⟨_, h⟩
theorem MqL.to {a : Addr} {xs : List V} (e : S.Ext H H') (m : ∀ a, ¬ S.M a → (∃ o, H a = some o) → ¬ S'.M a) (h : MqL K S H a xs) : MqL K S' H' a xs := h.imp (fun ⟨r, n⟩ => ⟨rd_ext e n r, m a n (rd_there r)⟩) id
theorem MqT.to {a : Addr} {xs : List V} (e : S.Ext H H') (m : ∀ a, ¬ S.M a → (∃ o, H a = some o) → ¬ S'.M a) (h : MqT K S H a xs) : MqT K S' H' a xs := h.imp (fun ⟨r, n⟩ => ⟨rd_ext e n r, m a n (rd_there r)⟩) id
theorem MqL.ext {a : Addr} {xs : List V} (e : S.Ext H H') (h : MqL K S H a xs) : MqL K S H' a xs := h.to e fun _ n _ => n
theorem MqT.ext {a : Addr} {xs : List V} (e : S.Ext H H') (h : MqT K S H a xs) : MqT K S H' a xs := h.to e fun _ n _ => n
mutual
/-- another set of what may change, a heap that keeps the rest -/
theorem Dt.to (e : S.Ext H H') (m : ∀ a, ¬ S.M a → (∃ o, H a = some o) → ¬ S'.M a) : ∀ {v : V} {d : D}, Dt K S H v d → Dt K S' H' v d
  | _, _, .non => .non
  | _, _, .bl b => .bl b
  | _, _, .int i => .int i
  | _, _, .str x => .str x
  | _, _, .lst h n r => .lst (e _ _ h n) (m _ n ⟨_, h⟩) (DtL.to e m r)
  | _, _, .fz h r => .fz (h.to e m) (DtL.to e m r)
  | _, _, .tup h r => .tup (h.to e m) (DtL.to e m r)
  | _, _, .dct h n r => .dct (e _ _ h n) (m _ n ⟨_, h⟩) (DtK.to e m r)
  | _, _, .obj h n r => .obj (e _ _ h n) (m _ n ⟨_, h⟩) (DtF.to e m r)
  | _, _, .ref a => .ref a
  | _, _, .ty n => .ty n
  | _, _, .err h n h' n' r => .err (e _ _ h n) (m _ n ⟨_, h⟩) (e _ _ h' n') (m _ n' ⟨_, h'⟩) (DtF.to e m r)
  | _, _, .err0 h n => .err0 (e _ _ h n) (m _ n ⟨_, h⟩)
  | _, _, .exn h n r => .exn (e _ _ h n) (m _ n ⟨_, h⟩) (DtF.to e m r)
theorem DtL.to (e : S.Ext H H') (m : ∀ a, ¬ S.M a → (∃ o, H a = some o) → ¬ S'.M a) : ∀ {v : List V} {d : List D}, DtL K S H v d → DtL K S' H' v d
  | _, _, .nil => .nil
  | _, _, .cons h r => .cons (Dt.to e m h) (DtL.to e m r)
theorem DtK.to (e : S.Ext H H') (m : ∀ a, ¬ S.M a → (∃ o, H a = some o) → ¬ S'.M a) : ∀ {v : List (Key × V)} {d : List (Key × D)}, DtK K S H v d → DtK K S' H' v d
  | _, _, .nil => .nil
  | _, _, .cons h r => .cons (Dt.to e m h) (DtK.to e m r)
theorem DtF.to (e : S.Ext H H') (m : ∀ a, ¬ S.M a → (∃ o, H a = some o) → ¬ S'.M a) : ∀ {v : List (Str × V)} {d : List (Str × D)}, DtF K S H v d → DtF K S' H' v d
  | _, _, .nil => .nil
  | _, _, .cons h r => .cons (Dt.to e m h) (DtF.to e m r)
end
theorem Dt.ext {v : V} {d : D} (e : S.Ext H H') (h : Dt K S H v d) : Dt K S H' v d := h.to e fun _ n _ => n
theorem DtL.ext {v : List V} {d : List D} (e : S.Ext H H') (h : DtL K S H v d) : DtL K S H' v d := h.to e fun _ n _ => n
theorem DtF.ext {v : List (Str × V)} {d : List (Str × D)} (e : S.Ext H H') (h : DtF K S H v d) : DtF K S H' v d := h.to e fun _ n _ => n
theorem DtK.ext {v : List (Key × V)} {d : List (Key × D)} (e : S.Ext H H') (h : DtK K S H v d) : DtK K S H' v d := h.to e fun _ n _ => n
theorem DtL.length : ∀ {v : List V} {d : List D}, DtL K S H v d → v.length = d.length
  | _, _, .nil => rfl
  | _, _, .cons _ r => congrArg (· + 1) (DtL.length r)
theorem DtL.get : ∀ {v : List V} {d : List D} {i : Nat} {x : D}, DtL K S H v d → d[i]? = some x → ∃ u, v[i]? = some u ∧ Dt K S H u x
  | _, _, _, _, .nil, e => by simp at e
  | _, _, 0, _, .cons h _, e => by
    simp at e
    subst e
    exact ⟨_, rfl, h⟩
  | _, _, i + 1, _, .cons _ r, e => by
    obtain ⟨u, h1, h2⟩ := DtL.get (i := i) r (by simpa using e)
    exact ⟨u, by simpa using h1, h2⟩
theorem DtL.get' : ∀ {v : List V} {d : List D} {i : Nat} {x : V}, DtL K S H v d → v[i]? = some x → ∃ u, d[i]? = some u ∧ Dt K S H x u
  | _, _, _, _, .nil, e => by simp at e
  | _, _, 0, _, .cons h _, e => by
    simp at e
    subst e
    exact ⟨_, rfl, h⟩
  | _, _, i + 1, _, .cons _ r, e => by
    obtain ⟨u, h1, h2⟩ := DtL.get' (i := i) r (by simpa using e)
    exact ⟨u, by simpa using h1, h2⟩
theorem DtL.append : ∀ {v w : List V} {d e : List D}, DtL K S H v d → DtL K S H w e → DtL K S H (v ++ w) (d ++ e)
  | _, _, _, _, .nil, r => r
  | _, _, _, _, .cons h r, r' => .cons h (DtL.append r r')
theorem DtL.take : ∀ {v : List V} {d : List D} (n : Nat), DtL K S H v d → DtL K S H (v.take n) (d.take n)
  | _, _, 0, _ => .nil
  | _, _, _ + 1, .nil => .nil
  | _, _, n + 1, .cons h r => .cons h (DtL.take n r)
theorem DtL.drop : ∀ {v : List V} {d : List D} (n : Nat), DtL K S H v d → DtL K S H (v.drop n) (d.drop n)
  | _, _, 0, r => r
  | _, _, _ + 1, .nil => .nil
  | _, _, n + 1, .cons _ r => DtL.drop n r
theorem DtL.ints : ∀ {v : List V} {ns : List Int}, DtL K S H v (ns.map D.int) → v = ns.map V.int
  | _, [], .nil => rfl
  | _, _ :: _, .cons h r => by
    cases h
    rw [DtL.ints r]
    rfl
theorem DtL.of_ints : ∀ (ns : List Int), DtL K S H (ns.map V.int) (ns.map D.int)
  | [] => .nil
  | n :: ns => .cons (.int n) (DtL.of_ints ns)
end

/-- the slots hold what the data say; a slot that is not told may hold anything -/
abbrev En := List (Option D)
def Rep (K : PySem.W.Frag) (S : Sys G) (H : Hp) (σ : L2.St) (ρ : En) : Prop :=
  σ.length = ρ.length ∧ ∀ (i : Nat) (d : D), ρ[i]? = some (some d) → ∃ v, σ[i]? = some (some v) ∧ Dt K S H v d
section
variable {K : PySem.W.Frag} {S : Sys G} {H H' : Hp} {σ : L2.St} {ρ : En}
theorem Rep.ext (e : S.Ext H H') (r : Rep K S H σ ρ) : Rep K S H' σ ρ := ⟨r.1, fun i d h => by
  obtain ⟨v, h1, h2⟩ := r.2 i d h
  exact ⟨v, h1, h2.ext e⟩⟩
theorem Rep.set {i : Nat} {v : V} {d : D} (r : Rep K S H σ ρ) (h : Dt K S H v d) : Rep K S H (σ.set i (some v)) (ρ.set i (some d)) := by
  refine ⟨by simp [r.1], fun j e q => ?_⟩
  by_cases hj : i = j
  · subst hj
    have hi : i < ρ.length := by
      by_cases hi : i < ρ.length
      · exact hi
      · rw [List.getElem?_eq_none (by simpa using hi)] at q
        cases q
    rw [List.getElem?_set_self hi] at q
    cases q
    exact ⟨v, by rw [List.getElem?_set_self (by rw [r.1]; exact hi)], h⟩
  · rw [List.getElem?_set_ne hj] at q
    obtain ⟨u, h1, h2⟩ := r.2 j e q
    exact ⟨u, by rw [List.getElem?_set_ne hj]; exact h1, h2⟩
/-- less is known -/
theorem Rep.forget {ρ' : En} (r : Rep K S H σ ρ) (hl : ρ'.length = ρ.length) (h : ∀ (i : Nat) (d : D), ρ'[i]? = some (some d) → ρ[i]? = some (some d)) : Rep K S H σ ρ' :=
  ⟨r.1.trans hl.symm, fun i d q => r.2 i d (h i d q)⟩
end
/-- a new object beside: it may change -/
theorem plus_m {S : Sys G} {H : Hp} {p : Addr} {u : HO} (hp : H p = Option.none) : ∀ a, ¬ S.M a → (∃ o, H a = some o) → ¬ (S.hold p u).M a := fun a n ⟨o, h⟩ z => z.elim n fun e => by
  rw [e, hp] at h
  cases h
theorem Dt.plus {K : PySem.W.Frag} {S : Sys G} {H : Hp} {p : Addr} {o u : HO} {v : V} {d : D} (hp : H p = Option.none) (h : Dt K S H v d) : Dt K (S.hold p u) (upd H p o) v d := h.to (Sys.Ext.new hp) (plus_m hp)
theorem DtL.plus {K : PySem.W.Frag} {S : Sys G} {H : Hp} {p : Addr} {o u : HO} {v : List V} {d : List D} (hp : H p = Option.none) (h : DtL K S H v d) : DtL K (S.hold p u) (upd H p o) v d := h.to (Sys.Ext.new hp) (plus_m hp)
/-- and back: what may change may change no more -/
theorem Dt.minus {K : PySem.W.Frag} {S : Sys G} {H : Hp} {p : Addr} {u : HO} {v : V} {d : D} (h : Dt K (S.hold p u) H v d) : Dt K S H v d := h.to (Sys.Ext.refl H) fun _ n _ z => n (Or.inl z)
theorem DtL.minus {K : PySem.W.Frag} {S : Sys G} {H : Hp} {p : Addr} {u : HO} {v : List V} {d : List D} (h : DtL K (S.hold p u) H v d) : DtL K S H v d := h.to (Sys.Ext.refl H) fun _ n _ z => n (Or.inl z)
theorem Rep.plus {K : PySem.W.Frag} {S : Sys G} {H : Hp} {p : Addr} {o u : HO} {σ : L2.St} {ρ : En} (hp : H p = Option.none) (r : Rep K S H σ ρ) : Rep K (S.hold p u) (upd H p o) σ ρ := ⟨r.1, fun i d h => by
  obtain ⟨v, h1, h2⟩ := r.2 i d h
  exact ⟨v, h1, h2.plus hp⟩⟩
/-- the object at p turned: data do not lean on it -/
theorem hold_turn {S : Sys G} {H : Hp} {p : Addr} {u o : HO} : (S.hold p u).Ext H (upd H p o) := fun a w h n => by
  rw [upd_ne fun e => n (.inr e)]
  exact h
theorem hold_same {S : Sys G} {H H' : Hp} {p : Addr} {u o : HO} (e : (S.hold p u).Ext H H') : (S.hold p o).Ext H H' := e
theorem Dt.held {K : PySem.W.Frag} {S : Sys G} {H : Hp} {p : Addr} {u o : HO} {v : V} {d : D} (h : Dt K (S.hold p u) H v d) : Dt K (S.hold p o) H v d := Dt.to (S := S.hold p u) (S' := S.hold p o) (Sys.Ext.refl H) (fun _ n _ z => n z) h
theorem DtL.held {K : PySem.W.Frag} {S : Sys G} {H : Hp} {p : Addr} {u o : HO} {v : List V} {d : List D} (h : DtL K (S.hold p u) H v d) : DtL K (S.hold p o) H v d := DtL.to (S := S.hold p u) (S' := S.hold p o) (Sys.Ext.refl H) (fun _ n _ z => n z) h
theorem Rep.held {K : PySem.W.Frag} {S : Sys G} {H : Hp} {p : Addr} {u o : HO} {σ : L2.St} {ρ : En} (r : Rep K (S.hold p u) H σ ρ) : Rep K (S.hold p o) H σ ρ := ⟨r.1, fun i d h => by
  obtain ⟨v, h1, h2⟩ := r.2 i d h
  exact ⟨v, h1, h2.held⟩⟩
theorem hold_J {S : Sys G} {g : G} {H : Hp} {p : Addr} {u o : HO} (n : ¬ S.W p) (j : (S.hold p u).J g H) : (S.hold p o).J g (upd H p o) :=
  ⟨S.loc g H _ j.1 fun a m => upd_ne fun e => n (e ▸ m), upd_same⟩
/-- behind it: the heap, seen without p's special place -/
theorem hold_ext {S : Sys G} {H H' : Hp} {p : Addr} {u o : HO} (hp : H p = Option.none) (e : (S.hold p u).Ext (upd H p o) H') : S.Ext H H' := fun a w h n => by
  have hne : a ≠ p := ne_of_none h hp
  exact e a w (by rw [upd_ne hne]; exact h) fun z => z.elim n hne
/-- the slots of vs forgotten -/
def wipeE (ρ : En) : List Nat → En
  | [] => ρ
  | v :: vs => (wipeE ρ vs).set v none
theorem wipeE_length (ρ : En) : ∀ vs : List Nat, (wipeE ρ vs).length = ρ.length
  | [] => rfl
  | v :: vs => by
    unfold wipeE
    rw [List.length_set, wipeE_length ρ vs]
theorem wipeE_some {ρ : En} {i : Nat} {x : D} : ∀ {vs : List Nat}, (wipeE ρ vs)[i]? = some (some x) → ρ[i]? = some (some x) ∧ i ∉ vs
  | [], h => ⟨h, by simp⟩
  | v :: vs, h => by
    unfold wipeE at h
    by_cases hi : v = i
    · subst hi
      by_cases hv : v < (wipeE ρ vs).length
      · rw [List.getElem?_set_self hv] at h; cases h
      · rw [List.getElem?_eq_none (by simpa using hv)] at h; cases h
    · rw [List.getElem?_set_ne hi] at h
      obtain ⟨h1, h2⟩ := wipeE_some h
      exact ⟨h1, by simp only [List.mem_cons, not_or]; exact ⟨fun e => hi e.symm, h2⟩⟩
theorem wipe_keeps {σ : L2.St} {i : Nat} : ∀ {vs : List Nat}, i ∉ vs → (wipe σ vs)[i]? = σ[i]?
  | [], _ => rfl
  | v :: vs, h => by
    have h1 : v ≠ i := fun e => h (by simp [e])
    have h2 : i ∉ vs := fun e => h (by simp [e])
    unfold wipe
    rw [List.getElem?_set_ne h1]
    exact wipe_keeps h2
theorem wipe_in {σ : L2.St} {i : Nat} : ∀ {vs : List Nat}, i ∈ vs → (wipe σ vs)[i]? = if i < σ.length then some Option.none else Option.none
  | v :: vs, h => by
    unfold wipe
    by_cases hv : v = i
    · subst hv
      rw [List.getElem?_set, if_pos rfl, wipe_length]
    · have h2 : i ∈ vs := by
        rcases List.mem_cons.mp h with e | e
        · exact absurd e.symm hv
        · exact e
      rw [List.getElem?_set_ne hv]
      exact wipe_in h2
theorem wipe_set {σ : L2.St} {i : Nat} {x : Option V} {vs : List Nat} (h : i ∈ vs) : wipe (σ.set i x) vs = wipe σ vs := by
  refine List.ext_getElem? fun k => ?_
  by_cases hk : k ∈ vs
  · rw [wipe_in hk, wipe_in hk, List.length_set]
  · rw [wipe_keeps hk, wipe_keeps hk, List.getElem?_set_ne]
    intro e
    exact hk (e ▸ h)
theorem Rep.wipe {K : PySem.W.Frag} {S : Sys G} {H : Hp} {σ : L2.St} {ρ : En} (r : Rep K S H σ ρ) (vs : List Nat) : Rep K S H (wipe σ vs) (wipeE ρ vs) :=
  ⟨by rw [wipe_length, wipeE_length]; exact r.1, fun i d h => by
    obtain ⟨h1, h2⟩ := wipeE_some h
    obtain ⟨v, h3, h4⟩ := r.2 i d h1
    exact ⟨v, by rw [wipe_keeps h2]; exact h3, h4⟩⟩
end WT
set_option Elab.async false
set_option linter.all false
set_option maxRecDepth 100000
set_option maxHeartbeats 4000000
namespace WT
open PySem L2

/-! ### the judgements -/
abbrev Po (G : Type) := D → G → Prop
abbrev Ps (G : Type) := List D → G → Prop
abbrev Pb (G : Type) := Bool → G → Prop
/-- this value, nothing else changed -/
def Is {G : Type} (g : G) (d : D) : Po G := fun x g' => x = d ∧ g' = g
def Iss {G : Type} (g : G) (ds : List D) : Ps G := fun x g' => x = ds ∧ g' = g
def Isb {G : Type} (g : G) (b : Bool) : Pb G := fun x g' => x = b ∧ g' = g
variable {G : Type}
def tEV (K : PySem.W.Frag) (S : Sys G) (g : G) (ρ : En) (P : Po G) : TE := fun σ H Q =>
  Rep K S H σ ρ ∧ S.J g H ∧ ∀ v H' d g', P d g' → S.Ext H H' → S.J g' H' → Dt K S H' v d → Q v H'
def tET (K : PySem.W.Frag) (S : Sys G) (g : G) (ρ : En) (R : Pb G) : TT := fun σ H Q =>
  Rep K S H σ ρ ∧ S.J g H ∧ ∀ b H' g', R b g' → S.Ext H H' → S.J g' H' → Q b H'
def tEA (K : PySem.W.Frag) (S : Sys G) (g : G) (ρ : En) (P : Ps G) : TA := fun σ H Q =>
  Rep K S H σ ρ ∧ S.J g H ∧ ∀ vs H' ds g', P ds g' → S.Ext H H' → S.J g' H' → DtL K S H' vs ds → Q vs H'
abbrev EV (X : Cx) (S : Sys G) (g : G) (ρ : En) (e : Expr) (P : Po G) : Prop := PE X e (tEV X.K S g ρ P)
abbrev EVd (X : Cx) (S : Sys G) (g : G) (ρ : En) (e : Expr) (d : D) : Prop := EV X S g ρ e (Is g d)
abbrev ET (X : Cx) (S : Sys G) (g : G) (ρ : En) (e : Expr) (R : Pb G) : Prop := PT X e (tET X.K S g ρ R)
abbrev ETd (X : Cx) (S : Sys G) (g : G) (ρ : En) (e : Expr) (b : Bool) : Prop := ET X S g ρ e (Isb g b)
abbrev EW (X : Cx) (S : Sys G) (g : G) (ρ : En) (e : Expr) (R : Pb G) : Prop := PW X e (tET X.K S g ρ R)
abbrev EWd (X : Cx) (S : Sys G) (g : G) (ρ : En) (e : Expr) (b : Bool) : Prop := EW X S g ρ e (Isb g b)
abbrev EA (X : Cx) (S : Sys G) (g : G) (ρ : En) (es : List Expr) (P : Ps G) : Prop := PA X es (tEA X.K S g ρ P)
abbrev EAd (X : Cx) (S : Sys G) (g : G) (ρ : En) (es : List Expr) (ds : List D) : Prop := EA X S g ρ es (Iss g ds)

section
variable {X : Cx} {S : Sys G} {g : G} {ρ : En} {e a b c : Expr} {es : List Expr} {pos : Pos} {P P1 P2 : Po G} {d d1 d2 : D}
theorem PE.of {t t' : TE} (h : PE X e t) (w : ∀ σ H Q, t' σ H Q → t σ H Q) : PE X e t' := ⟨fun pins s σ H Q I q => h.run pins s σ H Q I (w σ H Q q)⟩
theorem PT.of {t t' : TT} (h : PT X e t) (w : ∀ σ H Q, t' σ H Q → t σ H Q) : PT X e t' := ⟨fun pins s σ H Q I q => h.run pins s σ H Q I (w σ H Q q)⟩
theorem PW.of {t t' : TT} (h : PW X e t) (w : ∀ σ H Q, t' σ H Q → t σ H Q) : PW X e t' := ⟨fun wh pins s σ H Q I q => h.run wh pins s σ H Q I (w σ H Q q)⟩
theorem PA.of {t t' : TA} (h : PA X es t) (w : ∀ σ H Q, t' σ H Q → t σ H Q) : PA X es t' := ⟨fun po pins s σ H Q I q => h.run po pins s σ H Q I (w σ H Q q)⟩
/-- one of many -/
theorem PE.any {ι : Type} {p : ι → Prop} {t : ι → TE} (h : ∀ i, p i → PE X e (t i)) : PE X e (fun σ H Q => ∃ i, p i ∧ t i σ H Q) := ⟨fun pins s σ H Q I ⟨i, hi, q⟩ => (h i hi).run pins s σ H Q I q⟩
theorem PW.any {ι : Type} {p : ι → Prop} {t : ι → TT} (h : ∀ i, p i → PW X e (t i)) : PW X e (fun σ H Q => ∃ i, p i ∧ t i σ H Q) := ⟨fun wh pins s σ H Q I ⟨i, hi, q⟩ => (h i hi).run wh pins s σ H Q I q⟩
theorem PA.any {ι : Type} {p : ι → Prop} {t : ι → TA} (h : ∀ i, p i → PA X es (t i)) : PA X es (fun σ H Q => ∃ i, p i ∧ t i σ H Q) := ⟨fun po pins s σ H Q I ⟨i, hi, q⟩ => (h i hi).run po pins s σ H Q I q⟩

theorem ev_imp (h : EV X S g ρ e P) (w : ∀ d g', P d g' → P1 d g') : EV X S g ρ e P1 := PE.of h fun _ _ _ ⟨r, j, q⟩ => ⟨r, j, fun v H' d g' p => q v H' d g' (w d g' p)⟩
theorem ev_is (h : EVd X S g ρ e d) (w : P d g) : EV X S g ρ e P := ev_imp h fun _ _ z => z.1 ▸ z.2 ▸ w
theorem ev_eq (h : EVd X S g ρ e d) (w : d = d1) : EVd X S g ρ e d1 := w ▸ h
theorem et_imp {R R' : Pb G} (h : ET X S g ρ e R) (w : ∀ b g', R b g' → R' b g') : ET X S g ρ e R' := PT.of h fun _ _ _ ⟨r, j, q⟩ => ⟨r, j, fun v H' g' p => q v H' g' (w v g' p)⟩
theorem et_eq {k k' : Bool} (h : ETd X S g ρ e k) (w : k = k') : ETd X S g ρ e k' := w ▸ h
theorem ea_imp {P' Q' : Ps G} (h : EA X S g ρ es Q') (w : ∀ ds g', Q' ds g' → P' ds g') : EA X S g ρ es P' := PA.of h fun _ _ _ ⟨r, j, q⟩ => ⟨r, j, fun v H' d g' p => q v H' d g' (w d g' p)⟩
/-- more is known of the slots than is asked -/
theorem ev_weak {ρ' : En} (h : EV X S g ρ e P) (hl : ρ.length = ρ'.length) (w : ∀ (i : Nat) (d : D), ρ[i]? = some (some d) → ρ'[i]? = some (some d)) : EV X S g ρ' e P :=
  PE.of h fun _ _ _ ⟨r, j, q⟩ => ⟨r.forget hl w, j, q⟩

/-! names, constants -/
theorem ev_var (i : Nat) {x : Str} (h : ρ[i]? = some (some d)) (hN : X.N[i]? = some x := by rfl) (hv : Vis X.env.scope x := by first | exact Or.inl rfl | exact Or.inr (Or.inl rfl) | exact Or.inr (Or.inr rfl))
    (hd : (x == ("__debug__" : Str)) = false := by decide) (hcd : (x == ("__classdict__" : Str)) = false := by decide) : EVd X S g ρ (.Name x pos) d :=
  PE.of (pe_var hN hv hd hcd) fun σ H Q ⟨r, j, q⟩ => by
    obtain ⟨v, h1, h2⟩ := r.2 i d h
    exact ⟨v, h1, q v H d g ⟨rfl, rfl⟩ (Sys.Ext.refl H) j h2⟩
theorem ev_int {i : Int} {k : Nat} : EVd X S g ρ (.Constant (.int i) k pos) (.int i) := PE.of pe_int fun _ H _ ⟨_, j, q⟩ => q _ H _ g ⟨rfl, rfl⟩ (Sys.Ext.refl H) j (.int i)
theorem ev_str {x : Str} {k : Nat} : EVd X S g ρ (.Constant (.str x) k pos) (.str x) := PE.of pe_str fun _ H _ ⟨_, j, q⟩ => q _ H _ g ⟨rfl, rfl⟩ (Sys.Ext.refl H) j (.str x)
theorem ev_bl {x : Bool} {k : Nat} : EVd X S g ρ (.Constant (.bool x) k pos) (.bl x) := PE.of pe_bl fun _ H _ ⟨_, j, q⟩ => q _ H _ g ⟨rfl, rfl⟩ (Sys.Ext.refl H) j (.bl x)
theorem ev_non {k : Nat} : EVd X S g ρ (.Constant .none k pos) .non := PE.of pe_non fun _ H _ ⟨_, j, q⟩ => q _ H _ g ⟨rfl, rfl⟩ (Sys.Ext.refl H) j .non
/-- a module's own name -/
theorem ev_glob {x : Str} {v : V} {u : Value} (hm : X.mg x = some u) (r : RelV v u) (hD : ∀ H, Dt X.K S H v d) (hg : Gl X x := by rfl) (hd : (x == ("__debug__" : Str)) = false := by decide) : EVd X S g ρ (.Name x pos) d :=
  PE.of (pe_glob hg hm r hd) fun _ H _ ⟨_, j, q⟩ => q _ H _ g ⟨rfl, rfl⟩ (Sys.Ext.refl H) j (hD H)
theorem ev_bltn {x : Str} {v : V} {u : Value} (hm : X.mg x = none) (hv : bootBuiltins x = some u) (r : RelV v u) (hD : ∀ H, Dt X.K S H v d) (hg : Gl X x := by rfl) (hn : x ≠ "__name__" := by decide) (hd : (x == ("__debug__" : Str)) = false := by decide) : EVd X S g ρ (.Name x pos) d :=
  PE.of (pe_bltn hg hm hv r hn hd) fun _ H _ ⟨_, j, q⟩ => q _ H _ g ⟨rfl, rfl⟩ (Sys.Ext.refl H) j (hD H)

/-! operations on data -/
def Good (K : PySem.W.Frag) (S : Sys G) (H : Hp) (P : Po G) : VK := fun z H' => ∃ d g', P d g' ∧ S.Ext H H' ∧ S.J g' H' ∧ Dt K S H' z d
/-- f of two data gives a datum of P -/
def OpD (X : Cx) (S : Sys G) (g : G) (f : Value → Value → Sem Value) (d1 d2 : D) (P : Po G) : Prop :=
  ∀ (pins : List (Addr × Obj)) (s : Shared) (σ : L2.St) (H : Hp) (x y : V) (v u : Value), Inv X pins σ H s → RelV x v → RelV y u → S.J g H → Dt X.K S H x d1 → Dt X.K S H y d2 →
    wpAny (model X.prog X.w) X.A (f v u) (EP X pins σ (Good X.K S H P)) X.xe s
def CallD (X : Cx) (S : Sys G) (g : G) (f : Value) (ds : List D) (P : Po G) : Prop :=
  ∀ (pins : List (Addr × Obj)) (s : Shared) (σ : L2.St) (H : Hp) (xs : List V) (us : List Value), Inv X pins σ H s → Vals xs us → S.J g H → DtL X.K S H xs ds →
    wpAny (model X.prog X.w) X.A (call f us) (EP X pins σ (Good X.K S H P)) X.xe s
theorem OpD.of {f : Value → Value → Sem Value} {r : R2} (h : OpR X f r) (w : ∀ x y H, S.J g H → Dt X.K S H x d1 → Dt X.K S H y d2 → r x y H (Good X.K S H P)) : OpD X S g f d1 d2 P :=
  fun pins s σ H x y v u I rx ry j h1 h2 => h pins s σ H x y v u _ I rx ry (w x y H j h1 h2)
theorem OpD.imp {f : Value → Value → Sem Value} (h : OpD X S g f d1 d2 P) (w : ∀ d g', P d g' → P1 d g') : OpD X S g f d1 d2 P1 := fun pins s σ H x y v u I rx ry j h1 h2 =>
  thn (h pins s σ H x y v u I rx ry j h1 h2) fun _ _ ⟨z, H', I', r', d, g', p, q⟩ => ⟨z, H', I', r', d, g', w d g' p, q⟩
theorem CallD.of {f : Value} {r : List V → Hp → VK → Prop} {ds : List D} (h : CallR X f r) (w : ∀ xs H, S.J g H → DtL X.K S H xs ds → r xs H (Good X.K S H P)) : CallD X S g f ds P :=
  fun pins s σ H xs us I rx j h1 => h pins s σ H xs us _ I rx (w xs H j h1)
theorem CallD.imp {f : Value} {ds : List D} (h : CallD X S g f ds P) (w : ∀ d g', P d g' → P1 d g') : CallD X S g f ds P1 := fun pins s σ H xs us I rx j h1 =>
  thn (h pins s σ H xs us I rx j h1) fun _ _ ⟨z, H', I', r', d, g', p, q⟩ => ⟨z, H', I', r', d, g', w d g' p, q⟩
/-- the value d itself, nothing changed -/
theorem good_same {K : PySem.W.Frag} {H : Hp} {v : V} (j : S.J g H) (h : Dt K S H v d) (p : P d g) : Good K S H P v H := ⟨d, g, p, Sys.Ext.refl H, j, h⟩
theorem dt_newL {K : PySem.W.Frag} {H : Hp} {p : Addr} {xs : List V} {ds : List D} (j : S.J g H) (hp : H p = none) (h : DtL K S H xs ds) : Dt K S (upd H p (.lst xs)) (.ref p) (.lst ds) :=
  .lst upd_same (Sys.fresh hp j) (h.ext (Sys.Ext.new hp))
theorem dt_newT {K : PySem.W.Frag} {H : Hp} {p : Addr} {xs : List V} {ds : List D} (j : S.J g H) (hp : H p = none) (h : DtL K S H xs ds) : Dt K S (upd H p (.tup xs)) (.ref p) (.tup ds) :=
  .tup (.inl ⟨.inl upd_same, Sys.fresh hp j⟩) (h.ext (Sys.Ext.new hp))
theorem good_newL {K : PySem.W.Frag} {H : Hp} {p : Addr} {xs : List V} {ds : List D} (j : S.J g H) (hp : H p = none) (h : DtL K S H xs ds) (hP : P (.lst ds) g) : Good K S H P (.ref p) (upd H p (.lst xs)) :=
  ⟨_, g, hP, Sys.Ext.new hp, Sys.new hp j, dt_newL j hp h⟩
theorem good_newT {K : PySem.W.Frag} {H : Hp} {p : Addr} {xs : List V} {ds : List D} (j : S.J g H) (hp : H p = none) (h : DtL K S H xs ds) (hP : P (.tup ds) g) : Good K S H P (.ref p) (upd H p (.tup xs)) :=
  ⟨_, g, hP, Sys.Ext.new hp, Sys.new hp j, dt_newT j hp h⟩

/-- an operation's reading: the data of p -/
def rOp (K : PySem.W.Frag) (S : Sys G) (p : D → D → G → Prop) (P : Po G) : R2 := fun x y H Q => ∃ d1 d2 g, p d1 d2 g ∧ S.J g H ∧ Dt K S H x d1 ∧ Dt K S H y d2 ∧ ∀ v H' d g', P d g' → S.Ext H H' → S.J g' H' → Dt K S H' v d → Q v H'
theorem opR_of {f : Value → Value → Sem Value} {p : D → D → G → Prop} (h : ∀ d1 d2 g, p d1 d2 g → OpD X S g f d1 d2 P) : OpR X f (rOp X.K S p P) := fun pins s σ H x y v u Q I rx ry ⟨d1, d2, g, hp, j, h1, h2, q⟩ =>
  thn (h d1 d2 g hp pins s σ H x y v u I rx ry j h1 h2) fun _ _ ⟨z, H', I', r', d, g', p, e', j', t'⟩ => ⟨z, H', I', r', q z H' d g' p e' j' t'⟩
/-- the second expression, behind the first one -/
def tB2 (K : PySem.W.Frag) (S : Sys G) (ρ : En) (P1 : Po G) (P2 : D → Po G) : TE := fun σ H Q => ∃ i : D × G, P1 i.1 i.2 ∧ tEV K S i.2 ρ (P2 i.1) σ H Q
theorem pe_b2 {P2 : D → Po G} (hb : ∀ d1 g1, P1 d1 g1 → EV X S g1 ρ b (P2 d1)) : PE X b (tB2 X.K S ρ P1 P2) := PE.any fun i hi => hb i.1 i.2 hi
theorem tOp_of {P2 : D → Po G} {σ : L2.St} {H : Hp} {Q : VK} (r : Rep X.K S H σ ρ) (j : S.J g H) (q : ∀ v H' d g', P d g' → S.Ext H H' → S.J g' H' → Dt X.K S H' v d → Q v H') : tOp (rOp X.K S (fun d1 d2 g2 => P2 d1 d2 g2) P) (tEV X.K S g ρ P1) (tB2 X.K S ρ P1 P2) σ H Q :=
  ⟨r, j, fun x H1 d1 g1 p1 e1 j1 t1 => ⟨(d1, g1), p1, r.ext e1, j1, fun y H2 d2 g2 p2 e2 j2 t2 => ⟨d1, d2, g2, p2, j2, t1.ext e2, t2, fun v H' d g' p e3 j3 t3 => q v H' d g' p ((e1.trans e2).trans e3) j3 t3⟩⟩⟩
theorem ev_bin {op : Operator} {P2 : D → Po G} (ha : EV X S g ρ a P1) (hb : ∀ d1 g1, P1 d1 g1 → EV X S g1 ρ b (P2 d1)) (h : ∀ d1 d2 g2, P2 d1 d2 g2 → OpD X S g2 (binaryOp op) d1 d2 P) : EV X S g ρ (.BinOp a op b pos) P :=
  PE.of (pe_op (opR_of h) ha (pe_b2 hb)) fun _ _ _ ⟨r, j, q⟩ => tOp_of r j q
theorem ev_op {op : Operator} (ha : EVd X S g ρ a d1) (hb : EVd X S g ρ b d2) (h : OpD X S g (binaryOp op) d1 d2 P) : EV X S g ρ (.BinOp a op b pos) P :=
  ev_bin (P2 := fun x y g2 => x = d1 ∧ y = d2 ∧ g2 = g) ha (fun x g1 p => by obtain ⟨p1, rfl⟩ := p; exact ev_imp hb fun y g2 q => ⟨p1, q⟩) fun x y g2 ⟨h1, h2, h3⟩ => h1 ▸ h2 ▸ h3 ▸ h
theorem ev_cmp2 {op : CmpOp} {P2 : D → Po G} (ha : EV X S g ρ a P1) (hb : ∀ d1 g1, P1 d1 g1 → EV X S g1 ρ b (P2 d1)) (h : ∀ d1 d2 g2, P2 d1 d2 g2 → OpD X S g2 (compareOp op) d1 d2 P) (hm : behindInMarks op b = false := by first | exact nomark _ | rfl) : EV X S g ρ (.Compare a [op] [b] pos) P :=
  PE.of (pe_cmpR (opR_of h) ha (pe_b2 hb) hm) fun _ _ _ ⟨r, j, q⟩ => tOp_of r j q
theorem ev_cmp {op : CmpOp} (ha : EVd X S g ρ a d1) (hb : EVd X S g ρ b d2) (h : OpD X S g (compareOp op) d1 d2 P) (hm : behindInMarks op b = false := by first | exact nomark _ | rfl) : EV X S g ρ (.Compare a [op] [b] pos) P :=
  ev_cmp2 (P2 := fun x y g2 => x = d1 ∧ y = d2 ∧ g2 = g) ha (fun x g1 p => by obtain ⟨p1, rfl⟩ := p; exact ev_imp hb fun y g2 q => ⟨p1, q⟩) (fun x y g2 ⟨h1, h2, h3⟩ => h1 ▸ h2 ▸ h3 ▸ h) hm
/-- a comparison as a test -/
def Bl (R : Pb G) : Po G := fun z g' => ∃ k, z = .bl k ∧ R k g'
theorem et_cmp2 {op : CmpOp} {R : Pb G} {P2 : D → Po G} (ha : EV X S g ρ a P1) (hb : ∀ d1 g1, P1 d1 g1 → EV X S g1 ρ b (P2 d1)) (h : ∀ d1 d2 g2, P2 d1 d2 g2 → OpD X S g2 (compareOp op) d1 d2 (Bl R)) (hm : behindInMarks op b = false := by first | exact nomark _ | rfl) : ET X S g ρ (.Compare a [op] [b] pos) R :=
  PT.of (pt_cmpR (opR_of h) ha (pe_b2 hb) hm) fun _ _ _ ⟨r, j, q⟩ => tOp_of r j fun v H' d g' ⟨k, hk, hR⟩ e' j' t' => by
    subst hk
    cases t'
    exact ⟨k, rfl, q k H' g' hR e' j'⟩
theorem et_cmp {op : CmpOp} {k : Bool} (ha : EVd X S g ρ a d1) (hb : EVd X S g ρ b d2) (h : OpD X S g (compareOp op) d1 d2 (Is g (.bl k))) (hm : behindInMarks op b = false := by first | exact nomark _ | rfl) : ETd X S g ρ (.Compare a [op] [b] pos) k :=
  et_cmp2 (P2 := fun x y g2 => x = d1 ∧ y = d2 ∧ g2 = g) ha (fun x g1 p => by obtain ⟨p1, rfl⟩ := p; exact ev_imp hb fun y g2 q => ⟨p1, q⟩) (fun x y g2 ⟨h1, h2, h3⟩ => by
    subst h1 h2 h3
    exact h.imp fun z g' hz => ⟨k, hz.1, rfl, hz.2⟩) hm
/-- a bool as a test -/
theorem et_val {R : Pb G} (h : EV X S g ρ e (Bl R)) (he : ∀ whole, isTrue e X.env whole = (do let v ← whole; standAt e.pos; holding [v] (truthy v)) := by intro _; rfl) : ET X S g ρ e R :=
  PT.of (pt_val h he) fun σ H Q ⟨r, j, q⟩ => ⟨r, j, fun v H' d g' ⟨k, hk, hR⟩ e' j' t' => by
    subst hk
    cases t'
    exact ⟨k, rfl, q k H' g' hR e' j'⟩⟩
theorem et_vald {k : Bool} (h : EVd X S g ρ e (.bl k)) (he : ∀ whole, isTrue e X.env whole = (do let v ← whole; standAt e.pos; holding [v] (truthy v)) := by intro _; rfl) : ETd X S g ρ e k :=
  et_val (ev_imp h fun d g' hd => ⟨k, hd.1, rfl, hd.2⟩) he
/-! and, or, not -/
theorem et_not {R : Pb G} (h : ET X S g ρ a R) : ET X S g ρ (.UnaryOp .Not a pos) (fun k g' => R (!k) g') :=
  PT.of (pt_not h) fun σ H Q ⟨r, j, q⟩ => ⟨r, j, fun b H' g' hR e' j' => q (!b) H' g' (by show R (!!b) g'; rw [Bool.not_not]; exact hR) e' j'⟩
theorem et_notd {k : Bool} (h : ETd X S g ρ a k) : ETd X S g ρ (.UnaryOp .Not a pos) (!k) :=
  et_imp (et_not h) fun b g' hb => ⟨by rw [← hb.1, Bool.not_not], hb.2⟩
theorem ew_and1 {R : Pb G} (h : ET X S g ρ a R) : EW X S g ρ (.BoolOp .And [a] pos) R := pw_and1 h
theorem ew_or1 {R : Pb G} (h : ET X S g ρ a R) : EW X S g ρ (.BoolOp .Or [a] pos) R := pw_or1 h
theorem ew_and {R1 R : Pb G} {rest : List Expr} (ha : ET X S g ρ a R1) (hb : ∀ g1, R1 true g1 → EW X S g1 ρ (.BoolOp .And (b :: rest) pos) R) (h1 : ∀ g1, R1 false g1 → R false g1) : EW X S g ρ (.BoolOp .And (a :: b :: rest) pos) R :=
  PW.of (pw_and ha (PW.any (p := fun g1 : G => R1 true g1) hb)) fun σ H Q ⟨r, j, q⟩ => ⟨r, j, fun k H' g1 hR e' j' => by
      cases k with
      | true => exact iteT ⟨g1, hR, r.ext e', j', fun k2 H2 g2 hR2 e2 j2 => q k2 H2 g2 hR2 (e'.trans e2) j2⟩
      | false => exact iteF (q false H' g1 (h1 g1 hR) e' j')⟩
theorem ew_or {R1 R : Pb G} {rest : List Expr} (ha : ET X S g ρ a R1) (hb : ∀ g1, R1 false g1 → EW X S g1 ρ (.BoolOp .Or (b :: rest) pos) R) (h1 : ∀ g1, R1 true g1 → R true g1) : EW X S g ρ (.BoolOp .Or (a :: b :: rest) pos) R :=
  PW.of (pw_or ha (PW.any (p := fun g1 : G => R1 false g1) hb)) fun σ H Q ⟨r, j, q⟩ => ⟨r, j, fun k H' g1 hR e' j' => by
      cases k with
      | false => exact iteF ⟨g1, hR, r.ext e', j', fun k2 H2 g2 hR2 e2 j2 => q k2 H2 g2 hR2 (e'.trans e2) j2⟩
      | true => exact iteT (q true H' g1 (h1 g1 hR) e' j')⟩
/-- the usual case: answers that are known -/
theorem ew_andd {k1 k2 : Bool} {rest : List Expr} (ha : ETd X S g ρ a k1) (hb : k1 = true → EWd X S g ρ (.BoolOp .And (b :: rest) pos) k2) : EWd X S g ρ (.BoolOp .And (a :: b :: rest) pos) (k1 && k2) :=
  ew_and ha (fun g1 h => by
    obtain ⟨h, rfl⟩ := h
    subst h
    exact hb rfl) fun g1 h => ⟨by rw [← h.1]; rfl, h.2⟩
theorem ew_ord {k1 k2 : Bool} {rest : List Expr} (ha : ETd X S g ρ a k1) (hb : k1 = false → EWd X S g ρ (.BoolOp .Or (b :: rest) pos) k2) : EWd X S g ρ (.BoolOp .Or (a :: b :: rest) pos) (k1 || k2) :=
  ew_or ha (fun g1 h => by
    obtain ⟨h, rfl⟩ := h
    subst h
    exact hb rfl) fun g1 h => ⟨by rw [← h.1]; rfl, h.2⟩
theorem et_bool {R : Pb G} (h : EW X S g ρ e R) : ET X S g ρ e R := PW.pt h
/-- as values -/
theorem ev_not {k : Bool} (h : EVd X S g ρ a (.bl k)) : EVd X S g ρ (.UnaryOp .Not a pos) (.bl (!k)) := PE.of (pe_not h) fun σ H Q ⟨r, j, q⟩ => ⟨r, j, fun v H' d g' hd e' j' t' => by
  obtain ⟨hd, rfl⟩ := hd
  subst hd
  cases t'
  exact ⟨k, rfl, q _ H' _ _ ⟨rfl, rfl⟩ e' j' (.bl _)⟩⟩
theorem ev_one {op} (h : EV X S g ρ a P) : EV X S g ρ (.BoolOp op [a] pos) P := pe_one h
theorem ev_and {R1 : Pb G} {rest : List Expr} (ha : EV X S g ρ a (Bl R1)) (hb : ∀ g1, R1 true g1 → EV X S g1 ρ (.BoolOp .And (b :: rest) pos) P) (h0 : ∀ g1, R1 false g1 → P (.bl false) g1) : EV X S g ρ (.BoolOp .And (a :: b :: rest) pos) P :=
  PE.of (pe_and ha (PE.any (p := fun g1 : G => R1 true g1) hb)) fun σ H Q ⟨r, j, q⟩ => ⟨r, j, fun v H' d g1 hd e' j' t' => by
    obtain ⟨k, hk, hR⟩ := hd
    subst hk
    cases t'
    cases k with
    | true => exact ⟨true, rfl, iteT ⟨g1, hR, r.ext e', j', fun v2 H2 d2 g2 p2 e2 j2 t2 => q v2 H2 d2 g2 p2 (e'.trans e2) j2 t2⟩⟩
    | false => exact ⟨false, rfl, iteF (q _ H' _ g1 (h0 g1 hR) e' j' (.bl _))⟩⟩
theorem ev_or {R1 : Pb G} {rest : List Expr} (ha : EV X S g ρ a (Bl R1)) (hb : ∀ g1, R1 false g1 → EV X S g1 ρ (.BoolOp .Or (b :: rest) pos) P) (h0 : ∀ g1, R1 true g1 → P (.bl true) g1) : EV X S g ρ (.BoolOp .Or (a :: b :: rest) pos) P :=
  PE.of (pe_or ha (PE.any (p := fun g1 : G => R1 false g1) hb)) fun σ H Q ⟨r, j, q⟩ => ⟨r, j, fun v H' d g1 hd e' j' t' => by
    obtain ⟨k, hk, hR⟩ := hd
    subst hk
    cases t'
    cases k with
    | false => exact ⟨false, rfl, iteF ⟨g1, hR, r.ext e', j', fun v2 H2 d2 g2 p2 e2 j2 t2 => q v2 H2 d2 g2 p2 (e'.trans e2) j2 t2⟩⟩
    | true => exact ⟨true, rfl, iteT (q _ H' _ g1 (h0 g1 hR) e' j' (.bl _))⟩⟩
theorem bl_isd {k : Bool} (h : EVd X S g ρ a (.bl k)) : EV X S g ρ a (Bl (Isb g k)) := ev_imp h fun d g' hd => ⟨k, hd.1, rfl, hd.2⟩
theorem ev_andd {k1 k2 : Bool} {rest : List Expr} (ha : EVd X S g ρ a (.bl k1)) (hb : k1 = true → EVd X S g ρ (.BoolOp .And (b :: rest) pos) (.bl k2)) : EVd X S g ρ (.BoolOp .And (a :: b :: rest) pos) (.bl (k1 && k2)) :=
  ev_and (bl_isd ha) (fun g1 h => by
    obtain ⟨h, rfl⟩ := h
    subst h
    exact hb rfl) fun g1 h => ⟨by rw [← h.1]; rfl, h.2⟩
theorem ev_ord {k1 k2 : Bool} {rest : List Expr} (ha : EVd X S g ρ a (.bl k1)) (hb : k1 = false → EVd X S g ρ (.BoolOp .Or (b :: rest) pos) (.bl k2)) : EVd X S g ρ (.BoolOp .Or (a :: b :: rest) pos) (.bl (k1 || k2)) :=
  ev_or (bl_isd ha) (fun g1 h => by
    obtain ⟨h, rfl⟩ := h
    subst h
    exact hb rfl) fun g1 h => ⟨by rw [← h.1]; rfl, h.2⟩
theorem ev_ifexp {R : Pb G} (hc : ET X S g ρ c R) (ha : ∀ g1, R true g1 → EV X S g1 ρ a P) (hb : ∀ g1, R false g1 → EV X S g1 ρ b P) : EV X S g ρ (.IfExp c a b pos) P :=
  PE.of (pe_ifExp hc (PE.any (p := fun g1 : G => R true g1) ha) (PE.any (p := fun g1 : G => R false g1) hb)) fun σ H Q ⟨r, j, q⟩ => ⟨r, j, fun k H' g1 hR e' j' => by
    cases k with
    | true => exact iteT ⟨g1, hR, r.ext e', j', fun v2 H2 d2 g2 p2 e2 j2 t2 => q v2 H2 d2 g2 p2 (e'.trans e2) j2 t2⟩
    | false => exact iteF ⟨g1, hR, r.ext e', j', fun v2 H2 d2 g2 p2 e2 j2 t2 => q v2 H2 d2 g2 p2 (e'.trans e2) j2 t2⟩⟩
theorem ev_ifd {k : Bool} {d1 d2 : D} (hc : ETd X S g ρ c k) (ha : k = true → EVd X S g ρ a d1) (hb : k = false → EVd X S g ρ b d2) : EVd X S g ρ (.IfExp c a b pos) (if k then d1 else d2) :=
  ev_ifexp hc (fun g1 h => by
    obtain ⟨h, rfl⟩ := h
    subst h
    exact ha rfl) fun g1 h => by
    obtain ⟨h, rfl⟩ := h
    subst h
    exact hb rfl
/-! arguments -/
theorem ea_nil : EAd X S g ρ [] [] := PA.of pa_nil fun σ H Q ⟨r, j, q⟩ => q [] H [] g ⟨rfl, rfl⟩ (Sys.Ext.refl H) j .nil
theorem ea_cons2 {Qs : D → Ps G} {P' : Ps G} (ha : EV X S g ρ e P1) (hr : ∀ d g1, P1 d g1 → EA X S g1 ρ es (Qs d)) (w : ∀ d ds g', Qs d ds g' → P' (d :: ds) g') (hs : starEach (e :: es) X.env = (false, eval e X.env) :: starEach es X.env := by rfl) : EA X S g ρ (e :: es) P' :=
  PA.of (pa_cons ha (PA.any (p := fun i : D × G => P1 i.1 i.2) fun i hi => hr i.1 i.2 hi) hs) fun σ H Q ⟨r, j, q⟩ => ⟨r, j, fun v H1 d g1 p1 e1 j1 t1 => ⟨(d, g1), p1, r.ext e1, j1, fun vs H2 ds g2 p2 e2 j2 t2 => q (v :: vs) H2 (d :: ds) g2 (w d ds g2 p2) (e1.trans e2) j2 (.cons (t1.ext e2) t2)⟩⟩
theorem ea_cons {ds : List D} (ha : EVd X S g ρ e d) (hr : EAd X S g ρ es ds) (hs : starEach (e :: es) X.env = (false, eval e X.env) :: starEach es X.env := by rfl) : EAd X S g ρ (e :: es) (d :: ds) :=
  ea_cons2 (Qs := fun x xs g' => x = d ∧ xs = ds ∧ g' = g) ha (fun x g1 p => by obtain ⟨p1, rfl⟩ := p; exact ea_imp hr fun y g2 q => ⟨p1, q⟩) (fun x xs g' ⟨h1, h2, h3⟩ => ⟨by rw [h1, h2], h3⟩) hs
/-- displays -/
theorem ev_tup2 {Q' : Ps G} {x1} (h : EA X S g ρ es Q') (w : ∀ ds g', Q' ds g' → ds.length ≤ sizeLine ∧ P (.tup ds) g') : EV X S g ρ (.Tuple es x1 pos) P :=
  PE.of (pe_tup h) fun σ H Q ⟨r, j, q⟩ => ⟨r, j, fun vs H1 ds g1 p e1 j1 t1 => ⟨by rw [t1.length]; exact (w ds g1 p).1, fun a ha => q _ _ _ g1 (w ds g1 p).2 (e1.trans (Sys.Ext.new ha)) (Sys.new ha j1) (dt_newT j1 ha t1)⟩⟩
theorem ev_lst2 {Q' : Ps G} (h : EA X S g ρ es Q') (w : ∀ ds g', Q' ds g' → ds.length ≤ sizeLine ∧ P (.lst ds) g') : EV X S g ρ (.List es pos) P :=
  PE.of (pe_lst h) fun σ H Q ⟨r, j, q⟩ => ⟨r, j, fun vs H1 ds g1 p e1 j1 t1 => ⟨by rw [t1.length]; exact (w ds g1 p).1, fun a ha => q _ _ _ g1 (w ds g1 p).2 (e1.trans (Sys.Ext.new ha)) (Sys.new ha j1) (dt_newL j1 ha t1)⟩⟩
theorem ev_tup {ds : List D} {x1} (h : EAd X S g ρ es ds) (hl : ds.length ≤ sizeLine := by decide) : EVd X S g ρ (.Tuple es x1 pos) (.tup ds) := ev_tup2 h fun _ _ e => by rw [e.1]; exact ⟨hl, rfl, e.2⟩
theorem ev_lst {ds : List D} (h : EAd X S g ρ es ds) (hl : ds.length ≤ sizeLine := by decide) : EVd X S g ρ (.List es pos) (.lst ds) := ev_lst2 h fun _ _ e => by rw [e.1]; exact ⟨hl, rfl, e.2⟩
/-! calls of built-ins -/
def rCallD (K : PySem.W.Frag) (S : Sys G) (Q' : Ps G) (P : Po G) : List V → Hp → VK → Prop := fun xs H Q => ∃ ds g, Q' ds g ∧ S.J g H ∧ DtL K S H xs ds ∧ ∀ v H' d g', P d g' → S.Ext H H' → S.J g' H' → Dt K S H' v d → Q v H'
theorem callR_of {f : Value} {Q' : Ps G} (h : ∀ ds g, Q' ds g → CallD X S g f ds P) : CallR X f (rCallD X.K S Q' P) := fun pins s σ H xs us Q I r ⟨ds, g, p, j, t, q⟩ =>
  thn (h ds g p pins s σ H xs us I r j t) fun _ _ ⟨z, H', I', r', d, g', p, e', j', t'⟩ => ⟨z, H', I', r', q z H' d g' p e' j' t'⟩
theorem ev_callB2 {x : Str} {id : String} {p : Pos} {Q' : Ps G} (ha : EA X S g ρ (e :: es) Q') (h : ∀ ds g, Q' ds g → CallD X S g (.builtin id) ds P) (hm : X.mg x = none) (hv : bootBuiltins x = some (.builtin id)) (hg : Gl X x := by rfl) (hn : x ≠ "__name__" := by decide) (hdb : (x == ("__debug__" : Str)) = false := by decide)
    (he : starEach (e :: es) X.env = (false, eval e X.env) :: starEach es X.env := by rfl) (hpl : (backTo pos (starEach es X.env)).any (·.1) = false := by rfl) : EV X S g ρ (.Call (.Name x p) (e :: es) [] pos) P :=
  PE.of (pe_callB (callR_of h) hg hm hv ha hn hdb he hpl) fun σ H Q ⟨r, j, q⟩ => ⟨r, j, fun vs H1 ds g1 p e1 j1 t1 => ⟨ds, g1, p, j1, t1, fun v H' d g' p' e' j' t' => q v H' d g' p' (e1.trans e') j' t'⟩⟩
theorem ev_callTy2 {x : Str} {T : String} {p : Pos} {Q' : Ps G} (ha : EA X S g ρ (e :: es) Q') (h : ∀ ds g, Q' ds g → CallD X S g (.type T) ds P) (hm : X.mg x = none) (hv : bootBuiltins x = some (.type T)) (hg : Gl X x := by rfl) (hn : x ≠ "__name__" := by decide) (hdb : (x == ("__debug__" : Str)) = false := by decide)
    (he : starEach (e :: es) X.env = (false, eval e X.env) :: starEach es X.env := by rfl) (hpl : (backTo pos (starEach es X.env)).any (·.1) = false := by rfl) : EV X S g ρ (.Call (.Name x p) (e :: es) [] pos) P :=
  PE.of (pe_callTy (callR_of h) hg hm hv ha hn hdb he hpl) fun σ H Q ⟨r, j, q⟩ => ⟨r, j, fun vs H1 ds g1 p e1 j1 t1 => ⟨ds, g1, p, j1, t1, fun v H' d g' p' e' j' t' => q v H' d g' p' (e1.trans e') j' t'⟩⟩
theorem ev_callB {x : Str} {id : String} {p : Pos} {ds : List D} (ha : EAd X S g ρ (e :: es) ds) (h : CallD X S g (.builtin id) ds P) (hm : X.mg x = none) (hv : bootBuiltins x = some (.builtin id)) (hg : Gl X x := by rfl) (hn : x ≠ "__name__" := by decide) (hdb : (x == ("__debug__" : Str)) = false := by decide)
    (he : starEach (e :: es) X.env = (false, eval e X.env) :: starEach es X.env := by rfl) (hpl : (backTo pos (starEach es X.env)).any (·.1) = false := by rfl) : EV X S g ρ (.Call (.Name x p) (e :: es) [] pos) P :=
  ev_callB2 ha (fun _ _ z => z.1 ▸ z.2 ▸ h) hm hv hg hn hdb he hpl
theorem ev_callTy {x : Str} {T : String} {p : Pos} {ds : List D} (ha : EAd X S g ρ (e :: es) ds) (h : CallD X S g (.type T) ds P) (hm : X.mg x = none) (hv : bootBuiltins x = some (.type T)) (hg : Gl X x := by rfl) (hn : x ≠ "__name__" := by decide) (hdb : (x == ("__debug__" : Str)) = false := by decide)
    (he : starEach (e :: es) X.env = (false, eval e X.env) :: starEach es X.env := by rfl) (hpl : (backTo pos (starEach es X.env)).any (·.1) = false := by rfl) : EV X S g ρ (.Call (.Name x p) (e :: es) [] pos) P :=
  ev_callTy2 ha (fun _ _ z => z.1 ▸ z.2 ▸ h) hm hv hg hn hdb he hpl
/-! subscripts -/
def IxD (X : Cx) (S : Sys G) (g : G) (d1 d2 : D) (P : Po G) : Prop := ∃ r, IxR X r ∧ ∀ x y H, S.J g H → Dt X.K S H x d1 → Dt X.K S H y d2 → r x y H (Good X.K S H P)
theorem ixR_of {p : D → D → G → Prop} (h : ∀ d1 d2 g, p d1 d2 g → IxD X S g d1 d2 P) : IxR X (rOp X.K S p P) := by
  intro va sl pins s σ H x y v u Q I rx ry ⟨d1, d2, g, hp, j, t1, t2, q⟩ hs
  obtain ⟨r, hr, w⟩ := h d1 d2 g hp
  exact thn (hr va sl pins s σ H x y v u _ I rx ry (w x y H j t1 t2) hs) fun _ _ ⟨z, H', I', r', d, g', p, e', j', t'⟩ => ⟨z, H', I', r', q z H' d g' p e' j' t'⟩
theorem ev_ix2 {P2 : D → Po G} (ha : EV X S g ρ a P1) (hb : ∀ d1 g1, P1 d1 g1 → EV X S g1 ρ b (P2 d1)) (h : ∀ d1 d2 g2, P2 d1 d2 g2 → IxD X S g2 d1 d2 P) (hs : PlainIx b := by intro _ _; rfl) : EV X S g ρ (.Subscript a b pos) P :=
  PE.of (pe_ix (ixR_of h) ha (pe_b2 hb) hs) fun _ _ _ ⟨r, j, q⟩ => tOp_of r j q
theorem ev_ix (ha : EVd X S g ρ a d1) (hb : EVd X S g ρ b d2) (h : IxD X S g d1 d2 P) (hs : PlainIx b := by intro _ _; rfl) : EV X S g ρ (.Subscript a b pos) P :=
  ev_ix2 (P2 := fun x y g2 => x = d1 ∧ y = d2 ∧ g2 = g) ha (fun x g1 p => by obtain ⟨p1, rfl⟩ := p; exact ev_imp hb fun y g2 q => ⟨p1, q⟩) (fun x y g2 ⟨h1, h2, h3⟩ => h1 ▸ h2 ▸ h3 ▸ h) hs
end
end WT
set_option Elab.async false
set_option linter.all false
set_option maxRecDepth 100000
set_option maxHeartbeats 4000000
namespace WT
open PySem L2
variable {G : Type}

/-! ### statements -/
structure Ou (G : Type) where
  nx : En → G → Prop
  rt : Po G
  bk : En → G → Prop := fun _ _ => False
  ct : En → G → Prop := fun _ _ => False
structure SvEnds (K : PySem.W.Frag) (S : Sys G) (H : Hp) (O : Ou G) (E : Ends) : Prop where
  nx : ∀ σ' H' ρ' g', O.nx ρ' g' → S.Ext H H' → S.J g' H' → Rep K S H' σ' ρ' → E.nx σ' H'
  rt : ∀ v H' d g', O.rt d g' → S.Ext H H' → S.J g' H' → Dt K S H' v d → E.rt v H'
  bk : ∀ σ' H' ρ' g', O.bk ρ' g' → S.Ext H H' → S.J g' H' → Rep K S H' σ' ρ' → E.bk σ' H'
  ct : ∀ σ' H' ρ' g', O.ct ρ' g' → S.Ext H H' → S.J g' H' → Rep K S H' σ' ρ' → E.ct σ' H'
theorem SvEnds.on {K : PySem.W.Frag} {S : Sys G} {H H1 : Hp} {O : Ou G} {E : Ends} (h : SvEnds K S H O E) (e : S.Ext H H1) : SvEnds K S H1 O E :=
  ⟨fun s' H' r' g' p e' => h.nx s' H' r' g' p (e.trans e'), fun s' H' r' g' p e' => h.rt s' H' r' g' p (e.trans e'), fun s' H' r' g' p e' => h.bk s' H' r' g' p (e.trans e'), fun s' H' r' g' p e' => h.ct s' H' r' g' p (e.trans e')⟩
def tSV (K : PySem.W.Frag) (S : Sys G) (g : G) (ρ : En) (O : Ou G) : TS := fun E σ H => Rep K S H σ ρ ∧ S.J g H ∧ SvEnds K S H O E
abbrev SV (X : Cx) (S : Sys G) (g : G) (ρ : En) (st : Stmt) (O : Ou G) : Prop := PS X st (tSV X.K S g ρ O)
abbrev SVs (X : Cx) (S : Sys G) (g : G) (ρ : En) (st : List Stmt) (O : Ou G) : Prop := PSs X st (tSV X.K S g ρ O)
section
variable {X : Cx} {S : Sys G} {g : G} {ρ : En} {O O1 : Ou G} {st : Stmt} {rest body els : List Stmt} {e c : Expr} {pos : Pos} {P : Po G} {d : D}
theorem PS.of {t t' : TS} (h : PS X st t) (w : ∀ E σ H, t' E σ H → t E σ H) : PS X st t' := ⟨fun pins s σ H E I q => h.run pins s σ H E I (w E σ H q)⟩
theorem PSs.of {t t' : TS} (h : PSs X rest t) (w : ∀ E σ H, t' E σ H → t E σ H) : PSs X rest t' := ⟨fun pins s σ H E I q => h.run pins s σ H E I (w E σ H q)⟩
theorem PSs.any {ι : Type} {p : ι → Prop} {t : ι → TS} (h : ∀ i, p i → PSs X rest (t i)) : PSs X rest (fun E σ H => ∃ i, p i ∧ t i E σ H) := ⟨fun pins s σ H E I ⟨i, hi, q⟩ => (h i hi).run pins s σ H E I q⟩
theorem sv_imp (h : SV X S g ρ st O) (h1 : ∀ r g', O.nx r g' → O1.nx r g') (h2 : ∀ r g', O.rt r g' → O1.rt r g') (h3 : ∀ r g', O.bk r g' → O1.bk r g') (h4 : ∀ r g', O.ct r g' → O1.ct r g') : SV X S g ρ st O1 :=
  PS.of h fun E σ H ⟨r, j, q⟩ => ⟨r, j, fun s' H' r' g' p => q.nx s' H' r' g' (h1 _ _ p), fun s' H' r' g' p => q.rt s' H' r' g' (h2 _ _ p), fun s' H' r' g' p => q.bk s' H' r' g' (h3 _ _ p), fun s' H' r' g' p => q.ct s' H' r' g' (h4 _ _ p)⟩
theorem svs_imp (h : SVs X S g ρ rest O) (h1 : ∀ r g', O.nx r g' → O1.nx r g') (h2 : ∀ r g', O.rt r g' → O1.rt r g') (h3 : ∀ r g', O.bk r g' → O1.bk r g') (h4 : ∀ r g', O.ct r g' → O1.ct r g') : SVs X S g ρ rest O1 :=
  PSs.of h fun E σ H ⟨r, j, q⟩ => ⟨r, j, fun s' H' r' g' p => q.nx s' H' r' g' (h1 _ _ p), fun s' H' r' g' p => q.rt s' H' r' g' (h2 _ _ p), fun s' H' r' g' p => q.bk s' H' r' g' (h3 _ _ p), fun s' H' r' g' p => q.ct s' H' r' g' (h4 _ _ p)⟩
/-- less is known of the slots -/
theorem svs_weak {ρ' : En} (h : SVs X S g ρ rest O) (hl : ρ.length = ρ'.length) (w : ∀ (i : Nat) (d : D), ρ[i]? = some (some d) → ρ'[i]? = some (some d)) : SVs X S g ρ' rest O :=
  PSs.of h fun _ _ _ ⟨r, j, q⟩ => ⟨r.forget hl w, j, q⟩
theorem sv_nil (h : O.nx ρ g) : SVs X S g ρ [] O := PSs.of pss_nil fun E σ H ⟨r, j, q⟩ => q.nx σ H ρ g h (Sys.Ext.refl H) j r
theorem sv_cons {N1 : En → G → Prop} (h1 : SV X S g ρ st { O with nx := N1 }) (h2 : ∀ ρ' g', N1 ρ' g' → SVs X S g' ρ' rest O) : SVs X S g ρ (st :: rest) O :=
  PSs.of (pss_cons h1 (PSs.any (p := fun i : En × G => N1 i.1 i.2) fun i hi => h2 i.1 i.2 hi)) fun E σ H ⟨r, j, q⟩ => ⟨r, j,
    ⟨fun s' H' r' g' p e' j' t' => ⟨(r', g'), p, t', j', q.on e'⟩, q.rt, q.bk, q.ct⟩⟩
/-- the last statement -/
theorem sv_last (h : SV X S g ρ st O) : SVs X S g ρ [st] O := pss_one h
theorem sv_ret (h : EV X S g ρ e O.rt) : SV X S g ρ (.Return (some e) pos) O := PS.of (ps_ret h) fun E σ H ⟨r, j, q⟩ => ⟨r, j, fun v H' d g' p e' j' t' => q.rt v H' d g' p e' j' t'⟩
theorem sv_retd (h : EVd X S g ρ e d) (w : O.rt d g) : SV X S g ρ (.Return (some e) pos) O := sv_ret (ev_is h w)
theorem sv_set2 (i : Nat) {x : Str} {pos' : Pos} (h : EV X S g ρ e P) (w : ∀ d g', P d g' → O.nx (ρ.set i (some d)) g') (hN : X.N.Nodup) (hi : X.N[i]? = some x := by rfl) (hx : Loc X.env.scope x := by first | exact Or.inl rfl | exact Or.inr rfl)
    (hs : swapsWith e (some (.Name x pos')) pos.line X.env = pure false := by rfl) (hf : X.fn x = true ∨ X.env.scope.names.lookup x = some .local := by first | exact .inl rfl | exact .inr rfl | assumption) : SV X S g ρ (.Assign [.Name x pos'] e pos) O :=
  PS.of (ps_set hN hi hx h hs hf) fun E σ H ⟨r, j, q⟩ => ⟨r, j, fun v H' d g' p e' j' t' => q.nx _ H' _ g' (w d g' p) e' j' ((r.ext e').set t')⟩
theorem sv_set (i : Nat) {x : Str} {pos' : Pos} (h : EVd X S g ρ e d) (w : O.nx (ρ.set i (some d)) g) (hN : X.N.Nodup) (hi : X.N[i]? = some x := by rfl) (hx : Loc X.env.scope x := by first | exact Or.inl rfl | exact Or.inr rfl)
    (hs : swapsWith e (some (.Name x pos')) pos.line X.env = pure false := by rfl) (hf : X.fn x = true ∨ X.env.scope.names.lookup x = some .local := by first | exact .inl rfl | exact .inr rfl | assumption) : SV X S g ρ (.Assign [.Name x pos'] e pos) O :=
  sv_set2 i h (fun _ _ z => z.1 ▸ z.2 ▸ w) hN hi hx hs hf
theorem sv_if {R : Pb G} (hc : ET X S g ρ c R) (ha : ∀ g1, R true g1 → SVs X S g1 ρ body O) (hb : ∀ g1, R false g1 → SVs X S g1 ρ els O) : SV X S g ρ (.If c body els pos) O :=
  PS.of (ps_if hc (PSs.any (p := fun g1 : G => R true g1) ha) (PSs.any (p := fun g1 : G => R false g1) hb)) fun E σ H ⟨r, j, q⟩ => ⟨r, j, fun k H' g1 hR e' j' => by
    cases k with
    | true => exact iteT ⟨g1, hR, r.ext e', j', q.on e'⟩
    | false => exact iteF ⟨g1, hR, r.ext e', j', q.on e'⟩⟩
theorem sv_ifd {k : Bool} (hc : ETd X S g ρ c k) (ha : k = true → SVs X S g ρ body O) (hb : k = false → SVs X S g ρ els O) : SV X S g ρ (.If c body els pos) O :=
  sv_if hc (fun g1 h => by
    obtain ⟨h, rfl⟩ := h
    exact ha h.symm) fun g1 h => by
    obtain ⟨h, rfl⟩ := h
    exact hb h.symm
theorem sv_expr (h : EV X S g ρ e P) (w : ∀ d g', P d g' → O.nx ρ g') (hs : swapsWith e none pos.line X.env = pure false := by rfl) : SV X S g ρ (.Expr e pos) O :=
  PS.of (ps_expr h hs) fun E σ H ⟨r, j, q⟩ => ⟨r, j, fun v H' d g' p e' j' t' => q.nx _ H' _ g' (w d g' p) e' j' (r.ext e')⟩
theorem sv_pass (w : O.nx ρ g) : SV X S g ρ (.Pass pos) O := PS.of ps_pass fun E σ H ⟨r, j, q⟩ => q.nx _ H _ g w (Sys.Ext.refl H) j r
theorem sv_break (w : O.bk ρ g) : SV X S g ρ (.Break pos) O := PS.of ps_break fun E σ H ⟨r, j, q⟩ => q.bk _ H _ g w (Sys.Ext.refl H) j r
theorem sv_continue (w : O.ct ρ g) : SV X S g ρ (.Continue pos) O := PS.of ps_continue fun E σ H ⟨r, j, q⟩ => q.ct _ H _ g w (Sys.Ext.refl H) j r

end
/-! ### targets -/
/-- what a target does: the slots behind it; the slots of vs alone have turned -/
def TGok (K : PySem.W.Frag) (S : Sys G) (t : TG) (f : En → D → Option En) (vs : List Nat) : Prop :=
  ∀ v σ H ρ d ρ', f ρ d = some ρ' → Rep K S H σ ρ → Dt K S H v d → ∀ Q : L2.St → Hp → Prop, (∀ σ', Rep K S H σ' ρ' → (∀ us : List Nat, (∀ i ∈ vs, i ∈ us) → wipe σ' us = wipe σ us) → Q σ' H) → t v σ H Q
/-- a name -/
def fN (i : Nat) : En → D → Option En := fun ρ d => some (ρ.set i (some d))
theorem tg_name {K : PySem.W.Frag} {S : Sys G} (i : Nat) : TGok K S (gName i) (fN i) [i] := fun v σ H ρ d ρ' hf r t Q q => by
  cases hf
  exact q _ (r.set t) fun us h => wipe_set (h i (by simp))
/-- two names: a tuple of two -/
def fN2 (i k : Nat) : En → D → Option En := fun ρ d => match d with
  | .tup [x, y] => some ((ρ.set i (some x)).set k (some y))
  | _ => none
theorem tg_pair {K : PySem.W.Frag} {S : Sys G} (i k : Nat) : TGok K S (gTup K 2 (gCons (gName i) (gCons (gName k) gNil))) (fN2 i k) [i, k] := fun v σ H ρ d ρ' hf r t Q q => by
  unfold fN2 at hf
  split at hf
  · rename_i x y
    cases hf
    cases t with
    | tup hs hl =>
      rename_i a xs
      cases hl with
      | cons h1 hl =>
        cases hl with
        | cons h2 hl =>
          cases hl
          refine ⟨a, _, rfl, hs.sq, rfl, _, _, rfl, _, _, rfl, rfl, q _ ((r.set h1).set h2) fun us h => ?_⟩
          rw [wipe_set (h k (by simp)), wipe_set (h i (by simp))]
  · cases hf

/-! ### what is walked -/
structure WkD (K : PySem.W.Frag) (S : Sys G) (J : It) (ds : List D) (H1 : Hp) : Prop where
  go : ∀ i H2 g2 d, S.Ext H1 H2 → S.J g2 H2 → ds[i]? = some d → J.go i H2 ∧ ∀ x H', J.yld i H2 x H' → S.Ext H2 H' ∧ S.J g2 H' ∧ Dt K S H' x d
  stop : ∀ i H2 g2, S.Ext H1 H2 → S.J g2 H2 → ds.length ≤ i → J.stop i H2
/-- also with one more new object -/
def WkD2 (K : PySem.W.Frag) (S : Sys G) (J : It) (ds : List D) (H1 : Hp) : Prop := WkD K S J ds H1 ∧ ∀ p o u, H1 p = none → WkD K (S.hold p u) J ds (upd H1 p o)
def iD (K : PySem.W.Frag) (S : Sys G) (g : G) (ρ : En) (Q' : Ps G) : TI := fun σ H R => Rep K S H σ ρ ∧ S.J g H ∧ ∀ J H1 ds g1, Q' ds g1 → S.Ext H H1 → S.J g1 H1 → WkD2 K S J ds H1 → R J H1
abbrev ID (X : Cx) (S : Sys G) (g : G) (ρ : En) (tg iter : Expr) (Q' : Ps G) : Prop := PI X tg iter (iD X.K S g ρ Q')
abbrev IDd (X : Cx) (S : Sys G) (g : G) (ρ : En) (tg iter : Expr) (ds : List D) : Prop := ID X S g ρ tg iter (Iss g ds)
section
variable {X : Cx} {K : PySem.W.Frag} {S : Sys G} {g : G} {ρ : En} {O O1 : Ou G} {st : Stmt} {rest body els : List Stmt} {e a b c tg iter : Expr} {pos : Pos} {P P1 : Po G} {Q' : Ps G} {d : D} {ds : List D}
theorem PI.of {t t' : TI} (h : PI X tg iter t) (w : ∀ σ H Q, t' σ H Q → t σ H Q) : PI X tg iter t' := ⟨fun pins s σ H Q I q => h.run pins s σ H Q I (w σ H Q q)⟩
theorem id_imp {Q1 : Ps G} (h : ID X S g ρ tg iter Q') (w : ∀ ds g', Q' ds g' → Q1 ds g') : ID X S g ρ tg iter Q1 := PI.of h fun _ _ _ ⟨r, j, q⟩ => ⟨r, j, fun J H1 ds g1 p => q J H1 ds g1 (w ds g1 p)⟩
theorem wk_list {H : Hp} {l : Addr} {xs : List V} (h : MqL K S H l xs) (t : DtL K S H xs ds) : WkD K S (Itl K l) ds H :=
  ⟨fun i H2 g2 d e j hd => by
    obtain ⟨v, hv, _⟩ := t.get hd
    refine ⟨⟨xs, v, (h.ext e).sq, hv⟩, fun x H' y => ?_⟩
    obtain ⟨rfl, hy⟩ := y
    have hx := hy xs (h.ext e).sq
    rw [hv] at hx
    cases hx
    obtain ⟨v', hv', hd'⟩ := (t.ext e).get hd
    rw [hv] at hv'
    cases hv'
    exact ⟨Sys.Ext.refl _, j, hd'⟩, fun i H2 g2 e j hl => ⟨xs, (h.ext e).sq, by rw [t.length]; exact hl⟩⟩
theorem wk_tuple {H : Hp} {l : Addr} {xs : List V} (h : MqT K S H l xs) (t : DtL K S H xs ds) : WkD K S (Itt K l) ds H :=
  ⟨fun i H2 g2 d e j hd => by
    obtain ⟨v, hv, _⟩ := t.get hd
    refine ⟨⟨xs, v, (h.ext e).sq, hv⟩, fun x H' y => ?_⟩
    obtain ⟨rfl, hy⟩ := y
    have hx := hy xs (h.ext e).sq
    rw [hv] at hx
    cases hx
    obtain ⟨v', hv', hd'⟩ := (t.ext e).get hd
    rw [hv] at hv'
    cases hv'
    exact ⟨Sys.Ext.refl _, j, hd'⟩, fun i H2 g2 e j hl => ⟨xs, (h.ext e).sq, by rw [t.length]; exact hl⟩⟩
theorem wk_list2 {H : Hp} {l : Addr} {xs : List V} (h : MqL K S H l xs) (t : DtL K S H xs ds) : WkD2 K S (Itl K l) ds H :=
  ⟨wk_list h t, fun p o u hp => wk_list (h.to (Sys.Ext.new hp) (plus_m hp)) (t.plus hp)⟩
theorem wk_tuple2 {H : Hp} {l : Addr} {xs : List V} (h : MqT K S H l xs) (t : DtL K S H xs ds) : WkD2 K S (Itt K l) ds H :=
  ⟨wk_tuple h t, fun p o u hp => wk_tuple (h.to (Sys.Ext.new hp) (plus_m hp)) (t.plus hp)⟩
/-- lo, lo + 1, .. -/
def rngD (lo : Int) (n : Nat) : List D := (List.range n).map fun i => D.int (lo + (i : Nat))
theorem rngD_get {lo : Int} {n i : Nat} {d : D} (h : (rngD lo n)[i]? = some d) : i < n ∧ d = .int (lo + (i : Nat)) := by
  unfold rngD at h
  rw [List.getElem?_map] at h
  cases q : (List.range n)[i]? with
  | none =>
    rw [q] at h
    cases h
  | some z =>
    rw [q] at h
    cases h
    obtain ⟨h1, h2⟩ := List.getElem?_eq_some_iff.mp q
    rw [List.getElem_range] at h2
    rw [List.length_range] at h1
    exact ⟨h1, by rw [h2]⟩
theorem rngD_len {lo : Int} {n : Nat} : (rngD lo n).length = n := by simp [rngD]
theorem wk_range {H : Hp} {lo : Int} {n : Nat} : WkD K S (Itr lo n) (rngD lo n) H :=
  ⟨fun i H2 g2 d e j hd => by
    obtain ⟨h1, rfl⟩ := rngD_get hd
    refine ⟨h1, fun x H' y => ?_⟩
    obtain ⟨rfl, rfl⟩ := y
    exact ⟨Sys.Ext.refl _, j, .int _⟩, fun i H2 g2 e j hl => by
    rw [rngD_len] at hl
    exact hl⟩
theorem wk_range2 {H : Hp} {lo : Int} {n : Nat} : WkD2 K S (Itr lo n) (rngD lo n) H := ⟨wk_range, fun _ _ _ _ => wk_range⟩
/-- for .. in a list, a tuple -/
theorem id_list2 (h : EV X S g ρ a P1) (w : ∀ d g', P1 d g' → ∃ ds, d = .lst ds ∧ Q' ds g') : ID X S g ρ tg a Q' := PI.of (pi_list h) fun σ H R ⟨r, j, q⟩ => ⟨r, j, fun v H1 d g1 p e1 j1 t1 => by
  obtain ⟨ds, rfl, hq⟩ := w d g1 p
  cases t1 with
  | lst h1 n1 h2 => exact ⟨_, rfl, ⟨_, SqL.of h1⟩, q _ H1 ds g1 hq e1 j1 (wk_list2 (.inl ⟨.inl h1, n1⟩) h2)⟩⟩
theorem id_tup2 (h : EV X S g ρ a P1) (w : ∀ d g', P1 d g' → ∃ ds, d = .tup ds ∧ Q' ds g') : ID X S g ρ tg a Q' := PI.of (pi_tup h) fun σ H R ⟨r, j, q⟩ => ⟨r, j, fun v H1 d g1 p e1 j1 t1 => by
  obtain ⟨ds, rfl, hq⟩ := w d g1 p
  cases t1 with
  | tup h1 h2 => exact ⟨_, rfl, ⟨_, h1.sq⟩, q _ H1 ds g1 hq e1 j1 (wk_tuple2 h1 h2)⟩⟩
theorem id_fz2 (h : EV X S g ρ a P1) (w : ∀ d g', P1 d g' → ∃ ds, d = .fz ds ∧ Q' ds g') : ID X S g ρ tg a Q' := PI.of (pi_list h) fun σ H R ⟨r, j, q⟩ => ⟨r, j, fun v H1 d g1 p e1 j1 t1 => by
  obtain ⟨ds, rfl, hq⟩ := w d g1 p
  cases t1 with
  | fz h1 h2 => exact ⟨_, rfl, ⟨_, h1.sq⟩, q _ H1 ds g1 hq e1 j1 (wk_list2 h1 h2)⟩⟩
theorem id_list (h : EVd X S g ρ a (.lst ds)) : IDd X S g ρ tg a ds := id_list2 h fun d g' p => ⟨ds, p.1, rfl, p.2⟩
theorem id_tup (h : EVd X S g ρ a (.tup ds)) : IDd X S g ρ tg a ds := id_tup2 h fun d g' p => ⟨ds, p.1, rfl, p.2⟩
theorem id_range2 {p pos : Pos} {Q1 : Ps G} (h : EA X S g ρ [a] Q1) (w : ∀ ds g', Q1 ds g' → ∃ n : Int, ds = [.int n] ∧ -(2 ^ 62) ≤ n ∧ n < 2 ^ 62 ∧ Q' (rngD 0 n.toNat) g') (hm : X.mg "range" = none) (hg : Gl X "range" := by rfl) (hs : starEach [a] X.env = [(false, eval a X.env)] := by rfl) :
    ID X S g ρ tg (.Call (.Name "range" p) [a] [] pos) Q' := PI.of (pi_range1 hg hm h hs) fun σ H R ⟨r, j, q⟩ => ⟨r, j, fun vs H1 ds g1 p1 e1 j1 t1 => by
  obtain ⟨n, rfl, h1, h2, hq⟩ := w ds g1 p1
  cases t1 with
  | cons ta tr =>
    cases ta
    cases tr
    exact ⟨n, rfl, h1, h2, q _ H1 _ g1 hq e1 j1 wk_range2⟩⟩
theorem id_range {p pos : Pos} {n : Int} (h : EVd X S g ρ a (.int n)) (h1 : -(2 ^ 62) ≤ n) (h2 : n < 2 ^ 62) (hm : X.mg "range" = none) (hg : Gl X "range" := by rfl) (hs : starEach [a] X.env = [(false, eval a X.env)] := by rfl) (hs2 : starEach (a :: []) X.env = (false, eval a X.env) :: starEach [] X.env := by rfl) :
    IDd X S g ρ tg (.Call (.Name "range" p) [a] [] pos) (rngD 0 n.toNat) := id_range2 (ea_cons h ea_nil hs2) (fun ds g' p => ⟨n, p.1, h1, h2, rfl, p.2⟩) hm hg hs
theorem id_rangeAB {p pos : Pos} {m n : Int} (ha : EVd X S g ρ a (.int m)) (hb : EVd X S g ρ b (.int n)) (h1 : -(2 ^ 62) ≤ m) (h2 : m < 2 ^ 62) (h3 : -(2 ^ 62) ≤ n) (h4 : n < 2 ^ 62) (hm : X.mg "range" = none) (hg : Gl X "range" := by rfl) (hs : starEach [a, b] X.env = [(false, eval a X.env), (false, eval b X.env)] := by rfl) (hs2 : starEach [b] X.env = [(false, eval b X.env)] := by rfl)
    (hs3 : starEach (a :: [b]) X.env = (false, eval a X.env) :: starEach [b] X.env := by rfl) (hs4 : starEach (b :: []) X.env = (false, eval b X.env) :: starEach [] X.env := by rfl) :
    IDd X S g ρ tg (.Call (.Name "range" p) [a, b] [] pos) (rngD m (n - m).toNat) := PI.of (pi_range2 hg hm (ea_cons ha (ea_cons hb ea_nil hs4) hs3) hs hs2) fun σ H R ⟨r, j, q⟩ => ⟨r, j, fun vs H1 ds g1 p1 e1 j1 t1 => by
  obtain ⟨rfl, rfl⟩ := p1
  cases t1 with
  | cons ta tr =>
    cases ta
    cases tr with
    | cons tb tr =>
      cases tb
      cases tr
      exact ⟨m, n, rfl, ⟨h1, h2, h3, h4⟩, q _ H1 _ _ ⟨rfl, rfl⟩ e1 j1 wk_range2⟩⟩

/-! ### for -/
theorem sv_for {gt : TG} {f : En → D → Option En} {vs : List Nat} (W : List D → Nat → En → G → Prop) (hp : PassesOwn (model X.prog X.w) X.A X.env X.xe) (hc : X.calm = true) (hi : ID X S g ρ tg iter Q') (hg : PG X tg gt) (ho : TGok X.K S gt f vs)
    (h0 : ∀ ds g1, Q' ds g1 → W ds 0 ρ g1)
    (hs : ∀ ds g0 i d ρ1 g1, Q' ds g0 → ds[i]? = some d → W ds i ρ1 g1 → ∃ ρ2, f ρ1 d = some ρ2 ∧ SVs X S g1 ρ2 body { nx := W ds (i + 1), ct := W ds (i + 1), bk := O.nx, rt := O.rt })
    (hd : ∀ ds g0 ρ1 g1, Q' ds g0 → W ds ds.length ρ1 g1 → O.nx ρ1 g1) (hf : ∀ x, foldedSetIterable iter X.env x = pure x := by intro _; rfl) : SV X S g ρ (.For tg iter body [] pos) O := by
  refine PS.of (ps_for hp hc hi hg (PSs.any (p := fun q : List D × Nat × En × G => SVs X S q.2.2.2 q.2.2.1 body { nx := W q.1 (q.2.1 + 1), ct := W q.1 (q.2.1 + 1), bk := O.nx, rt := O.rt }) (t := fun q => tSV X.K S q.2.2.2 q.2.2.1 { nx := W q.1 (q.2.1 + 1), ct := W q.1 (q.2.1 + 1), bk := O.nx, rt := O.rt }) fun q hq => hq) hf) ?_
  intro E σ H ⟨r, j, q⟩
  refine ⟨r, j, fun J H1 ds g1 hq e1 j1 wk => ?_⟩
  refine ⟨fun i m σ' H' => m = ds.length - i ∧ i ≤ ds.length ∧ ∃ ρ' g', W ds i ρ' g' ∧ Rep X.K S H' σ' ρ' ∧ S.J g' H' ∧ S.Ext H1 H', ⟨ds.length, by simp, Nat.zero_le _, ρ, g1, h0 ds g1 hq, r.ext e1, j1, Sys.Ext.refl _⟩, ?_⟩
  rintro i m σ' H' ⟨rfl, hil, ρ', g', hW, r', j', e'⟩
  by_cases hlt : i < ds.length
  · have hx : ds[i]? = some ds[i] := List.getElem?_eq_getElem hlt
    obtain ⟨hgo, hy⟩ := wk.1.go i H' g' _ e' j' hx
    refine .inr ⟨hgo, fun σ2 H2 => ∃ ρ2 g2, W ds (i + 1) ρ2 g2 ∧ Rep X.K S H2 σ2 ρ2 ∧ S.J g2 H2 ∧ S.Ext H1 H2, fun σ2 H2 ⟨ρ2, g2, a1, a2, a3, a4⟩ => ⟨ds.length - (i + 1), by omega, rfl, hlt, ρ2, g2, a1, a2, a3, a4⟩, fun x H2 yl => ?_⟩
    obtain ⟨e2, j2, t2⟩ := hy x H2 yl
    obtain ⟨ρ2, hf2, hb⟩ := hs ds g1 i _ ρ' g' hq hx hW
    refine ho x σ' H2 ρ' _ ρ2 hf2 (r'.ext e2) t2 _ fun σ3 r3 _ => ⟨(ds, i, ρ2, g'), hb, r3, j2, ?_⟩
    have e12 : S.Ext H1 H2 := e'.trans e2
    have q2 := q.on (e1.trans e12)
    exact ⟨fun s' H3 r3 g3 p3 e3 j3 t3 => ⟨r3, g3, p3, t3, j3, e12.trans e3⟩, q2.rt, q2.nx, fun s' H3 r3 g3 p3 e3 j3 t3 => ⟨r3, g3, p3, t3, j3, e12.trans e3⟩⟩
  · have el : i = ds.length := by omega
    subst el
    exact .inl ⟨wk.1.stop _ H' g' e' j' (Nat.le_refl _), (q.on (e1.trans e')).nx σ' H' ρ' g' (hd ds g1 ρ' g' hq hW) (Sys.Ext.refl _) j' r'⟩
end
end WT
set_option Elab.async false
set_option linter.all false
set_option maxRecDepth 100000
set_option maxHeartbeats 4000000
namespace WT
open PySem L2
variable {G : Type}
section
variable {X : Cx} {K : PySem.W.Frag} {S : Sys G} {g : G} {ρ : En} {O : Ou G} {elt tg iter e : Expr} {ifs : List Expr} {scope : Scope} {own : List (Str × Nat)} {pos : Pos} {P : Po G} {Q' : Ps G} {d : D} {ds : List D}
/-! ### list comprehensions -/
abbrev Blk (X : Cx) (scope : Scope) (s : Shared) (H : Hp) (C : Addr) (cl : List (Str × Addr)) (fp : List Addr) : Cx := X.blk s H scope (compEnvC scope cl C X.env) fp
theorem PTs.any {X : Cx} {ι : Type} {p : ι → Prop} {t : ι → TT} (h : ∀ i, p i → PTs X ifs (t i)) : PTs X ifs (fun σ H Q => ∃ i, p i ∧ t i σ H Q) := ⟨fun pins s σ H Q I ⟨i, hi, q⟩ => (h i hi).run pins s σ H Q I q⟩
/-- one turn: what the tests answer, what is added -/
structure LcTurn (X : Cx) (S : Sys G) (scope : Scope) (ifs : List Expr) (elt : Expr) (g1 : G) (ρ2 : En) (R : Pb G) (F1 : D → G → Prop) (F0 : G → Prop) : Prop where
  test : ∀ p o, ¬ S.W p → ∀ s H C cl fp, PTs (Blk X scope s H C cl fp) ifs (tET X.K (S.hold p o) g1 ρ2 R)
  yes : ∀ g2, R true g2 → ∀ p o, ¬ S.W p → ∀ s H C cl fp, EV (Blk X scope s H C cl fp) (S.hold p o) g2 ρ2 elt F1
  no : ∀ g2, R false g2 → F0 g2
abbrev LcIx (G : Type) := (Addr × HO) × G × En × (Pb G) × (D → G → Prop) × (G → Prop)
/-- the readings of tests and element, of all turns -/
def ttL (X : Cx) (S : Sys G) (scope : Scope) (ifs : List Expr) (elt : Expr) : TT := fun σ H Q => ∃ q : LcIx G, (¬ S.W q.1.1 ∧ LcTurn X S scope ifs elt q.2.1 q.2.2.1 q.2.2.2.1 q.2.2.2.2.1 q.2.2.2.2.2) ∧ tET X.K (S.hold q.1.1 q.1.2) q.2.1 q.2.2.1 q.2.2.2.1 σ H Q
def teL (X : Cx) (S : Sys G) (scope : Scope) (ifs : List Expr) (elt : Expr) : TE := fun σ H Q => ∃ q : LcIx G × G, (¬ S.W q.1.1.1 ∧ LcTurn X S scope ifs elt q.1.2.1 q.1.2.2.1 q.1.2.2.2.1 q.1.2.2.2.2.1 q.1.2.2.2.2.2 ∧ q.1.2.2.2.1 true q.2) ∧ tEV X.K (S.hold q.1.1.1 q.1.1.2) q.2 q.1.2.2.1 q.1.2.2.2.2.1 σ H Q
theorem lc_read {gt : TG} {f : En → D → Option En} {vs : List Nat} (F : List D → Nat → List D → G → Prop) (hgo : ∀ S' : Sys G, TGok X.K S' gt f vs)
    (h0 : ∀ ds g1, Q' ds g1 → F ds 0 [] g1)
    (hs : ∀ ds g0 i d acc g1, Q' ds g0 → ds[i]? = some d → F ds i acc g1 → ∃ ρ2 R, f (wipeE ρ vs) d = some ρ2 ∧ LcTurn X S scope ifs elt g1 ρ2 R (fun z g3 => F ds (i + 1) (acc ++ [z]) g3) (fun g3 => F ds (i + 1) acc g3))
    (hd : ∀ ds g0 acc g1, Q' ds g0 → F ds ds.length acc g1 → P (.lst acc) g1) (hz : ∀ ds i acc g1, F ds i acc g1 → acc.length < sizeLine)
    {σ : L2.St} {H : Hp} {Q : VK} (h : tEV X.K S g ρ P σ H Q) : tLc (iD X.K S g ρ Q') gt (ttL X S scope ifs elt) (teL X S scope ifs elt) vs σ H Q := by
  obtain ⟨r, j, q⟩ := h
  refine ⟨r, j, fun J H1 ds g1 hq e1 j1 wk p hp => ?_⟩
  have nM : ¬ S.W p := Sys.freshW hp j1
  have wk2 : ∀ u, WkD X.K (S.hold p u) J ds (upd H1 p (.lst [])) := fun u => wk.2 p (.lst []) u hp
  refine ⟨fun i m H' => m = ds.length - i ∧ i ≤ ds.length ∧ ∃ acc accD g', F ds i accD g' ∧ DtL X.K (S.hold p (.lst acc)) H' acc accD ∧ (S.hold p (.lst acc)).J g' H' ∧ (S.hold p (.lst acc)).Ext (upd H1 p (.lst [])) H',
    ⟨ds.length, by simp, Nat.zero_le _, [], [], g1, h0 ds g1 hq, .nil, ⟨Sys.new hp j1, upd_same⟩, Sys.Ext.refl _⟩, ?_⟩
  rintro i m H' ⟨rfl, hil, acc, accD, g', hF, ht, j', e'⟩
  by_cases hlt : i < ds.length
  · have hx : ds[i]? = some ds[i] := List.getElem?_eq_getElem hlt
    obtain ⟨hgo1, hy⟩ := (wk2 (.lst acc)).go i H' g' _ e' j' hx
    refine .inr ⟨hgo1, fun H2 => ∃ acc accD g', F ds (i + 1) accD g' ∧ DtL X.K (S.hold p (.lst acc)) H2 acc accD ∧ (S.hold p (.lst acc)).J g' H2 ∧ (S.hold p (.lst acc)).Ext (upd H1 p (.lst [])) H2,
      fun H2 hN => ⟨ds.length - (i + 1), by omega, rfl, hlt, hN⟩, fun x H2 yl => ?_⟩
    obtain ⟨e2, j2, t2⟩ := hy x H2 yl
    obtain ⟨ρ2, R, hf2, turn⟩ := hs ds g1 i _ accD g' hq hx hF
    have r2 : Rep X.K (S.hold p (.lst acc)) H2 (wipe σ vs) (wipeE ρ vs) := ((((r.ext e1).plus hp).ext e').ext e2).wipe vs
    refine hgo (S.hold p (.lst acc)) x _ H2 _ _ ρ2 hf2 r2 t2 _ fun σ3 r3 hw => ⟨?_, ((p, .lst acc), g', ρ2, R, _, _), ⟨nM, turn⟩, r3, j2, fun k H3 g3 hR e3 j3 => ?_⟩
    · rw [hw vs fun _ h => h]
      refine List.ext_getElem? fun n => ?_
      by_cases hn : n ∈ vs
      · rw [wipe_in hn, wipe_in hn, wipe_length]
      · rw [wipe_keeps hn]
    · have e23 : (S.hold p (.lst acc)).Ext H' H3 := e2.trans e3
      cases k with
      | false => exact iteF ⟨acc, accD, g3, turn.no g3 hR, ht.ext e23, j3, e'.trans e23⟩
      | true =>
        refine iteT ⟨(((p, .lst acc), g', ρ2, R, _, _), g3), ⟨nM, turn, hR⟩, r3.ext e3, j3, fun y H4 dy g4 hy4 e4 j4 t4 => ?_⟩
        have e34 : (S.hold p (.lst acc)).Ext H' H4 := e23.trans e4
        refine ⟨acc, j4.2, ?_, acc ++ [y], accD ++ [dy], g4, hy4, ?_, hold_J nM j4, ?_⟩
        · rw [ht.length]
          exact hz ds i accD g' hF
        · exact (((ht.ext e34).append (.cons t4 .nil)).ext hold_turn).held
        · exact hold_same ((e'.trans e34).trans hold_turn)
  · have el : i = ds.length := by omega
    subst el
    refine .inl ⟨(wk2 _).stop _ H' g' e' j' (Nat.le_refl _), ?_⟩
    exact q (.ref p) H' (.lst accD) g' (hd ds g1 accD g' hq hF) (e1.trans (hold_ext hp e')) j'.1 (.lst j'.2 (fun z => nM (S.sub _ z)) ht.minus)
theorem ev_lc2 {gt : TG} {f : En → D → Option En} (F : List D → Nat → List D → G → Prop) (hc : X.calm = true) (hN : X.N.Nodup) (hi : ID X S g ρ tg iter Q') (ok : BlkOk X.N X.env.scope scope own)
    (hg : ∀ s H C cl fp, PG (Blk X scope s H C cl fp) tg gt) (hgo : ∀ S' : Sys G, TGok X.K S' gt f (own.map (·.2)))
    (h0 : ∀ ds g1, Q' ds g1 → F ds 0 [] g1)
    (hs : ∀ ds g0 i d acc g1, Q' ds g0 → ds[i]? = some d → F ds i acc g1 → ∃ ρ2 R, f (wipeE ρ (own.map (·.2))) d = some ρ2 ∧ LcTurn X S scope ifs elt g1 ρ2 R (fun z g3 => F ds (i + 1) (acc ++ [z]) g3) (fun g3 => F ds (i + 1) acc g3))
    (hd : ∀ ds g0 acc g1, Q' ds g0 → F ds ds.length acc g1 → P (.lst acc) g1) (hz : ∀ ds i acc g1, F ds i acc g1 → acc.length < sizeLine) (hf : ∀ x, foldedSetIterable iter X.env x = pure x := by intro _; rfl) :
    EV X S g ρ (.ListComp elt [⟨tg, iter, ifs, 0⟩] scope pos) P :=
  PE.of (pe_lc hc hN hi ok hg (tt := ttL X S scope ifs elt) (te := teL X S scope ifs elt) (fun s H C cl fp => PTs.any fun q hq => hq.2.test q.1.1 q.1.2 hq.1 s H C cl fp) (fun s H C cl fp => PE.any fun q hq => hq.2.1.yes q.2 hq.2.2 q.1.1.1 q.1.1.2 hq.1 s H C cl fp) hf)
    fun σ H Q h => lc_read F hgo h0 hs hd hz h
/-- y = [..] on one line -/
theorem sv_lc2 (y : Nat) {yn : Str} {py spos : Pos} {gt : TG} {f : En → D → Option En} (F : List D → Nat → List D → G → Prop) (hc : X.calm = true) (hN : X.N.Nodup) (hsw : swapsWith (.ListComp elt [⟨tg, iter, ifs, 0⟩] scope pos) (some (.Name yn py)) spos.line X.env = pure true) (hi : ID X S g ρ tg iter Q') (ok : BlkOk X.N X.env.scope scope own)
    (hg : ∀ s H C cl fp, PG (Blk X scope s H C cl fp) tg gt) (hgo : ∀ S' : Sys G, TGok X.K S' gt f (own.map (·.2)))
    (h0 : ∀ ds g1, Q' ds g1 → F ds 0 [] g1)
    (hs : ∀ ds g0 i d acc g1, Q' ds g0 → ds[i]? = some d → F ds i acc g1 → ∃ ρ2 R, f (wipeE ρ (own.map (·.2))) d = some ρ2 ∧ LcTurn X S scope ifs elt g1 ρ2 R (fun z g3 => F ds (i + 1) (acc ++ [z]) g3) (fun g3 => F ds (i + 1) acc g3))
    (hd : ∀ ds g0 acc g1, Q' ds g0 → F ds ds.length acc g1 → O.nx (ρ.set y (some (.lst acc))) g1) (hz : ∀ ds i acc g1, F ds i acc g1 → acc.length < sizeLine) (hy : X.N[y]? = some yn := by rfl) (hyl : X.env.scope.names.lookup yn = some .local := by rfl) (hf : ∀ x, foldedSetIterable iter X.env x = pure x := by intro _; rfl) :
    SV X S g ρ (.Assign [.Name yn py] (.ListComp elt [⟨tg, iter, ifs, 0⟩] scope pos) spos) O :=
  PS.of (ps_setLc hc hN hy hyl hsw hi ok hg (tt := ttL X S scope ifs elt) (te := teL X S scope ifs elt) (fun s H C cl fp => PTs.any fun q hq => hq.2.test q.1.1 q.1.2 hq.1 s H C cl fp) (fun s H C cl fp => PE.any fun q hq => hq.2.1.yes q.2 hq.2.2 q.1.1.1 q.1.1.2 hq.1 s H C cl fp) hf)
    fun E σ H ⟨r, j, q⟩ => lc_read (P := fun z g1 => ∃ acc, z = .lst acc ∧ O.nx (ρ.set y (some (.lst acc))) g1) F hgo h0 hs (fun ds g0 acc g1 hq hF => ⟨acc, rfl, hd ds g0 acc g1 hq hF⟩) hz ⟨r, j, fun v H' d g' ⟨acc, hacc, hO⟩ e' j' t' => by
      subst hacc
      exact q.nx _ H' _ g' hO e' j' ((r.ext e').set t')⟩
end
end WT
set_option Elab.async false
set_option linter.all false
set_option autoImplicit false
set_option maxRecDepth 100000
set_option maxHeartbeats 4000000
namespace WT
open PySem PySem.Spec PyProof.Rows L2
variable {G : Type}
/-! ### defs, where no repr is under way -/
structure RG (k : Nat) (A : Around) : Prop where
  room : Room k A
  gd : A.guards = some []
theorem RG.mono {j k : Nat} {A : Around} (r : RG k A) (h : j ≤ k) : RG j A := ⟨r.room.mono h, r.gd⟩
theorem RG.deeper {k : Nat} {A : Around} (r : RG (k + 1) A) (env : Env) : RG k (A.deeper env) := ⟨r.room.deeper env, r.gd⟩
structure FnG (P : Program) (w : World) (K : PySem.W.Frag) (mg : Str → Option Value) (base : Heap) (CX : CXT) (k : Nat) (f : Addr) (fd : FuncData) (ps : List Str) (sp : Sp) : Prop where
  len : ∀ vs H Q E, sp vs H Q E → vs.length = ps.length
  run : ∀ (A : Around) (outer : List Env) (s : Shared) (H : Hp) (args : Args) (us : List Value) (vs : List V) (Q : VK) (E : XK), RG k A → Env0 P w K mg base A outer s H →
    BindsTo s fd args (ps.zip us) → Vals vs us → sp vs H Q E → codeAny (model P w) A (.call (.ref f) args) (CR CX outer P w H s Q E) s
theorem FnG.of {P : Program} {w : World} {K : PySem.W.Frag} {mg : Str → Option Value} {base : Heap} {CX : CXT} {k : Nat} {f : Addr} {fd : FuncData} {ps : List Str} {sp : Sp} (F : FnOk P w K mg base CX k f fd ps sp) : FnG P w K mg base CX k f fd ps sp :=
  ⟨F.len, fun A outer s H args us vs Q E hr => F.run A outer s H args us vs Q E hr.room⟩
theorem FnG.mono {P : Program} {w : World} {K : PySem.W.Frag} {mg : Str → Option Value} {base : Heap} {CX : CXT} {j k : Nat} {f : Addr} {fd : FuncData} {ps : List Str} {sp : Sp} (F : FnG P w K mg base CX j f fd ps sp) (h : j ≤ k) : FnG P w K mg base CX k f fd ps sp :=
  ⟨F.len, fun A outer s H args us vs Q E hr => F.run A outer s H args us vs Q E (hr.mono h)⟩
theorem FnG.imp {P : Program} {w : World} {K : PySem.W.Frag} {mg : Str → Option Value} {base : Heap} {CX : CXT} {k : Nat} {f : Addr} {fd : FuncData} {ps : List Str} {sp sp' : Sp} (F : FnG P w K mg base CX k f fd ps sp) (h : ∀ vs H Q E, sp' vs H Q E → sp vs H Q E) : FnG P w K mg base CX k f fd ps sp' :=
  ⟨fun vs H Q E q => F.len vs H Q E (h vs H Q E q), fun A outer s H args us vs Q E hr e0 hb rv q => F.run A outer s H args us vs Q E hr e0 hb rv (h vs H Q E q)⟩
/-- the context of a body -/
abbrev CxB (CX : CXT) (P : Program) (w : World) (K : PySem.W.Frag) (mg : Str → Option Value) (base : Heap) (N : List Str) (qual : Str) (st : Stmt) (f : Addr) (cdv : Value) (A : Around) (outer : List Env) (s : Shared) (H : Hp) (E : XK) : Cx :=
  cxOf CX P w K mg base N qual (defScope st) f cdv A outer s H E
section
variable {P : Program} {w : World} {K : PySem.W.Frag} {mg : Str → Option Value} {base : Heap} {CX : CXT} {k : Nat} {f : Addr} {fd : FuncData} {N ps : List Str} {sp : Sp} {x qual : Str} {st : Stmt}
/-- from its body to its promise -/
theorem fnG_of (F : Fun K x qual st f fd) (S : FnScope N ps (defScope st)) (len : ∀ vs H Q E, sp vs H Q E → vs.length = ps.length)
    (hbody : ∀ (cdv : Value) (A : Around) (outer : List Env) (s : Shared) (H : Hp) (vs : List V) (Q : VK) (E : XK), RG k (A.deeper (envOfC qual (defScope st) s.heap.objs.size f cdv)) → sp vs H Q E →
      ∃ t, PSs (CxB CX P w K mg base N qual st f cdv A outer s H E) (defBody st) t ∧ t { nx := fun _ H' => Q .non H', rt := Q } (L2.start N vs) H) : FnG P w K mg base CX (k + 1) f fd ps sp := by
  obtain ⟨oc, od, kV, doc, pm, an, cdv, ct, osl, rfl, lk, hcd⟩ := F.ex
  refine ⟨len, fun A outer s H args us vs Q E hr e0 hb rv hsp => ?_⟩
  have keep0 : ∀ b o, base.get? b = some o → s.heap.get? b = some o := fun b o e => (e0.bs b o e).1
  have KX : K.In s.heap := e0.mod.kin.keeps keep0
  have hkind : ∀ y ∈ ps.zip us, (defScope st).names.lookup y.1 = some .local ∨
      ((defScope st).names.lookup y.1 = some .cell ∧ ((cellsFrom (s.heap.objs.size + 1) (defScope st).names []).lookup y.1).isSome = true) := by
    rintro ⟨n, v⟩ hy
    exact (S.par n (List.of_mem_zip hy).1).imp id fun q => ⟨q, PySem.W.cellsFrom_some _ _ _ (.inl q)⟩
  refine codeAny_call_function hr.room.depth (KX _ _ lk) rfl S.co S.gen rfl (PySem.W.codeRec_of KX hcd) (hb _ _ _ _ ?_)
  refine wpAny_newFunctionEnv_cells S.kind hkind fun env he s1 xc => ?_
  subst he
  refine ⟨(e0.mod.nolimit.keeps keep0).keeps xc.toInCall.keep, codeAny_func ?_⟩
  obtain ⟨t, ht, hq⟩ := hbody cdv A outer s H vs Q E (hr.deeper _) hsp
  have I := inv_start (CX := CX) (E := E) S hr.room.hd e0 (len _ _ _ _ hsp) rv xc
  refine wpAny_mono (ht.run [] s1 (L2.start N vs) H _ I hq) (fun fl s' hs => ?_) fun e s' hs => hs
  have fin : ∀ {σ' : L2.St} {H' : Hp} {v : V} {u : Value}, Inv (CxB CX P w K mg base N qual st f cdv A outer s H E) [] σ' H' s' → RelV v u → Q v H' → CE outer P w H s Q u s' := fun {σ' H' v u} J rv q =>
    ⟨v, H', J.os, J.bare, J.base, J.hok, rv, q⟩
  cases fl with
  | ret u => exact let ⟨v, σ', H', J, rv, q⟩ := hs; fin J rv q
  | next => exact let ⟨σ', H', J, q⟩ := hs; fin (v := V.non) (u := Value.none) J rfl q
  | brk => exact let ⟨_, _, _, q⟩ := hs; False.elim q
  | cont => exact let ⟨_, _, _, q⟩ := hs; False.elim q
/-- where a def of the module stands, how its arguments bind -/
structure FnAt (K : PySem.W.Frag) (mg : Str → Option Value) (x : Str) (ps : List Str) (f : Addr) (fd : FuncData) : Prop where
  mg : mg x = some (.ref f)
  kp : PySem.W.keepIn K (.ref f) = true
  bd : Binds K fd ps []
end
/-! ### a promise in data -/
def spD (K : PySem.W.Frag) (S : Sys G) (n : Nat) (pre : Ps G) (post : List D → G → Po G) : Sp := fun vs H Q _ =>
  vs.length = n ∧ ∃ ds g, DtL K S H vs ds ∧ S.J g H ∧ pre ds g ∧ ∀ v H' d g', post ds g d g' → S.Ext H H' → S.J g' H' → Dt K S H' v d → Q v H'
/-- the slots at the start -/
def startE (N : List Str) (ds : List D) : En := ds.map some ++ List.replicate (N.length - ds.length) none
theorem rep_start {K : PySem.W.Frag} {S : Sys G} {H : Hp} {N : List Str} {vs : List V} {ds : List D} (h : DtL K S H vs ds) : Rep K S H (L2.start N vs) (startE N ds) := by
  have hl := h.length
  refine ⟨by simp [L2.start, startE, hl], fun i d hd => ?_⟩
  unfold startE at hd
  by_cases hi : i < ds.length
  · rw [List.getElem?_append_left (by simpa using hi), List.getElem?_map] at hd
    cases e : ds[i]? with
    | none =>
      rw [e] at hd
      cases hd
    | some x =>
      rw [e] at hd
      cases hd
      obtain ⟨v, h1, h2⟩ := h.get e
      refine ⟨v, ?_, h2⟩
      unfold L2.start
      rw [List.getElem?_append_left (by rw [List.length_map, hl]; exact hi), List.getElem?_map, h1]
      rfl
  · rw [List.getElem?_append_right (by simpa using hi), List.getElem?_replicate] at hd
    split at hd <;> cases hd
section
variable {P : Program} {w : World} {K : PySem.W.Frag} {mg : Str → Option Value} {base : Heap} {k : Nat} {f : Addr} {fd : FuncData} {N ps : List Str} {x qual : Str} {st : Stmt} {S : Sys G} {pre : Ps G} {post : List D → G → Po G}
abbrev CxN (P : Program) (w : World) (K : PySem.W.Frag) (mg : Str → Option Value) (base : Heap) (N : List Str) (qual : Str) (st : Stmt) (f : Addr) (cdv : Value) (A : Around) (outer : List Env) (s : Shared) (H : Hp) (E : XK) : Cx :=
  (CxB CX0 P w K mg base N qual st f cdv A outer s H E).nox
theorem fn_ev (F : Fun K x qual st f fd) (Sc : FnScope N ps (defScope st))
    (hbody : ∀ (cdv : Value) (A : Around) (outer : List Env) (s : Shared) (H : Hp) (E : XK), RG k (A.deeper (envOfC qual (defScope st) s.heap.objs.size f cdv)) → ∀ ds g, ds.length = ps.length → pre ds g →
      SVs (CxN P w K mg base N qual st f cdv A outer s H E) S g (startE N ds) (defBody st) { nx := fun _ g' => post ds g .non g', rt := post ds g }) : FnG P w K mg base CX0 (k + 1) f fd ps (spD K S ps.length pre post) := by
  refine fnG_of F Sc (fun vs H Q E h => h.1) fun cdv A outer s H vs Q E hr h => ?_
  obtain ⟨hl, ds, g, t, j, hp, q⟩ := h
  refine ⟨_, PSs.nox (hbody cdv A outer s H E hr ds g (by rw [← t.length]; exact hl) hp), rep_start t, j, ?_⟩
  exact ⟨fun s' H' r' g' p e' j' _ => q .non H' .non g' p e' j' .non, fun v H' d g' p e' j' t' => q v H' d g' p e' j' t', fun _ _ _ _ p => p.elim, fun _ _ _ _ p => p.elim⟩
end
section
variable {X : Cx} {CX : CXT} {k : Nat} {f : Addr} {fd : FuncData} {ps : List Str} {sp : Sp} {E : XK} {S : Sys G} {g : G} {ρ : En} {P : Po G} {Q' : Ps G} {pre : Ps G} {post : List D → G → Po G} {e : Expr} {es : List Expr} {x : Str} {p pos : Pos}
theorem run_fnG {pins : List (Addr × Obj)} {σ : L2.St} {H : Hp} {s : Shared} {Q : VK} {us : List Value} {vs : List V} (F : FnG X.prog X.w X.K X.mg X.base CX k f fd ps sp) (hr : RG k X.A) (hb : Binds X.K fd ps []) (hx : Passes CX X E) (I : Inv X pins σ H s) (rv : Vals vs us) (h : sp vs H Q E) :
    wpAny (model X.prog X.w) X.A (call (.ref f) us) (EP X pins σ Q) X.xe s := by
  have hl : us.length = ps.length := rv.length.symm.trans (F.len _ _ _ _ h)
  have bd := hb s us I.kIn (by rw [List.append_nil]; exact hl)
  rw [List.append_nil] at bd
  refine wpAny_call (codeAny_mono (F.run X.A X.stack s H ⟨us, []⟩ us vs Q E hr I.env0 bd rv h) fun r s' hq => ?_)
  cases r with
  | error err => exact hx pins σ H s err s' I hq
  | ok fl =>
    cases fl with
    | ret u => exact I.after hq
    | next => exact hq.elim
    | brk => exact hq.elim
    | cont => exact hq.elim
theorem callR_fn (F : FnG X.prog X.w X.K X.mg X.base CX k f fd ps sp) (hr : RG k X.A) (hb : Binds X.K fd ps []) (hx : Passes CX X E) : CallR X (.ref f) (fun vs H Q => sp vs H Q E) :=
  fun _ _ _ _ _ _ _ I rv h => run_fnG F hr hb hx I rv h
/-- f(e, ..) by what f is, as a value -/
theorem pe_callV {r : List V → Hp → VK → Prop} {t : TA} (hc : CallR X (.ref f) r) (hm : X.mg x = some (.ref f)) (hk : PySem.W.keepIn X.K (.ref f) = true) (ha : PA X (e :: es) t) (hg : Gl X x := by rfl) (hdb : (x == ("__debug__" : Str)) = false := by decide)
    (he : starEach (e :: es) X.env = (false, eval e X.env) :: starEach es X.env := by rfl) (hpl : (backTo pos (starEach es X.env)).any (·.1) = false := by rfl) : PE X (.Call (.Name x p) (e :: es) [] pos) (tCB r t) :=
  ⟨fun pins s σ H Q I h => wpAny_Call_Name_kw (ld_glob I hg hm (PySem.W.callWith_K (h₀ := X.base) I.ok.mod.kin hk (thn (ha.run pos pins s σ H _ I h) fun us s1 ⟨vs, H1, I1, r1, q1⟩ => ⟨I1.kIn, hc pins s1 σ H1 vs us Q I1 r1 q1⟩) he hpl) hdb)⟩
theorem pe_callV0 {r : List V → Hp → VK → Prop} (hc : CallR X (.ref f) r) (hm : X.mg x = some (.ref f)) (hk : PySem.W.keepIn X.K (.ref f) = true) (hg : Gl X x := by rfl) (hdb : (x == ("__debug__" : Str)) = false := by decide) : PE X (.Call (.Name x p) [] [] pos) (tCB r tNil) :=
  ⟨fun pins s σ H Q I h => wpAny_Call_Name_kw (ld_glob I hg hm (PySem.W.callWith_K0 I.kIn hk (hc pins s σ H [] [] Q I .nil h)) hdb)⟩
/-- f(e, ..), f a def whose promise is in data -/
theorem ev_call2 (A : FnAt X.K X.mg x ps f fd) (F : FnG X.prog X.w X.K X.mg X.base CX0 k f fd ps (spD X.K S ps.length pre post)) (hr : RG k X.A) (ha : EA X S g ρ (e :: es) Q') (w : ∀ ds g1, Q' ds g1 → ds.length = ps.length ∧ pre ds g1 ∧ ∀ d g', post ds g1 d g' → P d g')
    (hg : Gl X x := by rfl) (hdb : (x == ("__debug__" : Str)) = false := by decide) (he : starEach (e :: es) X.env = (false, eval e X.env) :: starEach es X.env := by rfl) (hpl : (backTo pos (starEach es X.env)).any (·.1) = false := by rfl) : EV X S g ρ (.Call (.Name x p) (e :: es) [] pos) P :=
  PE.of (pe_callV (callR_fn F hr A.bd pass0) A.mg A.kp ha hg hdb he hpl) fun σ H Q ⟨r, j, q⟩ => ⟨r, j, fun vs H1 ds g1 p1 e1 j1 t1 => by
    obtain ⟨hl, hpre, hpost⟩ := w ds g1 p1
    exact ⟨by rw [t1.length]; exact hl, ds, g1, t1, j1, hpre, fun v H' d g' hq e' j' t' => q v H' d g' (hpost d g' hq) (e1.trans e') j' t'⟩⟩
/-- .. all arguments known -/
theorem ev_call {ds : List D} (A : FnAt X.K X.mg x ps f fd) (F : FnG X.prog X.w X.K X.mg X.base CX0 k f fd ps (spD X.K S ps.length pre post)) (hr : RG k X.A) (ha : EAd X S g ρ (e :: es) ds) (hl : ds.length = ps.length) (hp : pre ds g) (w : ∀ d g', post ds g d g' → P d g')
    (hg : Gl X x := by rfl) (hdb : (x == ("__debug__" : Str)) = false := by decide) (he : starEach (e :: es) X.env = (false, eval e X.env) :: starEach es X.env := by rfl) (hpl : (backTo pos (starEach es X.env)).any (·.1) = false := by rfl) : EV X S g ρ (.Call (.Name x p) (e :: es) [] pos) P :=
  ev_call2 A F hr ha (fun _ _ ⟨h1, h2⟩ => by subst h1 h2; exact ⟨hl, hp, w⟩) hg hdb he hpl
end
end WT
set_option Elab.async false
set_option linter.all false
set_option autoImplicit false
set_option maxRecDepth 100000
set_option maxHeartbeats 4000000
namespace WT
open PySem PyProof.Rows
/-! ### repr of data: only a dict must not be the module list -/
mutual
inductive RdN (h : Heap) : Value → PyData → Prop
  | non : RdN h .none .none
  | bl (b : Bool) : RdN h (.bool b) (.bool b)
  | int (i : Int) (t : Tok) : RdN h (.int i t) (.int i)
  | str (x : Str) (t : Tok) : RdN h (.str x t) (.str x)
  | lst {a : Addr} {o : Obj} {vs : Array Value} {n : Nat} {xs : List PyData} (h1 : h.get? a = some o) (h2 : o.cls = .type "list") (h3 : o.data = .seq vs n) (h4 : RdNs h vs.toList xs) : RdN h (.ref a) (.list xs)
  | tup {a : Addr} {o : Obj} {vs : Array Value} {n : Nat} {xs : List PyData} (h1 : h.get? a = some o) (h2 : o.cls = .type "tuple") (h3 : o.data = .seq vs n) (h4 : RdNs h vs.toList xs) : RdN h (.ref a) (.tuple xs)
  | dct {a : Addr} {o : Obj} {es : Array DictEntry} {n : Nat} {kvs : List (PyData × PyData)} (h1 : h.get? a = some o) (h2 : o.cls = .type "dict") (h3 : o.data = .dict es n) (h4 : RdNs h (es.toList.map (·.key)) (kvs.map (·.1))) (h5 : RdNs h (es.toList.map (·.val)) (kvs.map (·.2))) (h6 : (a == sysModules) = false) : RdN h (.ref a) (.dict kvs)
inductive RdNs (h : Heap) : List Value → List PyData → Prop
  | nil : RdNs h [] []
  | cons {v : Value} {vs : List Value} {d : PyData} {ds : List PyData} (r : RdN h v d) (rs : RdNs h vs ds) : RdNs h (v :: vs) (d :: ds)
end
section
variable {h : Heap}
mutual
theorem RdN.of : ∀ {v : Value} {d : PyData} {as : List Addr}, Reads h v d as → (∀ a ∈ as, (∃ o vs n, h.get? a = some o ∧ o.data = .seq vs n) ∨ (a == sysModules) = false) → RdN h v d
  | _, _, _, .none, _ => .non
  | _, _, _, .bool b, _ => .bl b
  | _, _, _, .int i t, _ => .int i t
  | _, _, _, .str x t, _ => .str x t
  | _, _, _, .list h1 h2 h3 h4, c => .lst h1 h2 h3 (RdNs.of h4 fun b hb => c b (List.mem_cons_of_mem _ hb))
  | _, _, _, .tuple h1 h2 h3 h4, c => .tup h1 h2 h3 (RdNs.of h4 c)
  | _, _, _, .dict (a := a) h1 h2 h3 h4 h5, c => .dct h1 h2 h3 (RdNs.of h4 fun b hb => c b (List.mem_append_left _ (List.mem_cons_of_mem _ hb))) (RdNs.of h5 fun b hb => c b (List.mem_append_right _ hb)) (by
      rcases c a (List.mem_append_left _ List.mem_cons_self) with ⟨o, vs, n, e1, e2⟩ | q
      · rw [h1] at e1
        cases e1
        rw [h3] at e2
        cases e2
      · exact q)
theorem RdNs.of : ∀ {v : List Value} {d : List PyData} {as : List Addr}, ReadsAll h v d as → (∀ a ∈ as, (∃ o vs n, h.get? a = some o ∧ o.data = .seq vs n) ∨ (a == sysModules) = false) → RdNs h v d
  | _, _, _, .nil, _ => .nil
  | _, _, _, .cons r rs, c => .cons (RdN.of r fun b hb => c b (List.mem_append_left _ hb)) (RdNs.of rs fun b hb => c b (List.mem_append_right _ hb))
end
mutual
theorem RdN.to : ∀ {v : Value} {d : PyData}, RdN h v d → ∃ as, Reads h v d as
  | _, _, .non => ⟨_, .none⟩
  | _, _, .bl b => ⟨_, .bool b⟩
  | _, _, .int i t => ⟨_, .int i t⟩
  | _, _, .str x t => ⟨_, .str x t⟩
  | _, _, .lst h1 h2 h3 h4 => let ⟨_, q⟩ := RdNs.to h4; ⟨_, .list h1 h2 h3 q⟩
  | _, _, .tup h1 h2 h3 h4 => let ⟨_, q⟩ := RdNs.to h4; ⟨_, .tuple h1 h2 h3 q⟩
  | _, _, .dct h1 h2 h3 h4 h5 _ => let ⟨_, q⟩ := RdNs.to h4; let ⟨_, q'⟩ := RdNs.to h5; ⟨_, .dict h1 h2 h3 q q'⟩
theorem RdNs.to : ∀ {v : List Value} {d : List PyData}, RdNs h v d → ∃ as, ReadsAll h v d as
  | _, _, .nil => ⟨_, .nil⟩
  | _, _, .cons r rs => let ⟨_, q⟩ := RdN.to r; let ⟨_, q'⟩ := RdNs.to rs; ⟨_, .cons q q'⟩
end
variable {prog : Program} {w : World}
mutual
/-- shown within other data -/
theorem RdN.under : ∀ {v : Value} {d : PyData}, RdN h v d → d.showable = true → d.shown.length ≤ sizeLine → ∃ bs, ReadAtMost h d.depth bs ∧ ReprK prog w bs h d.depth v d.shown
  | _, _, .non, _, _ => ⟨[], (fun _ z => nomatch z), by rw [PyData.shown]; exact .of_is ReprIs.none _ _ _⟩
  | _, _, .bl b, _, _ => ⟨[], (fun _ z => nomatch z), by rw [PyData.shown]; exact .of_is (ReprIs.bool b) _ _ _⟩
  | _, _, .int i t, s, _ => ⟨[], (fun _ z => nomatch z), by rw [PyData.shown]; exact .of_is (ReprIs.int t (by simpa [PyData.showable] using s)) _ _ _⟩
  | _, _, .str x t, _, z => ⟨[], (fun _ z => nomatch z), by rw [PyData.shown] at z ⊢; exact .of_is (ReprIs.str x t z) _ _ _⟩
  | _, _, .lst (a := a) (vs := vs) (xs := xs) h1 h2 h3 h4, s, z => by
    rw [PyData.shown] at z
    obtain ⟨bs, m, k⟩ := RdNs.under h4 (by simpa [PyData.showable] using s) fun t ht => Nat.le_trans (listText_mem_le ht) z
    obtain ⟨as, q⟩ := RdNs.to h4
    have r : Reads h (.ref a) (.list xs) _ := .list h1 h2 h3 q
    have na := not_mem_of_deeper r (by simp only [PyData.depth]; omega) m
    refine ⟨a :: bs, .cons r (by simp only [PyData.depth]; omega) m, ?_⟩
    rw [PyData.depth, PyData.shown]
    obtain ⟨l⟩ := vs
    cases l with
    | nil =>
      cases (show RdNs h [] xs from h4)
      rw [PyData.shownAll, listText_nil]
      exact ReprK.listEmpty h1 h2 h3
    | cons y l => exact ReprK.list h1 h2 h3 na (by simpa using k.length_eq) fun i u e => k.item i u (by simpa using e)
  | _, _, .tup (a := a) (vs := vs) (xs := xs) h1 h2 h3 h4, s, z => by
    rw [PyData.shown] at z
    obtain ⟨bs, m, k⟩ := RdNs.under h4 (by simpa [PyData.showable] using s) fun t ht => Nat.le_trans (tupleText_mem_le ht) z
    obtain ⟨as, q⟩ := RdNs.to h4
    have r : Reads h (.ref a) (.tuple xs) _ := .tuple h1 h2 h3 q
    refine ⟨a :: bs, .cons r (by simp only [PyData.depth]; omega) m, ?_⟩
    rw [PyData.depth, PyData.shown]
    exact ReprK.tuple h1 h2 h3 (not_mem_of_deeper r (by simp only [PyData.depth]; omega) m) k
  | _, _, .dct (a := a) (es := es) (kvs := kvs) h1 h2 h3 h4 h5 h6, s, z => by
    rw [PyData.shown] at z
    obtain ⟨s1, s2⟩ := PyData.showableKv_split kvs (by simpa [PyData.showable] using s)
    obtain ⟨b1, m1, k1⟩ := RdNs.under h4 s1 fun t ht => by
      obtain ⟨p, hp, hl⟩ := PyData.shownKv_key_le kvs t ht
      exact Nat.le_trans hl (Nat.le_trans (dictText_mem_le hp) z)
    obtain ⟨b2, m2, k2⟩ := RdNs.under h5 s2 fun t ht => by
      obtain ⟨p, hp, hl⟩ := PyData.shownKv_val_le kvs t ht
      exact Nat.le_trans hl (Nat.le_trans (dictText_mem_le hp) z)
    obtain ⟨as1, q1⟩ := RdNs.to h4
    obtain ⟨as2, q2⟩ := RdNs.to h5
    have r : Reads h (.ref a) (.dict kvs) _ := .dict h1 h2 h3 q1 q2
    have m : ReadAtMost h (PyData.depthKv kvs) (b1 ++ b2) := (m1.mono (PyData.depthAll_keys_le kvs)).append (m2.mono (PyData.depthAll_vals_le kvs))
    refine ⟨a :: (b1 ++ b2), .cons r (by simp only [PyData.depth]; omega) m, ?_⟩
    rw [PyData.depth, PyData.shown, PyData.shownKv_eq]
    exact ReprK.dict h1 h2 h3 h6 (not_mem_of_deeper r (by simp only [PyData.depth]; omega) m) (.of_two es.toList _ _ (k1.more_le (fun _ => List.mem_append_left _) (PyData.depthAll_keys_le kvs)) (k2.more_le (fun _ => List.mem_append_right _) (PyData.depthAll_vals_le kvs)))
theorem RdNs.under : ∀ {v : List Value} {d : List PyData}, RdNs h v d → PyData.showableAll d = true → (∀ t ∈ PyData.shownAll d, t.length ≤ sizeLine) → ∃ bs, ReadAtMost h (PyData.depthAll d) bs ∧ ReprAllK prog w bs h (PyData.depthAll d) v (PyData.shownAll d)
  | _, _, .nil, _, _ => ⟨[], (fun _ z => nomatch z), by rw [PyData.shownAll]; exact .nil⟩
  | _, _, .cons (d := d) (ds := ds) r rs, s, z => by
    have s' : d.showable = true ∧ PyData.showableAll ds = true := by simpa [PyData.showableAll] using s
    rw [PyData.shownAll] at z
    obtain ⟨b1, m1, k1⟩ := RdN.under r s'.1 (z _ List.mem_cons_self)
    obtain ⟨b2, m2, k2⟩ := RdNs.under rs s'.2 fun t ht => z t (List.mem_cons_of_mem _ ht)
    refine ⟨b1 ++ b2, (m1.mono ?_).append (m2.mono ?_), ?_⟩
    · rw [PyData.depthAll]
      exact Nat.le_max_left _ _
    · rw [PyData.depthAll]
      exact Nat.le_max_right _ _
    · rw [PyData.depthAll, PyData.shownAll]
      exact .cons ((k1.more fun _ => List.mem_append_left _).level_le (Nat.le_max_left _ _)) (k2.more_le (fun _ => List.mem_append_right _) (Nat.le_max_right _ _))
end
/-- repr(x), x a list, a tuple, a dict -/
theorem repr_N {A : Around} {E : Value → Shared → Prop} {s : Shared} {Q : Value → Shared → Prop} {a : Addr} {d : PyData} (r : RdN s.heap (.ref a) d) (hs : d.showable = true) (hg : A.guards = some []) (hu : A.units + (d.depth + 1) < cLine) (hsz : d.shown.length ≤ sizeLine)
    (hQ : ∀ h' u tk, (∀ b o, s.heap.get? b = some o → h'.get? b = some o) → Q (.str d.shown u) { s with heap := h', toks := tk }) : wpAny (model prog w) A (call (.builtin "repr") [.ref a]) Q E s := by
  obtain ⟨as, rd⟩ := RdN.to r
  have hu1 : A.in1.units + d.depth < cLine := by
    show A.units + 1 + d.depth < cLine
    omega
  cases r with
  | @lst _ o vs n xs h1 h2 h3 h4 =>
    rw [PyData.shown] at hsz
    obtain ⟨bs, m, k⟩ := RdNs.under (prog := prog) (w := w) h4 (by simpa [PyData.showable] using hs) fun t ht => Nat.le_trans (listText_mem_le ht) hsz
    have na := not_mem_of_deeper rd (by simp only [PyData.depth]; omega) m
    rw [PyData.depth] at hu1
    rw [PyData.shown] at hQ
    refine call_repr_slot (by omega) ⟨o, h1, h2⟩ F.slot_list_repr.toG ?_
    obtain ⟨l⟩ := vs
    cases l with
    | nil =>
      cases (show RdNs s.heap [] xs from h4)
      rw [PyData.shownAll, listText_nil] at hQ
      exact call_list_repr_empty ⟨o, h1, h2⟩ h1 h3 ⟨_, _, rfl, hQ s.heap _ _ fun _ _ e => e⟩
    | cons y l => exact call_list_reprK h1 h2 h3 na (by simpa using k.length_eq) (fun i u e => k.item i u (by simpa using e)) hg (fun b _ => Clear.nil b) hu1 (fun _ _ e => e) (fun h' u tk hk => ⟨_, _, rfl, hQ h' u tk hk⟩) hsz
  | @tup _ o vs n xs h1 h2 h3 h4 =>
    rw [PyData.shown] at hsz
    obtain ⟨bs, m, k⟩ := RdNs.under (prog := prog) (w := w) h4 (by simpa [PyData.showable] using hs) fun t ht => Nat.le_trans (tupleText_mem_le ht) hsz
    have na := not_mem_of_deeper rd (by simp only [PyData.depth]; omega) m
    rw [PyData.depth] at hu1
    rw [PyData.shown] at hQ
    exact call_repr_slot (by omega) ⟨o, h1, h2⟩ F.slot_tuple_repr (call_tuple_reprK h1 h2 h3 na k hg (fun b _ => Clear.nil b) hu1 (fun _ _ e => e) (fun h' u tk hk => ⟨_, _, rfl, hQ h' u tk hk⟩) hsz)
  | @dct _ o es n kvs h1 h2 h3 h4 h5 h6 =>
    rw [PyData.shown] at hsz
    obtain ⟨s1, s2⟩ := PyData.showableKv_split kvs (by simpa [PyData.showable] using hs)
    obtain ⟨b1, m1, k1⟩ := RdNs.under (prog := prog) (w := w) h4 s1 fun t ht => by
      obtain ⟨p, hp, hl⟩ := PyData.shownKv_key_le kvs t ht
      exact Nat.le_trans hl (Nat.le_trans (dictText_mem_le hp) hsz)
    obtain ⟨b2, m2, k2⟩ := RdNs.under (prog := prog) (w := w) h5 s2 fun t ht => by
      obtain ⟨p, hp, hl⟩ := PyData.shownKv_val_le kvs t ht
      exact Nat.le_trans hl (Nat.le_trans (dictText_mem_le hp) hsz)
    have m : ReadAtMost s.heap (PyData.depthKv kvs) (b1 ++ b2) := (m1.mono (PyData.depthAll_keys_le kvs)).append (m2.mono (PyData.depthAll_vals_le kvs))
    have na := not_mem_of_deeper rd (by simp only [PyData.depth]; omega) m
    rw [PyData.depth] at hu1
    rw [PyData.shown, PyData.shownKv_eq] at hQ
    exact call_repr_slot (by omega) ⟨o, h1, h2⟩ F.slot_dict_repr (call_dict_reprK h1 h2 h3 h6 na (.of_two es.toList _ _ (k1.more_le (fun _ => List.mem_append_left _) (PyData.depthAll_keys_le kvs)) (k2.more_le (fun _ => List.mem_append_right _) (PyData.depthAll_vals_le kvs))) hg (fun b _ => Clear.nil b) hu1 (fun _ _ e => e) (fun h' u tk hk => ⟨_, _, rfl, hQ h' u tk hk⟩) (by rw [← PyData.shownKv_eq]; exact hsz))
end
end WT
set_option Elab.async false
set_option linter.all false
set_option autoImplicit false
set_option maxRecDepth 100000
set_option maxHeartbeats 4000000
namespace WT
open PySem PySem.Spec PyProof.Rows L2
variable {G : Type}
/-! ### data as the library's own data -/
def keyP : Key → PyData
  | .inl i => .int i
  | .inr y => .str y
mutual
def D.pd : D → Option PyData
  | .non => some .none
  | .bl b => some (.bool b)
  | .int i => some (.int i)
  | .str x => some (.str x)
  | .tup xs => (D.pdL xs).map .tuple
  | .lst xs => (D.pdL xs).map .list
  | .dct kvs => (D.pdK kvs).map .dict
  | .fz _ => none
  | .obj _ _ => none
  | .ref _ => none
  | .ty _ => none
  | .err _ _ => none
  | .err0 _ => none
  | .exn _ _ _ => none
def D.pdL : List D → Option (List PyData)
  | [] => some []
  | x :: xs => match D.pd x, D.pdL xs with
    | some p, some ps => some (p :: ps)
    | _, _ => none
def D.pdK : List (Key × D) → Option (List (PyData × PyData))
  | [] => some []
  | (k, x) :: xs => match D.pd x, D.pdK xs with
    | some p, some ps => some ((keyP k, p) :: ps)
    | _, _ => none
end
theorem pdL_cons {x : D} {xs : List D} {ps : List PyData} (h : D.pdL (x :: xs) = some ps) : ∃ p r, D.pd x = some p ∧ D.pdL xs = some r ∧ ps = p :: r := by
  unfold D.pdL at h
  split at h
  · rename_i p r h1 h2
    exact ⟨p, r, h1, h2, (Option.some.inj h).symm⟩
  · cases h
theorem pdK_cons {k : Key} {x : D} {xs : List (Key × D)} {ps : List (PyData × PyData)} (h : D.pdK ((k, x) :: xs) = some ps) : ∃ p r, D.pd x = some p ∧ D.pdK xs = some r ∧ ps = (keyP k, p) :: r := by
  unfold D.pdK at h
  split at h
  · rename_i p r h1 h2
    exact ⟨p, r, h1, h2, (Option.some.inj h).symm⟩
  · cases h
/-- what is read off the heap: lists' and dicts' addresses are tracked ones -/
def Tr (H : Hp) (as : List Addr) : Prop := ∀ a ∈ as, (∃ xs, H a = some (.lst xs)) ∨ (a == sysModules) = false
section
variable {X : Cx} {pins : List (Addr × Obj)} {σ : L2.St} {H : Hp} {s : Shared} {S : Sys G}
mutual
theorem Dt.reads (I : Inv X pins σ H s) : ∀ {v : V} {d : D} {u : Value} {p : PyData}, Dt X.K S H v d → D.pd d = some p → RelV v u → ∃ as, Reads s.heap u p as ∧ Tr H as
  | _, _, _, _, .non, h, r => by
    unfold D.pd at h
    cases h
    cases r
    exact ⟨_, Reads.none, fun _ z => nomatch z⟩
  | _, _, _, _, .bl b, h, r => by
    unfold D.pd at h
    cases h
    cases r
    exact ⟨_, Reads.bool b, fun _ z => nomatch z⟩
  | _, _, _, _, .int i, h, r => by
    unfold D.pd at h
    cases h
    obtain ⟨t, rfl⟩ := r
    exact ⟨_, Reads.int i t, fun _ z => nomatch z⟩
  | _, _, _, _, .str x, h, r => by
    unfold D.pd at h
    cases h
    obtain ⟨t, rfl⟩ := r
    exact ⟨_, Reads.str x t, fun _ z => nomatch z⟩
  | _, _, _, _, .lst (ds := ds) ha _ hl, h, r => by
    unfold D.pd at h
    cases e : D.pdL ds with
    | none =>
      rw [e] at h
      cases h
    | some ps =>
      rw [e] at h
      cases h
      cases r
      obtain ⟨its, rv, ⟨o, n, ho, hc, _, hd⟩, _⟩ := I.list (SqL.of ha)
      obtain ⟨as, hr, ht⟩ := DtL.reads I hl e rv
      refine ⟨_, Reads.list ho hc hd hr, fun b hb => ?_⟩
      rcases List.mem_cons.mp hb with rfl | hb
      · exact .inl ⟨_, ha⟩
      · exact ht b hb
  | _, _, _, _, .tup (ds := ds) ha hl, h, r => by
    unfold D.pd at h
    cases e : D.pdL ds with
    | none =>
      rw [e] at h
      cases h
    | some ps =>
      rw [e] at h
      cases h
      cases r
      obtain ⟨its, rv, ⟨o, ho, hc, n, hd⟩, _⟩ := I.tuple ha.sq
      obtain ⟨as, hr, ht⟩ := DtL.reads I hl e rv
      exact ⟨_, Reads.tuple ho hc hd hr, ht⟩
  | _, _, _, _, .dct (a := a) (xs := xs) (ds := ds) ha _ hl, h, r => by
    unfold D.pd at h
    cases e : D.pdK ds with
    | none =>
      rw [e] at h
      cases h
    | some ps =>
      rw [e] at h
      cases h
      cases r
      obtain ⟨z, y, vs, kv, hdict⟩ := I.hok a _ ha
      obtain ⟨o, es, ep, ho, hx, hd, hes⟩ := hdict
      obtain ⟨as, k1, k2, k3⟩ := DtK.reads I hl e kv hes.2.1
      refine ⟨_, Reads.dict ho hx.1 hd k1 k2, fun b hb => ?_⟩
      rcases List.mem_append.mp hb with hb | hb
      · rcases List.mem_cons.mp hb with rfl | hb
        · exact .inr y
        · cases hb
      · exact k3 b hb
  | _, _, _, _, .fz _ _, h, _ => by unfold D.pd at h; cases h
  | _, _, _, _, .obj _ _ _, h, _ => by unfold D.pd at h; cases h
  | _, _, _, _, .ref _, h, _ => by unfold D.pd at h; cases h
  | _, _, _, _, .ty _, h, _ => by unfold D.pd at h; cases h
  | _, _, _, _, .err _ _ _ _ _, h, _ => by unfold D.pd at h; cases h
  | _, _, _, _, .err0 _ _, h, _ => by unfold D.pd at h; cases h
  | _, _, _, _, .exn _ _ _, h, _ => by unfold D.pd at h; cases h
theorem DtL.reads (I : Inv X pins σ H s) : ∀ {v : List V} {d : List D} {u : List Value} {p : List PyData}, DtL X.K S H v d → D.pdL d = some p → Vals v u → ∃ as, ReadsAll s.heap u p as ∧ Tr H as
  | _, _, _, _, .nil, h, r => by
    unfold D.pdL at h
    cases h
    cases r
    exact ⟨_, ReadsAll.nil, fun _ z => nomatch z⟩
  | _, _, _, _, .cons ha hl, h, r => by
    obtain ⟨p, q, h1, h2, rfl⟩ := pdL_cons h
    cases r with
    | cons r1 r2 =>
      obtain ⟨as, q1, t1⟩ := Dt.reads I ha h1 r1
      obtain ⟨bs, q2, t2⟩ := DtL.reads I hl h2 r2
      exact ⟨_, ReadsAll.cons q1 q2, fun b hb => (List.mem_append.mp hb).elim (t1 b) (t2 b)⟩
theorem DtK.reads (I : Inv X pins σ H s) : ∀ {v : List (Key × V)} {d : List (Key × D)} {u : List (Key × Value)} {es : List DictEntry} {p : List (PyData × PyData)}, DtK X.K S H v d → D.pdK d = some p → KV v u → Pairs (mixKind X.prog X.w) es u →
    ∃ as, ReadsAll s.heap (es.map (·.key)) (p.map (·.1)) [] ∧ ReadsAll s.heap (es.map (·.val)) (p.map (·.2)) as ∧ Tr H as
  | _, _, _, _, _, .nil, h, r, q => by
    unfold D.pdK at h
    cases h
    cases r
    cases q
    exact ⟨_, ReadsAll.nil, ReadsAll.nil, fun _ z => nomatch z⟩
  | _, _, _, _, _, .cons ha hl, h, r, q => by
    obtain ⟨p, w, h1, h2, rfl⟩ := pdK_cons h
    cases r with
    | cons r1 r2 =>
      cases q with
      | cons q1 q2 =>
        rename_i es en
        obtain ⟨as, a1, a2⟩ := Dt.reads I ha h1 r1.2
        obtain ⟨bs, b1, b2, b3⟩ := DtK.reads I hl h2 r2 (by assumption)
        refine ⟨as ++ bs, ?_, ?_, fun b hb => (List.mem_append.mp hb).elim (a2 b) (b3 b)⟩
        · have q1' : keyIs _ _ = true := q1
          rw [← r1.1] at q1'
          rw [List.map_cons, List.map_cons]
          rcases keyIs_shape q1' with ⟨i, t, e1, e2⟩ | ⟨y, t, e1, e2⟩
          · have e1' := e1
            simp only at e1'
            subst e1'
            rw [e2]
            exact ReadsAll.cons (Reads.int i t) b1
          · have e1' := e1
            simp only at e1'
            subst e1'
            rw [e2]
            exact ReadsAll.cons (Reads.str y t) b1
        · rw [List.map_cons, List.map_cons, q2]
          exact ReadsAll.cons a1 b2
end
/-! ### == of data -/
/-- the data are equal, as == says -/
def eqD (d1 d2 : D) : Bool := match D.pd d1, D.pd d2 with
  | some p, some q => PyData.eqv p q
  | _, _ => false
/-- such data may be compared -/
def cmpOk (d : D) : Prop := ∃ p, D.pd d = some p ∧ SeqAt.shaped p = true
variable {g : G} {P : Po G} {d d1 d2 : D}
theorem opD_eq (hu : X.A.units + 64 < cLine) (h1 : cmpOk d1) (h2 : cmpOk d2) : OpD X S g (compareOp .Eq) d1 d2 (Is g (.bl (eqD d1 d2))) := by
  obtain ⟨p, hp, sp⟩ := h1
  obtain ⟨q, hq, sq⟩ := h2
  intro pins s σ H x y v u I rx ry j t1 t2
  obtain ⟨as, r1, _⟩ := Dt.reads I t1 hp rx
  obtain ⟨bs, r2, _⟩ := Dt.reads I t2 hq ry
  refine SeqAt.compareEq_shaped r1 r2 sp sq hu ⟨.bl (eqD d1 d2), H, I, ?_, good_same j (.bl _) ⟨rfl, rfl⟩⟩
  unfold eqD
  rw [hp, hq]
  rfl
theorem opD_ne (hu : X.A.units + 64 < cLine) (h1 : cmpOk d1) (h2 : cmpOk d2) : OpD X S g (compareOp .NotEq) d1 d2 (Is g (.bl (!eqD d1 d2))) := by
  obtain ⟨p, hp, sp⟩ := h1
  obtain ⟨q, hq, sq⟩ := h2
  intro pins s σ H x y v u I rx ry j t1 t2
  obtain ⟨as, r1, _⟩ := Dt.reads I t1 hp rx
  obtain ⟨bs, r2, _⟩ := Dt.reads I t2 hq ry
  refine SeqAt.compareNe_shaped r1 r2 sp sq hu ⟨.bl (!eqD d1 d2), H, I, ?_, good_same j (.bl _) ⟨rfl, rfl⟩⟩
  unfold eqD
  rw [hp, hq]
  rfl
/-! ### numbers -/
theorem opD_ii {f : Value → Value → Sem Value} {h : Int → Int → V} {k : Int → Int → D} {i j : Int} (hr : OpR X f (rI0 h)) (hk : ∀ H, Dt X.K S H (h i j) (k i j)) : OpD X S g f (.int i) (.int j) (Is g (k i j)) := OpD.of hr fun x y H jj t1 t2 => by
  cases t1
  cases t2
  exact ⟨i, j, rfl, rfl, good_same jj (hk H) ⟨rfl, rfl⟩⟩
theorem opD_iiC {f : Value → Value → Sem Value} {C : Int → Int → Prop} {h : Int → Int → V} {k : Int → Int → D} {i j : Int} (hr : OpR X f (rI C h)) (hc : C i j) (hk : ∀ H, Dt X.K S H (h i j) (k i j)) : OpD X S g f (.int i) (.int j) (Is g (k i j)) := OpD.of hr fun x y H jj t1 t2 => by
  cases t1
  cases t2
  exact ⟨i, j, rfl, rfl, hc, good_same jj (hk H) ⟨rfl, rfl⟩⟩
section
variable {i j : Int}
theorem opD_add : OpD X S g (binaryOp .Add) (.int i) (.int j) (Is g (.int (i + j))) := opD_ii (k := fun i j => .int (i + j)) op_add fun _ => .int _
theorem opD_sub : OpD X S g (binaryOp .Sub) (.int i) (.int j) (Is g (.int (i - j))) := opD_ii (k := fun i j => .int (i - j)) op_sub fun _ => .int _
theorem opD_mul (h : CMul i j) : OpD X S g (binaryOp .Mult) (.int i) (.int j) (Is g (.int (i * j))) := opD_iiC (k := fun i j => .int (i * j)) op_mul h fun _ => .int _
theorem opD_mod (h : 0 < j) : OpD X S g (binaryOp .Mod) (.int i) (.int j) (Is g (.int (i % j))) := opD_iiC (k := fun i j => .int (i % j)) op_mod h fun _ => .int _
theorem opD_fdiv (h : CDiv i j) : OpD X S g (binaryOp .FloorDiv) (.int i) (.int j) (Is g (.int (i / j))) := opD_iiC (k := fun i j => .int (i / j)) op_fdiv h fun _ => .int _
theorem opD_pow (h : CPow i j) : OpD X S g (binaryOp .Pow) (.int i) (.int j) (Is g (.int (i ^ j.toNat))) := opD_iiC (k := fun i j => .int (i ^ j.toNat)) op_pow h fun _ => .int _
theorem opD_lt : OpD X S g (compareOp .Lt) (.int i) (.int j) (Is g (.bl (decide (i < j)))) := opD_ii (k := fun i j => .bl (decide (i < j))) op_lt fun _ => .bl _
theorem opD_le : OpD X S g (compareOp .LtE) (.int i) (.int j) (Is g (.bl (decide (i ≤ j)))) := opD_ii (k := fun i j => .bl (decide (i ≤ j))) op_le fun _ => .bl _
theorem opD_gt : OpD X S g (compareOp .Gt) (.int i) (.int j) (Is g (.bl (decide (j < i)))) := opD_ii (k := fun i j => .bl (decide (j < i))) op_gt fun _ => .bl _
theorem opD_ge : OpD X S g (compareOp .GtE) (.int i) (.int j) (Is g (.bl (decide (j ≤ i)))) := opD_ii (k := fun i j => .bl (decide (j ≤ i))) op_ge fun _ => .bl _
theorem opD_eqI : OpD X S g (compareOp .Eq) (.int i) (.int j) (Is g (.bl (decide (i = j)))) := OpD.of op_eq fun x y H jj t1 t2 => by
  cases t1
  cases t2
  refine ⟨rfl, ?_⟩
  rw [dec_int]
  exact good_same jj (.bl _) ⟨by rw [Bool.beq_eq_decide_eq], rfl⟩
theorem opD_neI : OpD X S g (compareOp .NotEq) (.int i) (.int j) (Is g (.bl (!decide (i = j)))) := OpD.of op_ne fun x y H jj t1 t2 => by
  cases t1
  cases t2
  refine ⟨rfl, ?_⟩
  rw [dec_int]
  exact good_same jj (.bl _) ⟨by rw [Bool.beq_eq_decide_eq], rfl⟩
end
/-! ### texts -/
theorem opD_addS {x y : Str} (h : x.length + y.length ≤ sizeLine) : OpD X S g (binaryOp .Add) (.str x) (.str y) (Is g (.str (x ++ y))) := OpD.of op_add_str fun _ _ H jj t1 t2 => by
  cases t1
  cases t2
  exact ⟨x, y, rfl, rfl, h, good_same jj (.str _) ⟨rfl, rfl⟩⟩
theorem opD_eqS {x y : Str} : OpD X S g (compareOp .Eq) (.str x) (.str y) (Is g (.bl (decide (x = y)))) := OpD.of op_eq fun _ _ H jj t1 t2 => by
  cases t1
  cases t2
  refine ⟨rfl, good_same jj (.bl _) ⟨?_, rfl⟩⟩
  simp
theorem opD_neS {x y : Str} : OpD X S g (compareOp .NotEq) (.str x) (.str y) (Is g (.bl (!decide (x = y)))) := OpD.of op_ne fun _ _ H jj t1 t2 => by
  cases t1
  cases t2
  refine ⟨rfl, good_same jj (.bl _) ⟨?_, rfl⟩⟩
  simp
/-! ### is None -/
theorem opD_isN (b : Bool) (h : ∀ H v, Dt X.K S H v d → decide (v = .non) = b) : OpD X S g (compareOp .Is) d .non (Is g (.bl b)) := OpD.of op_isN fun x y H jj t1 t2 => by
  cases t2
  exact ⟨rfl, good_same jj (.bl _) ⟨by rw [h H x t1], rfl⟩⟩
theorem opD_notN (b : Bool) (h : ∀ H v, Dt X.K S H v d → decide (v = .non) = b) : OpD X S g (compareOp .IsNot) d .non (Is g (.bl (!b))) := OpD.of op_notN fun x y H jj t1 t2 => by
  cases t2
  exact ⟨rfl, good_same jj (.bl _) ⟨by rw [h H x t1], rfl⟩⟩
/-! ### lists and tuples -/
theorem opD_cat {xs ys : List D} (h : xs.length + ys.length ≤ sizeLine) : OpD X S g (binaryOp .Add) (.lst xs) (.lst ys) (Is g (.lst (xs ++ ys))) := OpD.of op_cat fun x y H jj t1 t2 => by
  cases t1 with
  | lst a1 n1 l1 =>
    cases t2 with
    | lst a2 n2 l2 => exact ⟨_, _, _, _, rfl, rfl, a1, a2, by rw [l1.length, l2.length]; exact h, fun p hp => good_newL jj hp (l1.append l2) ⟨rfl, rfl⟩⟩
theorem dtL_rep {K : PySem.W.Frag} {vs : List V} {ds : List D} (h : DtL K S H vs ds) : ∀ k : Nat, DtL K S H (List.replicate k vs).flatten (List.replicate k ds).flatten
  | 0 => .nil
  | k + 1 => by
    rw [List.replicate_succ, List.replicate_succ, List.flatten_cons, List.flatten_cons]
    exact h.append (dtL_rep h k)
theorem opD_rep {xs : List D} {k : Int} (h1 : -(2 ^ 63) ≤ k) (h2 : k < 2 ^ 63) (h : xs.length * k.toNat ≤ sizeLine) : OpD X S g (binaryOp .Mult) (.lst xs) (.int k) (Is g (.lst (List.replicate k.toNat xs).flatten)) := OpD.of op_rep fun x y H jj t1 t2 => by
  cases t1 with
  | lst a1 n1 l1 =>
    cases t2
    exact ⟨_, _, _, rfl, rfl, a1, h1, h2, by rw [l1.length]; exact h, fun p hp => good_newL jj hp (dtL_rep l1 _) ⟨rfl, rfl⟩⟩
theorem opD_catT {xs ys : List D} (h : xs.length + ys.length ≤ sizeLine) : OpD X S g (binaryOp .Add) (.tup xs) (.tup ys) (Is g (.tup (xs ++ ys))) := OpD.of op_catA fun x y H jj t1 t2 => by
  cases t1 with
  | tup a1 l1 =>
    cases t2 with
    | tup a2 l2 =>
      refine ⟨_, _, _, _, rfl, rfl, a1.sq, a2.sq, by rw [l1.length, l2.length]; exact h, fun e => ?_, fun _ e => ?_, fun _ _ p hp => good_newT jj hp (l1.append l2) ⟨rfl, rfl⟩⟩
      · subst e
        cases l1
        exact good_same jj (.tup a2 l2) ⟨rfl, rfl⟩
      · subst e
        cases l2
        exact good_same jj (.tup a1 l1) ⟨by rw [List.append_nil], rfl⟩
/-! ### subscripts -/
theorem ixN_len {n m : Nat} (h : n = m) (i : Int) : ixN n i = ixN m i := by rw [h]
theorem dtL_at {K : PySem.W.Frag} {vs : List V} {ds : List D} {i : Int} {d : D} (h : DtL K S H vs ds) (hd : atI ds i = some d) : ∃ v, atI vs i = some v ∧ Dt K S H v d := by
  unfold atI at hd ⊢
  rw [ixN_len h.length]
  cases e : ixN ds.length i with
  | none =>
    rw [e] at hd
    cases hd
  | some k =>
    rw [e] at hd
    exact h.get (i := k) hd
theorem ixD_lst {xs : List D} {i : Int} (h : atI xs i = some d) : IxD X S g (.lst xs) (.int i) (Is g d) := ⟨_, ix_list, fun x y H jj t1 t2 => by
  cases t1 with
  | lst a1 n1 l1 =>
    cases t2
    obtain ⟨v, hv, tv⟩ := dtL_at l1 h
    exact ⟨_, _, _, v, rfl, rfl, SqL.of a1, hv, good_same jj tv ⟨rfl, rfl⟩⟩⟩
theorem ixD_tup {xs : List D} {i : Int} (h : atI xs i = some d) : IxD X S g (.tup xs) (.int i) (Is g d) := ⟨_, ix_tup, fun x y H jj t1 t2 => by
  cases t1 with
  | tup a1 l1 =>
    cases t2
    obtain ⟨v, hv, tv⟩ := dtL_at l1 h
    exact ⟨_, _, _, v, rfl, rfl, a1.sq, hv, good_same jj tv ⟨rfl, rfl⟩⟩⟩
theorem ixD_str {x : Str} {i : Int} {c : Nat} (hl : x.length ≤ sizeLine) (h : atI x.cps.toList i = some c) : IxD X S g (.str x) (.int i) (Is g (.str ⟨#[c]⟩)) := ⟨_, ix_str, fun _ y H jj t1 t2 => by
  cases t1
  cases t2
  exact ⟨x, i, c, rfl, rfl, hl, h, good_same jj (.str _) ⟨rfl, rfl⟩⟩⟩
/-! ### len, list, tuple, repr -/
theorem callD_lenL {xs : List D} : CallD X S g (.builtin "len") [.lst xs] (Is g (.int xs.length)) := CallD.of call_len_seq fun vs H jj t => by
  cases t with
  | cons t tr =>
    cases tr
    cases t with
    | lst a1 n1 l1 => exact ⟨_, _, rfl, .inl (SqL.of a1), good_same jj (.int _) ⟨by rw [l1.length], rfl⟩⟩
theorem callD_lenT {xs : List D} : CallD X S g (.builtin "len") [.tup xs] (Is g (.int xs.length)) := CallD.of call_len_seq fun vs H jj t => by
  cases t with
  | cons t tr =>
    cases tr
    cases t with
    | tup a1 l1 => exact ⟨_, _, rfl, .inr a1.sq, good_same jj (.int _) ⟨by rw [l1.length], rfl⟩⟩
theorem callD_lenS {x : Str} (hl : x.length ≤ sizeLine) : CallD X S g (.builtin "len") [.str x] (Is g (.int x.length)) := CallD.of call_len_str fun vs H jj t => by
  cases t with
  | cons t tr =>
    cases tr
    cases t
    exact ⟨x, rfl, hl, good_same jj (.int _) ⟨rfl, rfl⟩⟩
theorem callD_listL {xs : List D} : CallD X S g (.type "list") [.lst xs] (Is g (.lst xs)) := CallD.of call_list_of fun vs H jj t => by
  cases t with
  | cons t tr =>
    cases tr
    cases t with
    | lst a1 n1 l1 => exact ⟨_, _, rfl, .inl (SqL.of a1), fun l hl => good_newL jj hl l1 ⟨rfl, rfl⟩⟩
theorem callD_listT {xs : List D} : CallD X S g (.type "list") [.tup xs] (Is g (.lst xs)) := CallD.of call_list_of fun vs H jj t => by
  cases t with
  | cons t tr =>
    cases tr
    cases t with
    | tup a1 l1 => exact ⟨_, _, rfl, .inr a1.sq, fun l hl => good_newL jj hl l1 ⟨rfl, rfl⟩⟩
theorem callD_tupL {xs : List D} : CallD X S g (.type "tuple") [.lst xs] (Is g (.tup xs)) := CallD.of call_tuple_of fun vs H jj t => by
  cases t with
  | cons t tr =>
    cases tr
    cases t with
    | lst a1 n1 l1 => exact ⟨_, _, rfl, .inl ⟨SqL.of a1, fun l hl => good_newT jj hl l1 ⟨rfl, rfl⟩⟩⟩
theorem callD_tupT {xs : List D} : CallD X S g (.type "tuple") [.tup xs] (Is g (.tup xs)) := CallD.of call_tuple_of fun vs H jj t => by
  cases t with
  | cons t tr =>
    cases tr
    cases t with
    | tup a1 l1 => exact ⟨_, _, rfl, .inr ⟨a1.sq, good_same jj (.tup a1 l1) ⟨rfl, rfl⟩⟩⟩
/-- repr may be asked of p -/
structure ReprOk (X : Cx) (p : PyData) : Prop where
  sh : p.showable = true
  sz : p.shown.length ≤ sizeLine
  dp : X.A.units + (p.depth + 1) < cLine
theorem callD_repr {p : PyData} (hg : X.A.guards = some []) (hd : D.pd d = some p) (ok : ReprOk X p) : CallD X S g (.builtin "repr") [d] (Is g (.str p.shown)) := by
  intro pins s σ H xs us I rx jj t
  cases t with
  | cons t tr =>
    cases tr
    obtain ⟨u, rfl, ru⟩ := vals1 rx
    obtain ⟨as, hr, ht⟩ := Dt.reads I t hd ru
    have rn : RdN s.heap u p := RdN.of hr fun b hb => (ht b hb).imp (fun ⟨xs, e⟩ => by
      obtain ⟨_, its, n, _, e'⟩ := I.hok b _ e
      exact ⟨_, _, _, e', rfl⟩) id
    have sh := ok.sh
    have sz := ok.sz
    cases hr with
    | none =>
      refine PySem.P.repr_of_none ⟨.str _, H, I.tok _, ⟨_, rfl⟩, good_same jj (.str _) ⟨?_, rfl⟩⟩
      rw [PyData.shown_none]
    | bool b =>
      refine PySem.P.repr_of_bool ⟨.str _, H, I.tok _, ⟨_, rfl⟩, good_same jj (.str _) ⟨?_, rfl⟩⟩
      rw [PyData.shown_bool]
    | int i t' =>
      refine PySem.P.repr_of_int (by simpa [PyData.showable] using sh) ⟨.str _, H, I.tok _, ⟨_, rfl⟩, good_same jj (.str _) ⟨?_, rfl⟩⟩
      rw [PyData.shown_int]
    | str x t' =>
      rw [PyData.shown_str] at sz
      refine PySem.P.repr_of_str ⟨.str _, H, I.tok _, ⟨_, rfl⟩, good_same jj (.str _) ⟨?_, rfl⟩⟩ sz
      rw [PyData.shown_str]
    | list h1 h2 h3 h4 => exact repr_N rn sh hg ok.dp sz (fun h' u tk hk => ⟨.str _, H, I.kept hk, ⟨_, rfl⟩, good_same jj (.str _) ⟨rfl, rfl⟩⟩)
    | tuple h1 h2 h3 h4 => exact repr_N rn sh hg ok.dp sz (fun h' u tk hk => ⟨.str _, H, I.kept hk, ⟨_, rfl⟩, good_same jj (.str _) ⟨rfl, rfl⟩⟩)
    | dict h1 h2 h3 h4 h5 => exact repr_N rn sh hg ok.dp sz (fun h' u tk hk => ⟨.str _, H, I.kept hk, ⟨_, rfl⟩, good_same jj (.str _) ⟨rfl, rfl⟩⟩)
end
end WT
set_option Elab.async false
set_option linter.all false
set_option autoImplicit false
set_option maxRecDepth 100000
set_option maxHeartbeats 4000000
namespace WT
open PySem PySem.Spec PyProof.Rows L2
/-! ### the law's call: where no repr is under way; the module list stands -/
theorem law_callG {P : Program} {w : World} {K : PySem.W.Frag} {mg mb : Str → Option Value} {CX : CXT} {k : Nat} {fa a : Addr} {fd : FuncData} {x : Str} {sp : Sp} {s1 : Shared} {vs : List Value} {ns : List Int}
    (KX : K.In s1.heap) (hns : s1.heap.Ns mainGlobals mg) (hbl : s1.heap.Ns builtinsNs mb) (hbb : ∀ y : Str, y ≠ "__name__" → mb y = bootBuiltins y) (hlim : s1.heap.NoLimit) (hgen : s1.gens = #[])
    (hobj : s1.heap.get? a = some { cls := .type "list", data := .seq vs.toArray }) (hints : IntsAre vs ns) (hlen : ns.length ≤ sizeLine) (hr : RG k callerA)
    (F : ∀ base : Heap, K.In base → base.Ns mainGlobals mg → FnG P w K mg base CX k fa fd [x] sp) (hbind : ∀ (s : Shared) (u : Value), BindsTo s fd ⟨[u], []⟩ [(x, u)])
    (hsp : ∀ H : Hp, Only H → SqL K H a (ns.map V.int) → sp [.ref a] H (fun v _ => v = .bl true) fun _ _ _ => False) (hCX : ∀ H e s', CX [] H s1 (fun _ _ _ => False) e s' → False) :
    codeAny (model P w) callerA (.call (.ref fa) ⟨[.ref a], []⟩) (fun r s' => r = .ok (.ret (.bool true)) ∧ OldK s1.heap s'.heap ∧ s'.os = s1.os ∧ AllBare s'.gens) s1 := by
  have rv : Vals (ns.map V.int) vs := vals_ints hints
  have run : ∀ H : Hp, Only H → SqL K H a (ns.map V.int) → HOk P w H s1.heap → (∀ b, H b ≠ none → b = a) → (H a ≠ none → K.lookup a = none) →
      codeAny (model P w) callerA (.call (.ref fa) ⟨[.ref a], []⟩) (fun r s' => r = .ok (.ret (.bool true)) ∧ OldK s1.heap s'.heap ∧ s'.os = s1.os ∧ AllBare s'.gens) s1 := by
    intro H only sq hok onlyA notK
    have noDict : ∀ {b : Addr} {o : Obj} {es : Array DictEntry} {ep : Nat}, s1.heap.get? b = some o → o.data = .dict es ep → H b = none := by
      intro b o es ep e1 e2
      cases q : H b with
      | none => rfl
      | some u =>
        obtain rfl := onlyA b (by rw [q]; exact fun z => nomatch z)
        rw [hobj] at e1
        cases e1
        exact nomatch e2
    have nsOf : ∀ {b : Addr} {m : Str → Option Value}, s1.heap.Ns b m → (hidT s1.heap H).Ns b m := fun {b m} ⟨o, es, ep, e1, e2, r⟩ =>
      ⟨o, es, ep, hidT_get e1 (noDict e1 e2), e2, r⟩
    have kBase : K.In (hidT s1.heap H) := by
      intro b o e
      refine hidT_get (KX b o e) ?_
      cases q : H b with
      | none => rfl
      | some u =>
        obtain rfl := onlyA b (by rw [q]; exact fun z => nomatch z)
        rw [notK (by rw [q]; exact fun z => nomatch z)] at e
        cases e
    have md : Mod K mg (hidT s1.heap H) := ⟨kBase, nsOf hns, ⟨mb, nsOf hbl, hbb⟩, let ⟨mc, l1, l2⟩ := hlim; ⟨mc, nsOf l1, l2⟩⟩
    have e0 : Env0 P w K mg (hidT s1.heap H) callerA [] s1 H :=
      ⟨rfl, md, fun b o e => of_hidT e, Nat.le_of_eq (hidT_size _ _), trivial, (fun b hb => nomatch (show b ∈ ([] : List Addr) from hb)), hok, .of_eq hgen⟩
    have go := (F _ kBase (nsOf hns)).run callerA [] s1 H ⟨[.ref a], []⟩ [.ref a] [.ref a] _ _ hr e0 (hbind s1 (.ref a)) (.cons rfl .nil) (hsp H only sq)
    refine codeAny_mono go fun r s' h => ?_
    match r, h with
    | .error e, h => exact (hCX H e s' h).elim
    | .ok .next, h => exact False.elim h
    | .ok .brk, h => exact False.elim h
    | .ok .cont, h => exact False.elim h
    | .ok (.ret u), h =>
      obtain ⟨v, H', os, bare, un, hok', rvu, qv⟩ := h
      have qv' : v = .bl true := qv
      subst qv'
      obtain rfl : u = Value.bool true := rvu
      refine ⟨rfl, OldK.of_keep fun b o e => ?_, os, bare⟩
      cases q : H b with
      | none => exact un.keep b o e q (fun z => nomatch (show b ∈ ([] : List Addr) from z)) (by simp)
      | some u =>
        rcases only b with z | ⟨ob, ys, z⟩
        · rw [q] at z
          cases z
        · obtain ⟨e1, _⟩ := hok b _ z
          obtain ⟨e2, _⟩ := hok' b _ (un.frzs b ob _ z)
          rw [e] at e1
          cases e1
          exact e2
  cases hk : K.lookup a with
  | some o =>
    have e := KX a o hk
    rw [hobj] at e
    cases e
    refine run (fun _ => none) (fun _ => .inl rfl) (.inr ⟨_, vs.toArray, _, hk, rfl, rfl, rfl, ?_, by simpa using rv⟩) (fun b u z => nomatch (show (none : Option HO) = some u from z)) (fun b z => absurd rfl z) fun z => absurd rfl z
    rw [List.size_toArray, hints.length]
    exact hlen
  | none =>
    refine run (fun b => if b = a then some (.frz { cls := .type "list", data := .seq vs.toArray } (.lst (ns.map V.int))) else none) (fun b => ?_) (.inl (.inr ⟨{ cls := .type "list", data := .seq vs.toArray }, if_pos rfl⟩)) (fun b u z => ?_) (fun b z => ?_) fun _ => hk
    · by_cases hb : b = a
      · exact .inr ⟨_, _, if_pos hb⟩
      · exact .inl (if_neg hb)
    · by_cases hb : b = a
      · have z' := (if_pos hb).symm.trans z
        cases z'
        subst hb
        refine ⟨hobj, ?_, vs, _, rv, hobj⟩
        rw [List.length_map]
        exact hlen
      · exact nomatch (if_neg hb).symm.trans z
    · exact Classical.byContradiction fun hb => z (if_neg hb)
/-- the end of a law's row, from the promise of law -/
theorem walk_G {l : PySem.W.OpenLaw} {n k : Nat} {q : Program} {loose : List Str} {XP : (Str → Option Value) → Heap → Prop} {YP : World → Heap → Prop} {d : DefRec} {K : Params → PySem.W.Frag} {sp : World → Sp} {x : Str}
    (hn : l.most = some n) (hn2 : n ≤ sizeLine) (hdf : d.params.defaults = []) (hr : RG k callerA) (hY : ∀ (w : World) (h : Heap), YP w h → (K w.params).In h)
    (F : ∀ (w : World) (mg : Str → Option Value) (fa : Addr) (h : Heap), (K w.params).In h → h.Ns mainGlobals mg → mg d.name = some (.ref fa) →
      ∃ fd : FuncData, (∀ (s : Shared) (u : Value), BindsTo s fd ⟨[u], []⟩ [(x, u)]) ∧ ∀ base : Heap, (K w.params).In base → base.Ns mainGlobals mg → FnG l.prog w (K w.params) mg base CX0 k fa fd [x] (sp w))
    (hsp : ∀ (w : World) (H : Hp) (a : Addr) (ns : List Int), ns.length ≤ n → Only H → SqL (K w.params) H a (ns.map V.int) → sp w [.ref a] H (fun v _ => v = .bl true) fun _ _ _ => False) :
    PySem.W.WalkO q loose XP YP l.row.toRowW d [] (fun f vs => PySem.call f vs) := by
  refine Att.attach_call hn hdf fun w s0 s1 mg mb fa o pm cd doc a vs ns Gd Y ho hd hcd hmg hobj hints hlen hgen => ?_
  obtain ⟨fd, hb, hF⟩ := F w mg fa _ (hY w _ Y) Gd.T.g hmg
  exact law_callG (hY w _ Y) Gd.T.g Gd.T.b Gd.T.builtins Gd.T.nolimit hgen hobj hints (Nat.le_trans hlen hn2) hr hF hb (fun H hO hS => hsp w H a ns hlen hO hS) fun _ _ _ z => z
end WT
set_option Elab.async false
set_option linter.all false
set_option autoImplicit false
set_option maxRecDepth 100000
set_option maxHeartbeats 4000000
namespace WT
open PySem PySem.W PySem.Calls PyProof.Rows PySem.HandSPX
abbrev keyChain : List Value := [.type "KeyError", .type "LookupError", .type "Exception", .type "BaseException", .type "object"]
abbrev valChain : List Value := [.type "ValueError", .type "Exception", .type "BaseException", .type "object"]
section
variable {prog : Program} {w : World} {A : Around} {E : Value → Shared → Prop} {R : Result → Shared → Prop} {h : Heap} {g : Array GenState} {d : Drawn} {t : Nat} {os : OsState}
variable {nm q : Str} {C N : Addr} {bs bm bmB : List Value} {hdct : Bool} {sn : List Str} {sub : List Value} {ab : Bool} {col : Option Bool} {dd : Option Addr} {k0 k1 k2 k3 k5 : Option Value} {B newId initId : String} {kw : List (Str × Value)}
/-- what is asked of the class's order -/
structure XMro (B : String) (C : Addr) (bm : List Value) : Prop where
  b : (Value.ref C :: bm).contains (.type B) = true
  a : (Value.ref C :: bm).contains (.type "AttributeError") = false
  n : (Value.ref C :: bm).contains (.type "NameError") = false
/-- no keyword, or one -/
def Few (kw : List (Str × Value)) : Prop := kw = [] ∨ ∃ k v, kw = [(k, v)]
theorem x_check_new (F : ExcBaseFacts B newId initId bmB) (o : XMro B C bm) (fw : Few kw) {M : Model} {rest : List Value} {Q : Unit → Shared → Prop}
    (hC : h.get? C = some (excClassObj nm q C N bs bm hdct sn sub ab col dd k0 k1 k2 k3 k5 newId)) (hq : Q () ⟨h, g, d, t, os⟩) : wpAny M A (checkBuiltinCall newId ⟨.ref C :: rest, kw⟩) Q E ⟨h, g, d, t, os⟩ := by
  have ob := o.b
  have star := F.noStar
  rcases fw with rfl | ⟨k, v, rfl⟩
  all_goals
    simp only [checkBuiltinCall, F.newKind, F.newSplit, F.newRow]
    repeat (first
      | refine wpAny_loadPart_at hC ?_
      | (refine wpAny_isSubtype_exc hC ?_; rw [ob])
      | refine wpAny_staticBase_exc hC ?_
      | refine wpAny_madeBy_exc hC ?_
      | simp only [bne_self_eq_false, Bool.false_eq_true, if_false]
      | wp_step)
    exact hq
theorem x_check_call (fw : Few kw) {M : Model} {rest : List Value} {Q : Unit → Shared → Prop} (hC : h.get? C = some (excClassObj nm q C N bs bm hdct sn sub ab col dd k0 k1 k2 k3 k5 newId))
    (hq : Q () ⟨h, g, d, t, os⟩) : wpAny M A (checkBuiltinCall "type.__call__" ⟨.ref C :: rest, kw⟩) Q E ⟨h, g, d, t, os⟩ := by
  have sb := tc_sub
  have ty : (⟨h, g, d, t, os⟩ : Shared).TypeIs (.ref C) "type" := ⟨_, hC, rfl⟩
  rcases fw with rfl | ⟨k, v, rfl⟩
  all_goals
    simp only [checkBuiltinCall, tc_kind, tc_split]
    repeat (any_goals (first
      | assumption
      | with_reducible refine wpAny_loadPart_at hC ?_
      | with_reducible refine wpAny_onRaise ?_
      | with_reducible refine wpAny_map ?_
      | wp_step))
theorem x_new (F : ExcBaseFacts B newId initId bmB) (o : XMro B C bm) (fw : Few kw) {rest : List Value} (hC : h.get? C = some (excClassObj nm q C N bs bm hdct sn sub ab col dd k0 k1 k2 k3 k5 newId)) (hrest : rest.length ≤ sizeLine)
    (hq : R (.ok (.ret (.ref (h.objs.size + 1)))) ⟨(h.push (kdv_tup rest)).push (excO C h.objs.size), g, d, t, os⟩) : codeAny (model prog w) A (.builtin newId ⟨.ref C :: rest, kw⟩) R ⟨h, g, d, t, os⟩ := by
  have en := F.ends
  have ob := o.b
  have oa := o.a
  have on := o.n
  rcases fw with rfl | ⟨k, v, rfl⟩
  all_goals
    refine codeAny_builtinAt F.entry ?_
    unfold Builtin.«BaseException.__new__»
    refine PySem.wpAt_bind ?_
    show PySem.wpAt _ _ _ (stack >>= _) _ _ _
    refine PySem.wpAt_bind (PySem.wpAt_stack fun p below => PySem.wpAt_of_wpAny ?_)
    wp_walk
    refine PySem.wpAt_of_wpAny ?_
    rw [F.owner]
    repeat (first
      | with_reducible refine wpAny_madeHere_exc F.canon hC ?_
      | with_reducible refine wpAny_loadPart_at hC ?_
      | (with_reducible refine wpAny_isSubtype_exc hC ?_; first | rw [ob] | rw [oa] | rw [on])
      | wp_step)
    show R _ _
    rw [Heap.size_push]
    exact hq
theorem x_type_call (F : ExcBaseFacts B newId initId bmB) (o : XMro B C bm) (fw : Few kw) {rest : List Value} {fI : Addr} {Q : Fin → Shared → Prop} (hC : h.get? C = some (excClassObj nm q C N bs bm hdct sn sub ab col dd k0 k1 k2 k3 k5 newId)) (hrest : rest.length ≤ sizeLine)
    (hi : Looks (model prog w) h (typeLookup (.ref C) "__init__") (some (.ref fI))) (hb : ∀ self, Looks (model prog w) h (bindSpecial (.ref fI) self) (.ref fI, [self]))
    (hq : codeAny (model prog w) A (.call (.ref fI) ⟨.ref (h.objs.size + 1) :: rest, kw⟩) (fun r s' => match r with | .ok (.ret v) => v = .none ∧ Q (.done (.ret (.ref (h.objs.size + 1)))) s' | .ok _ => False | .error e => E e s') ⟨(h.push (kdv_tup rest)).push (excO C h.objs.size), g, d, t, os⟩) :
    wpAny (model prog w) A (Builtin.«type.__call__» ⟨.ref C :: rest, kw⟩) Q E ⟨h, g, d, t, os⟩ := by
  repeat (first | with_reducible refine wpAny_loadPart_at hC ?_ | with_reducible refine wpAny_madeBy_exc hC ?_ | wp_step)
  refine codeAny_call_builtin_code (Code.quiet_builtin _ F.quiet) (x_check_new F o fw hC (x_new F o fw hC hrest ?_))
  show wpAny _ _ _ _ _ _
  have keep : ∀ b u, h.get? b = some u → ((h.push (kdv_tup rest)).push (excO C h.objs.size)).get? b = some u := fun b u e => Heap.get?_push_of_some _ (Heap.get?_push_of_some _ e)
  have hC1 := keep _ _ hC
  have got : ((h.push (kdv_tup rest)).push (excO C h.objs.size)).get? (h.objs.size + 1) = some (excO C h.objs.size) := by heap_get
  have own : (Value.ref C :: bm).contains (.ref C) = true := by simp
  have i1 := hi.keeps keep
  have b1 := (hb (.ref (h.objs.size + 1))).keeps keep
  unfold isInstance
  repeat (first | with_reducible refine wpAny_loadPart_at got ?_ | (with_reducible refine wpAny_isSubtype_exc hC1 ?_; rw [own]) | wp_step)
  show wpAny _ _ (typeLookup (.ref C) _) _ _ _
  refine i1.at (wpAny_holding (wpAny_bind (b1.at (wpAny_bind (wpAny_call (codeAny_mono hq fun r s' z => ?_))))))
  rcases r with e | (v | _ | _ | _) <;> first | exact z | exact z.elim | skip
  obtain ⟨rfl, z⟩ := z
  first
    | exact wpAny_pure (wpAny_pure z)
    | (wp_walk; exact z)
/-- C(..), an exception class of the program with an own __init__ -/
theorem x_call (F : ExcBaseFacts B newId initId bmB) (o : XMro B C bm) (fw : Few kw) {rest : List Value} {fI : Addr} (hC : h.get? C = some (excClassObj nm q C N bs bm hdct sn sub ab col dd k0 k1 k2 k3 k5 newId)) (hrest : rest.length ≤ sizeLine)
    (hi : Looks (model prog w) h (typeLookup (.ref C) "__init__") (some (.ref fI))) (hb : ∀ self, Looks (model prog w) h (bindSpecial (.ref fI) self) (.ref fI, [self]))
    (hq : codeAny (model prog w) (A.under (.builtin "type.__call__" ⟨.ref C :: rest, kw⟩)) (.call (.ref fI) ⟨.ref (h.objs.size + 1) :: rest, kw⟩) (InitBack (h.objs.size + 1) R) ⟨(h.push (kdv_tup rest)).push (excO C h.objs.size), g, d, t, os⟩) :
    codeAny (model prog w) A (.call (.ref C) ⟨rest, kw⟩) R ⟨h, g, d, t, os⟩ := by
  have f1 := tc_lookup
  have f2 := tc_bind (.ref C)
  have ty : (⟨h, g, d, t, os⟩ : Shared).TypeIs (.ref C) "type" := ⟨_, hC, rfl⟩
  refine codeAny_of_tree ?_
  show wpAny _ _ (callAny (.ref C) _) _ _ _
  repeat (any_goals (first | assumption | with_reducible refine wpAny_loadPart_at hC ?_ | wp_step))
  refine ⟨rfl, codeAny_call_builtin_at (Code.quiet_builtin _ (by decide +kernel)) entry_typeCall (x_check_call fw hC (x_type_call F o fw hC hrest hi hb (codeAny_mono hq fun r s' z => ?_)))⟩
  rcases r with e | (v | _ | _ | _) <;> exact z
end
end WT
set_option Elab.async false
set_option linter.all false
set_option autoImplicit false
set_option maxRecDepth 100000
set_option maxHeartbeats 4000000
namespace WT
open PySem PySem.W PySem.Calls PyProof.Rows PySem.HandSPX Builtin Builtin.ObjectAttr
/-! ### the text of an error's __init__: super().__init__('..'), and perhaps self.f = f -/
structure XPos where
  a0 : Pos
  a1 : Pos
  p0 : Pos
  p1 : Pos
  p2 : Pos
  p3 : Pos
  p4 : Pos
  p5 : Pos
  q1 : Pos
  q2 : Pos
  q3 : Pos
  q4 : Pos
def xArgs (p : XPos) : Option Str → Arguments
  | none => { posonlyargs := [], args := [{ arg := "self", annotation := none, pos := p.a0 }], vararg := none, kwonlyargs := [], kw_defaults := [], kwarg := none, defaults := [] }
  | some f => { posonlyargs := [], args := [{ arg := "self", annotation := none, pos := p.a0 }, { arg := f, annotation := none, pos := p.a1 }], vararg := none, kwonlyargs := [], kw_defaults := [], kwarg := none, defaults := [] }
def xSuper (p : XPos) (text : Str) : Stmt := .Expr (.Call (.Attribute (.Call (.Name "super" p.p0) [] [] p.p1) "__init__" p.p2) [.Constant (.str text) 0 p.p3] [] p.p4) p.p5
def xBody (p : XPos) (text : Str) : Option Str → List Stmt
  | none => [xSuper p text]
  | some f => [xSuper p text, .Assign [.Attribute (.Name "self" p.q1) f p.q2] (.Name f p.q3) p.q4]
def xScope : Option Str → Scope
  | none => { kind := .function, names := [(PySem.Str.ofString "self", .local), (PySem.Str.ofString "__class__", .free), (PySem.Str.ofString "super", .globalImplicit)], isGenerator := false, isCoroutine := false, more := [] }
  | some f => { kind := .function, names := [(PySem.Str.ofString "self", .local), (f, .local), (PySem.Str.ofString "__class__", .free), (PySem.Str.ofString "super", .globalImplicit)], isGenerator := false, isCoroutine := false, more := [] }
section
variable {prog : Program} {w : World} {A : Around} {E : Value → Shared → Prop} {R : Result → Shared → Prop} {K : Frag} {B newId initId : String} {bmB : List Value}
/-- a built-in __init__ of errors -/
structure XInit (B initId : String) : Prop where
  kind : builtinKind initId = some .slot
  row : Manifest.signature? initId = some ⟨.positional, "*", B, .self, [⟨"args", .varPos, false⟩]⟩
  entry : entryFor table initId = some Builtin.«BaseException.__init__»
  plain : plainId initId = true
  star : (B != "*") = true
theorem xinit_val : XInit "ValueError" "ValueError.__init__" := ⟨by kernel_rfl, by kernel_rfl, PySem.F.excBase_ValueError.initEntry, PySem.F.excBase_ValueError.init.plain, by decide +kernel⟩
theorem xinit_key : XInit "KeyError" "KeyError.__init__" := ⟨by kernel_rfl, by kernel_rfl, (entryFor_alias (id' := "BaseException.__init__")) (by rw [fastTable_eq_tree]; kernel_rfl) (by first | rfl | decide +kernel) (by decide +kernel) (by rw [fastTable_eq_tree]; kernel_rfl), by decide +kernel, by decide +kernel⟩
theorem kxs_key : KxsFacts "KeyError" "KeyError.__init__" := ⟨by show builtinType _ = _; rw [builtinType_eq_fast]; kernel_rfl, by first | kernel_rfl | rfl⟩
theorem store_key : StoreFacts "KeyError" keyChain "object.__setattr__" "object" :=
  { mro := by kernel_rfl, slot := (.of (owner := "object") (n := "__setattr__") (by rw [typeLookup_type, builtinLookup_eq_fast]; kernel_rfl) (by decide +kernel) (by decide +kernel) (by decide +kernel) (by first | exact .inl (by decide +kernel) | exact .inr (by decide +kernel)) (by rw [isSubtype_type]; kernel_rfl)),
    entry := PySem.F.entry_object_sa, kind := by decide +kernel, split := by decide +kernel, hasOwner := by decide +kernel, args := (fun a b c => by unfold argsOk; kernel_rfl), passes := fun self => by kernel_rfl }
/-- the two kinds of errors of the program: below ValueError, below KeyError -/
structure XKind (Bn newId B initId : String) (bmB : List Value) : Prop where
  FB : ∃ i' l', ExcBaseFacts Bn newId i' l'
  XI : XInit B initId
  KF : KxsFacts B initId
  SF : StoreFacts B bmB "object.__setattr__" "object"
theorem xkind_val : XKind "ValueError" "ValueError.__new__" "ValueError" "ValueError.__init__" valChain := ⟨⟨_, _, PySem.F.excBase_ValueError⟩, xinit_val, kxs_ValueError, PySem.F.store_ValueError⟩
theorem xkind_key : XKind "LookupError" "LookupError.__new__" "KeyError" "KeyError.__init__" keyChain := ⟨⟨_, _, PySem.F.excBase_LookupError⟩, xinit_key, kxs_key, store_key⟩
/-- what the written part says of an error's class C, its __init__ at fI -/
structure XCls (prog : Program) (K : Frag) (Bn newId B initId : String) (bmB : List Value) (C fI : Addr) (fld : Option Str) : Prop where
  kd : XKind Bn newId B initId bmB
  cls : ∃ nm q N bs bm sn sub ab col dd k0 k1 k2 k3 k5, K.lookup C = some (excClassObj nm q C N bs bm true sn sub ab col dd k0 k1 k2 k3 k5 newId) ∧ XMro Bn C bm ∧ excTail bmB bm = true ∧ alongIn K "__init__" bm = some (some (.builtin initId))
  iC : findIn K (.ref C) "__init__" = some (some (.ref fI))
  tI : typeIn K (.ref fI) = some (.type "function")
  sB : subIn K (.ref C) (.type B) = some true
  third : nsIn K cStatics "thirdparty.any" = some none
  sa : findIn K (.ref C) "__setattr__" = some (some (.builtin "object.__setattr__"))
  noF : ∀ f, fld = some f → findIn K (.ref C) f = some none
  fn : ∃ (oc : Value) (od : Option Addr) (p : XPos) (text qual : Str) (kV doc pm : Value) (an : Option Addr) (cda cc : Addr) (ct : Value) (osl : Array (Option Value)) (ccl : Value) (cdd : Option Addr) (vs : Array Value) (ccs : Array (Option Value)) (file : Str) (tf : Tok) (cl : Value) (cld : Option Addr) (csl : Array (Option Value)),
    K.lookup fI = some ⟨oc, od, .func (ksFn "__init__" qual (xArgs p fld) (xBody p text fld) (xScope fld) .none kV doc pm an (.ref cda) ct cc), osl⟩ ∧ codeIn K (.ref cda) qual = true ∧
    K.lookup cda = some ⟨ccl, cdd, .fields vs, ccs⟩ ∧ vs[2]? = some (.str file tf) ∧ ((prog.main.file : Str) == file) = true ∧ K.lookup cc = some ⟨cl, cld, .cell (some (.ref C)), csl⟩ ∧ (p.p2.endLine == p.p4.line) = true
  top : (prog.main.scope.names.lookup ("super" : Str)).isSome = false
  okF : ∀ f, fld = some f → ("super" == f) = false ∧ ("__class__" == f) = false ∧ ("self" == f) = false ∧ ((f : Str) == "self") = false ∧ (f == ("__debug__" : Str)) = false
/-- an error as it stands -/
abbrev exNew (C t1 : Addr) (dx : Option Addr) : Obj := { cls := .ref C, dict := dx, data := .fields #[.ref t1, .none, .none, .none, .bool false, .none] }
/-- the globals that matter: super is the built-in -/
structure XGl (h : Heap) : Prop where
  ex : ∃ mg mb, h.Ns mainGlobals mg ∧ mg "super" = none ∧ h.Ns builtinsNs mb ∧ mb "super" = some (.type "super")
theorem x_bound {h : Heap} {g : Array GenState} {d : Drawn} {t : Nat} {os : OsState} {M : Model} {nm q : Str} {C N e : Addr} {oe : Obj} {bs bm : List Value} {hdct : Bool} {sn : List Str} {sub : List Value} {ab : Bool} {col : Option Bool} {dd : Option Addr} {k0 k1 k2 k3 k5 : Option Value} {rest : List Value} {Q : Unit → Shared → Prop} {B initId newId : String}
    (XI : XInit B initId) (hC : h.get? C = some (excClassObj nm q C N bs bm hdct sn sub ab col dd k0 k1 k2 k3 k5 newId)) (he : h.get? e = some oe) (hcls : oe.cls = .ref C) (hq : Q () ⟨h, g, d, t, os⟩) : wpAny M A (checkBoundCall initId ⟨.ref e :: rest, []⟩) Q E ⟨h, g, d, t, os⟩ := by
  have star := XI.star
  simp only [checkBoundCall, XI.kind, XI.row]
  repeat (first
    | (with_reducible refine wpAny_loadPart_at he ?_; rw [hcls])
    | with_reducible refine wpAny_loadPart_at hC ?_
    | wp_step)
  refine wpAny_onRaise ?_
  have nice : ∀ (a b : String) (n : Nat), Bind.check ⟨.positional, "*", B, .self, [⟨"args", .varPos, false⟩]⟩ a b n (List.map (fun y => y.fst) ({ pos := Value.ref e :: rest } : Args).kw) = pure () := fun a b n => check_star_args _ _ _ _ _ _
  rw [nice]
  exact wpAny_pure hq
variable {Bn : String}
theorem call_form {o : Expr} {name : Str} {apos pos cp : Pos} {env : Env} {x : Str} (hp : (apos.endLine == pos.line) = true) (ho : ∀ a b, o ≠ .Name a b) : eval (.Call (.Attribute o name apos) [.Constant (.str x) 0 cp] [] pos) env = (do
    let ov ← attributeBase o name env (eval o env)
    standAt apos.atName
    let (f, first) ← holding [ov] (getMethod ov name (do return (← importBound o env).getD true))
    callWith pos f first (backTo pos (starEach [.Constant (.str x) 0 cp] env)) []) := by
  have few : methodCallForm 1 (backTo pos (starEach [.Constant (.str x) 0 cp] env)) [] = true := by rfl
  have ps : methodCallPos true o env apos pos = pure pos := by
    unfold methodCallPos
    rw [hp]
    rfl
  show (do
    let ov ← attributeBase o name env (eval o env)
    standAt apos.atName
    methodCall o name apos pos env ov 1 (backTo pos (starEach [.Constant (.str x) 0 cp] env)) []) = _
  unfold methodCall
  simp only [few, ps, calleeOf, if_true, pure_bind]
/-- super().__init__('..'): the args laid anew, nothing else -/
theorem x_super {s : Shared} {C fI x t0 L cda cc : Addr} {fld : Option Str} {p : XPos} {text qual : Str} {m : Str → Option Value} {body : List Stmt} {Q : Flow → Shared → Prop} {oc : Value} {od : Option Addr} {kV doc pm : Value} {an : Option Addr} {ct : Value} {osl : Array (Option Value)}
    {ccl : Value} {cdd : Option Addr} {vs : Array Value} {ccs : Array (Option Value)} {file : Str} {tf : Tok} {cl : Value} {cld : Option Addr} {csl : Array (Option Value)}
    (T : XCls prog K Bn newId B initId bmB C fI fld) (X : K.In s.heap) (Gl : XGl s.heap) (hx : s.heap.get? x = some (exNew C t0 none)) (hnx : x ≠ L) (hn : s.heap.Ns L m) (hself : m "self" = some (.ref x))
    (lf : K.lookup fI = some ⟨oc, od, .func (ksFn "__init__" qual (xArgs p fld) (xBody p text fld) (xScope fld) .none kV doc pm an (.ref cda) ct cc), osl⟩) (lc : K.lookup cda = some ⟨ccl, cdd, .fields vs, ccs⟩) (lv : vs[2]? = some (.str file tf)) (lfile : ((prog.main.file : Str) == file) = true)
    (lcell : K.lookup cc = some ⟨cl, cld, .cell (some (.ref C)), csl⟩) (lp : (p.p2.endLine == p.p4.line) = true)
    (h : ∀ h' tk t1, (∀ b o, b ≠ x → s.heap.get? b = some o → h'.get? b = some o) → h'.get? x = some (exNew C t1 none) → Q .next { s with heap := h', toks := tk }) :
    PySem.wpAt (model prog w) A (.func body (ksEnv qual (xScope fld) L fI (.ref cda) cc)) (exec (xSuper p text) (ksEnv qual (xScope fld) L fI (.ref cda) cc)) Q E s := by
  obtain ⟨nm, q, N, bs, bm, sn, sub, ab, col, dd, k0, k1, k2, k3, k5, hC, om, ot, oi⟩ := T.cls
  obtain ⟨mg, mb, hg, hmg, hbl, hmb⟩ := Gl.ex
  have hcl : clsIn K C = some { name := nm, bases := bs, mro := .ref C :: bm, ns := N, qualname := q, hasDict := true, slotNames := sn, subclasses := sub, abstract := ab, collection := col, hasDel := false } := by unfold clsIn; rw [hC] <;> rfl
  have hks : (xScope fld).names.lookup ("super" : Str) = some .globalImplicit := by
    cases fld with
    | none => rfl
    | some f =>
      obtain ⟨o1, o2, o3, _⟩ := T.okF f rfl
      show List.lookup ("super" : Str) [(PySem.Str.ofString "self", NameKind.local), (f, .local), (PySem.Str.ofString "__class__", .free), (PySem.Str.ofString "super", .globalImplicit)] = _
      rw [List.lookup_cons, show (("super" : Str) == PySem.Str.ofString "self") = false by decide +kernel, List.lookup_cons, o1]
      rfl
  have hkc : (xScope fld).names.lookup ("__class__" : Str) = some .free := by
    cases fld with
    | none => rfl
    | some f =>
      obtain ⟨o1, o2, o3, _⟩ := T.okF f rfl
      show List.lookup ("__class__" : Str) [(PySem.Str.ofString "self", NameKind.local), (f, .local), (PySem.Str.ofString "__class__", .free), (PySem.Str.ofString "super", .globalImplicit)] = _
      rw [List.lookup_cons, show (("__class__" : Str) == PySem.Str.ofString "self") = false by decide +kernel, List.lookup_cons, o2]
      rfl
  have hka : (xScope fld).names.lookup ("self" : Str) = some .local := by cases fld <;> rfl
  have hk : (xScope fld).kind = .function := by cases fld <;> rfl
  have hp : ((xArgs p fld).posonlyargs ++ (xArgs p fld).args).head? = some { arg := "self", annotation := none, pos := p.a0 } := by cases fld <;> rfl
  have hI : InstAt s.heap x (exNew C t0 none) C none := ⟨hx, rfl, rfl, trivial⟩
  have hB : Looks (model prog w) s.heap (isInstance (.ref x) (.type B)) true := hI.type.andThen (looks_subIn X T.sB)
  refine ks_wpAt_Expr_any (hi := by unfold interactive; rw [show (ksEnv qual (xScope fld) L fI (.ref cda) cc).scope.kind = .function from hk]; rfl) (hs := by rfl) (ks_wpAt_MethodCall (he := call_form lp fun _ _ => Expr.noConfusion) ?_)
  refine ks_wpAt_super_base (env := ksEnv qual (xScope fld) L fI (.ref cda) cc) hks hkc (by decide +kernel) rfl (X _ _ lf) rfl hp rfl (X _ _ lc) rfl lv lfile T.top ?_
  refine ks_loadName_global hk hks (loadGlobal_builtin (env := ksEnv qual (xScope fld) L fI (.ref cda) cc) hg hmg hbl hmb ⟨rfl, ?_⟩)
  refine wpAny_loadName_free hk hkc rfl ⟨_, X _ _ lcell, rfl⟩ ?_
  refine wpAny_loadName_local hk hka hn hself ?_
  refine ks_wpAny_isType_cls (X _ _ hC) rfl ⟨rfl, ?_⟩
  obtain ⟨hp0, g, d, t, os⟩ := s
  refine ks_wpAny_call_super (X _ _ hC) rfl hx rfl (fun c e => nomatch e) ?_ (fun h1 e1 kk => ?_)
  · exact looks_mroIn X (by unfold mroIn; rw [hcl, Option.bind_some, if_neg (by simp)]; simp)
  have X1 : K.In h1 := X.keeps kk
  refine kxs_getMethod T.kd.KF e1 (looks_opaque X1 T.third) (l₀ := .ref C :: bm) ?_ rfl X1 (by rw [show ((Value.ref C :: bm).dropWhile (· != .ref C)).drop 1 = bm by simp [List.dropWhile_cons]]; exact oi) (hB.keeps kk) (ks_ne X hI hcl) (by decide +kernel) ?_
  · exact fun A Q E s k q => wpAny_bind ((looks_clsIn X1 hcl) A _ E s k (wpAny_pure q))
  have got : (h1.push (kxs_mw initId x)).get? h1.objs.size = some (kxs_mw initId x) := Heap.get?_push_at rfl rfl
  have k2 : ∀ b o, hp0.get? b = some o → (h1.push (kxs_mw initId x)).get? b = some o := fun b o e => Heap.get?_push_of_some _ (kk b o e)
  show wpAny _ _ (callWith p.p4 (.ref h1.objs.size) [] (backTo p.p4 (starEach (Expr.Constant (.str text) 0 p.p3 :: []) (ksEnv qual (xScope fld) L fI (.ref cda) cc))) []) _ _ _
  refine kxs_callWith (i := initId) (x := x) (by rfl) ?_
  refine evalArgs_plain ?_
  refine Calls.spliced_cons (Calls.Constant_str (k := 0) (pos := p.p3) (Calls.spliced_nil ⟨got, ?_⟩))
  -- the call of the wrapper
  refine wpAny_call (codeAny_of_tree ?_)
  show wpAny _ A.in1 (callAny (.ref h1.objs.size) ⟨[.str text (t + 1)], []⟩) _ _ _
  simp only [callAny]
  refine wpAny_bind (wpAny_load got ?_)
  simp only [kxs_mw, show (Value.type "method-wrapper" == Value.type "method" || Value.type "method-wrapper" == Value.type "builtin_function_or_method" || Value.type "method-wrapper" == Value.type "method-wrapper") = true by decide, if_true]
  refine KFB.if_so (by decide) ?_
  refine wpAny_bind (x_bound T.kd.XI (k2 _ _ (X _ _ hC)) (k2 _ _ hx) rfl ?_)
  refine wpAny_bind (wpAny_pure (wpAny_pure ?_))
  refine ⟨plainId_quiet T.kd.XI.plain _, codeAny_builtin T.kd.XI.entry ?_⟩
  refine exc_init_tree (cls := .ref C) (t0 := t0) (dv := none) (c2 := .none) (c3 := .none) (b4 := .bool false) (k2 _ _ hx) (by rw [sizeLine_eq]; show 1 ≤ 16777216; decide) fun h' ka kx kt => ?_
  exact h h' _ _ (fun b o hb e => ka b o hb (k2 b o e)) kx
/-- self.f = v on an error that has no attribute yet -/
theorem x_store {hp : Heap} {g : Array GenState} {d : Drawn} {t : Nat} {os : OsState} {name : Str} {tk : Tok} {v : Value} {x C t1 : Addr} {cd : ClassData} (SF : StoreFacts B bmB "object.__setattr__" "object")
    (X : K.In hp) (hx : hp.get? x = some (exNew C t1 none)) (hcd : clsIn K C = some cd) (hm : ∃ bm, cd.mro = .ref C :: bm ∧ excTail bmB bm = true) (hh : cd.hasDict = true) (ha : findIn K (.ref C) name = some none)
    (hq : ∀ h' tk' dx, (∀ b o, b ≠ x → hp.get? b = some o → h'.get? b = some o) → hp.objs.size ≤ dx → dx ≠ x → h'.get? x = some (exNew C t1 (some dx)) → h'.Ns1 dx (fun y => if y = name then some v else none) → R (.ok (.ret .none)) ⟨h', g, d, tk', os⟩) :
    codeAny (model prog w) A (.call (.builtin "object.__setattr__") ⟨[.ref x, .str name tk, v], []⟩) R ⟨hp, g, d, t, os⟩ := by
  have I : InstAt hp x (exNew C t1 none) C none := ⟨hx, rfl, rfl, trivial⟩
  obtain ⟨bm, hmr, htl⟩ := hm
  have SO := PySem.F.store_object
  have ne : x ≠ hp.objs.size := Nat.ne_of_lt (Heap.lt_size hx)
  have hob : cd.mro.contains (.type "object") = true := by
    rw [hmr, List.contains_cons, excTail_contains "object" bm htl, SF.hasOwner, Bool.or_true]
  have hne : cd.mro.isEmpty = false := by rw [hmr]; rfl
  have isO : Looks (model prog w) hp (isInstance (.ref x) (.type "object")) true := I.type.andThen (looks_mroIn X (by unfold mroIn; rw [hcd, Option.bind_some, hne, hob]; rfl))
  have lm : Looks (model prog w) hp (mroOf (.ref C)) cd.mro := (looks_clsIn X hcd).andThen .now
  have l3 : Looks (model prog w) hp (storeTaker? none) none := .now
  have lc : Looks (model prog w) hp (classData C) cd := looks_clsIn X hcd
  have pass : refuseLoop (.ref x) "__setattr__" cd.mro = pure () := by
    rw [hmr, refuseLoop_ref]
    exact excTail_pass _ (SF.passes _) bm htl
  refine codeAny_call_builtin SO.slot.plain SO.entry (check_slot SO.kind SO.split isO (SO.args (.ref x) (.str name tk) v) ?_)
  rw [osa_eq, refuse_eq]
  refine wpAny_bind (wpAny_bind (I.type.at (wpAny_bind (lm.at ?_))))
  rw [pass]
  refine wpAny_pure (wpAny_bind (I.type.at (wpAny_bind ((looks_findIn X ha).at (wpAny_bind (l3.at ?_))))))
  show wpAny _ _ (storeInOwnDict (.ref x) (.ref C) (.str name tk) name v false) _ _ _
  obtain ⟨nm, bs, mro, ns, qn, hd, sn, sb, ab, col, del⟩ := cd
  dsimp only at hh
  subst hh
  unfold storeInOwnDict ownDictForStores
  repeat (first
    | with_reducible refine store_in_new ?_ ?_
    | with_reducible refine wpAny_loadPart_at hx ?_
    | with_reducible refine lc.at ?_
    | wp_step)
  · exact ⟨_, #[], _, (Heap.get?_update_ne _ _ _ _ ne.symm).trans (Heap.get?_push_at rfl rfl), rfl, fun e he => absurd he (by simp), fun _ => rfl⟩
  · intro h' tk' hn' hs
    have hx1 : (hp.push { cls := .type "dict", data := .dict #[] }).get? x = some (exNew C t1 none) := Heap.get?_push_of_some _ hx
    refine hq h' tk' hp.objs.size (fun b o hb ho => ?_) (Nat.le_refl _) ne.symm ?_ hn'
    · exact (hs.2 b (Nat.ne_of_lt (Heap.lt_size ho))).trans ((Heap.get?_update_ne _ _ _ _ hb).trans (Heap.get?_push_of_some _ ho))
    · exact (hs.2 x ne).trans (Heap.get?_update_self _ hx1 rfl)
end
end WT
set_option Elab.async false
set_option linter.all false
set_option autoImplicit false
set_option maxRecDepth 100000
set_option maxHeartbeats 4000000
namespace WT
open PySem PySem.W PySem.Calls PyProof.Rows PySem.HandSPX
section
variable {prog : Program} {w : World} {A : Around} {E : Value → Shared → Prop} {R : Result → Shared → Prop} {K : Frag} {Bn B newId initId : String} {bmB : List Value} {C fI : Addr}
/-- how an __init__ with one parameter binds -/
def xFd (p : XPos) (text qual : Str) (kV doc pm : Value) (an : Option Addr) (cda : Addr) (ct : Value) (cc : Addr) (fld : Option Str) : FuncData := ksFn "__init__" qual (xArgs p fld) (xBody p text fld) (xScope fld) .none kV doc pm an (.ref cda) ct cc
/-- the arguments behind self, and what the fields are told -/
inductive XArg : Option Str → List Value → List (Str × Value) → Option Value → Prop
  | non : XArg none [] [] none
  | pos {f : Str} {v : Value} : XArg (some f) [v] [] (some v)
  | kw {f : Str} {v : Value} : XArg (some f) [] [(f, v)] (some v)
def xBinds (x : Addr) : Option Str → Option Value → List (Str × Value)
  | some f, some v => [("self", .ref x), (f, v)]
  | _, _ => [("self", .ref x)]
/-- what a field's name must be -/
structure XFld (f : Str) : Prop where
  pos : ∀ p text qual kV doc pm an cda ct cc x v, bindArgs (xFd p text qual kV doc pm an cda ct cc (some f)) ⟨[.ref x, v], []⟩ = pure (xBinds x (some f) (some v))
  kw : ∀ p text qual kV doc pm an cda ct cc x v, bindArgs (xFd p text qual kV doc pm an cda ct cc (some f)) ⟨[.ref x], [(f, v)]⟩ = pure (xBinds x (some f) (some v))
  loc : ∀ y ∈ xBinds 0 (some f) (some .none), (xScope (some f)).names.lookup y.1 = some .local
theorem fld_change : XFld "change" := ⟨fun _ _ _ _ _ _ _ _ _ _ _ _ => rfl, fun _ _ _ _ _ _ _ _ _ _ _ _ => rfl, by decide +kernel⟩
theorem fld_name : XFld "name" := ⟨fun _ _ _ _ _ _ _ _ _ _ _ _ => rfl, fun _ _ _ _ _ _ _ _ _ _ _ _ => rfl, by decide +kernel⟩
theorem fld_number : XFld "number" := ⟨fun _ _ _ _ _ _ _ _ _ _ _ _ => rfl, fun _ _ _ _ _ _ _ _ _ _ _ _ => rfl, by decide +kernel⟩
theorem fld_numbers : XFld "numbers" := ⟨fun _ _ _ _ _ _ _ _ _ _ _ _ => rfl, fun _ _ _ _ _ _ _ _ _ _ _ _ => rfl, by decide +kernel⟩
theorem fld_tree : XFld "tree" := ⟨fun _ _ _ _ _ _ _ _ _ _ _ _ => rfl, fun _ _ _ _ _ _ _ _ _ _ _ _ => rfl, by decide +kernel⟩
theorem fld_row : XFld "row" := ⟨fun _ _ _ _ _ _ _ _ _ _ _ _ => rfl, fun _ _ _ _ _ _ _ _ _ _ _ _ => rfl, by decide +kernel⟩
theorem bind_none {p : XPos} {text qual : Str} {kV doc pm : Value} {an : Option Addr} {cda : Addr} {ct : Value} {cc x : Addr} : bindArgs (xFd p text qual kV doc pm an cda ct cc none) ⟨[.ref x], []⟩ = pure (xBinds x none none) := rfl
/-- self.f = f -/
theorem x_tail {s : Shared} {h₀ h' : Heap} {tk : Nat} {x t0 t1 cda cc : Addr} {f : Str} {v : Value} {p : XPos} {qual : Str} {body : List Stmt} {Q : Flow → Shared → Prop} {nm q : Str} {N : Addr} {bs bm : List Value} {sn : List Str} {sub : List Value} {ab : Bool} {col : Option Bool} {dd : Option Addr} {k0 k1 k2 k3 k5 : Option Value}
    (T : XCls prog K Bn newId B initId bmB C fI (some f)) (hF : ∀ f', some f = some f' → XFld f') (X0 : K.In h₀) (hk : ∀ b o, s.heap.get? b = some o → h₀.get? b = some o) (nxL : x ≠ s.heap.objs.size) (hxK : ∀ o, K.lookup x ≠ some o)
    (hC : K.lookup C = some (excClassObj nm q C N bs bm true sn sub ab col dd k0 k1 k2 k3 k5 newId)) (ot : excTail bmB bm = true) (hx : s.heap.get? x = some (exNew C t0 none))
    (hnL : ∀ {h' : Heap}, (∀ b o, b ≠ x → h₀.get? b = some o → h'.get? b = some o) → h'.Ns s.heap.objs.size (fun y => (xBinds x (some f) (some v)).reverse.lookup y))
    (ka : ∀ b o, b ≠ x → h₀.get? b = some o → h'.get? b = some o) (kx : h'.get? x = some (exNew C t1 none))
    (h : ∀ h2 tk2 d, (∀ b o, b ≠ x → s.heap.get? b = some o → h2.get? b = some o) → h2.get? x = some (exNew C t1 (some d)) → s.heap.objs.size ≤ d → h2.Ns1 d (fun y => if y = f then some v else none) → Q .next { s with heap := h2, toks := tk2 }) :
    PySem.wpAt (model prog w) A (.func body (ksEnv qual (xScope (some f)) s.heap.objs.size fI (.ref cda) cc)) (execs [.Assign [.Attribute (.Name "self" p.q1) f p.q2] (.Name f p.q3) p.q4] (ksEnv qual (xScope (some f)) s.heap.objs.size fI (.ref cda) cc)) Q E { s with heap := h', toks := tk } := by
  obtain ⟨o1, o2, o3, o4, o5⟩ := T.okF f rfl
  have hcl : clsIn K C = some { name := nm, bases := bs, mro := .ref C :: bm, ns := N, qualname := q, hasDict := true, slotNames := sn, subclasses := sub, abstract := ab, collection := col, hasDel := false } := by unfold clsIn; rw [hC] <;> rfl
  have X1 : K.In h' := fun b o e => ka b o (fun z => hxK o (z ▸ e)) (X0 _ _ e)
  have n1 := hnL ka
  have hlf : (xScope (some f)).names.lookup f = some .local := (hF f rfl).loc (f, .none) (by simp [xBinds])
  have lkf : (fun y => (xBinds x (some f) (some v)).reverse.lookup y) f = some v := by
    show List.lookup f [(f, v), (_, _)] = _
    rw [List.lookup_cons, show (f == f) = true by simp]
  have lks : (fun y => (xBinds x (some f) (some v)).reverse.lookup y) "self" = some (.ref x) := by
    show List.lookup ("self" : Str) [(f, v), (_, _)] = _
    rw [List.lookup_cons, show (("self" : Str) == f) = false from o3]
    rfl
  refine ks_wpAt_execs_cons (ks_wpAt_Assign_Attr (PySem.wpAt_of_wpAny (wpAny_Name (wpAny_loadName_local rfl hlf n1 lkf (wpAny_Name (wpAny_loadName_local rfl rfl n1 lks ?_))) o5)))
  refine set_plain X1 (ox := exNew C t1 none) (od := none) ⟨kx, rfl, rfl, trivial⟩ T.sa ?_
  refine x_store T.kd.SF X1 kx hcl ⟨bm, rfl, ot⟩ rfl (T.noF f rfl) fun h2 tk2 dx k1 k2 k3 k4 k5 => ?_
  refine PySem.wpAt_of_wpAny (wpAny_execs_nil (h h2 tk2 dx (fun b o hb e => k1 b o hb (ka b o hb (hk b o e))) k4 (Nat.le_trans ?_ k2) k5))
  obtain ⟨oL, es, ep, e1, _⟩ := n1
  exact Nat.le_of_lt (Heap.lt_size e1)
/-- the call of an error's __init__ -/
theorem x_init {s : Shared} {x t0 : Addr} {fld : Option Str} {rest : List Value} {kw : List (Str × Value)} {ov : Option Value} (T : XCls prog K Bn newId B initId bmB C fI fld) (hF : ∀ f, fld = some f → XFld f) (hroom : A.depth < recursionLimit)
    (X : K.In s.heap) (Gl : XGl s.heap) (hlim : s.heap.NoLimit) (hxK : ∀ o, K.lookup x ≠ some o) (hx : s.heap.get? x = some (exNew C t0 none)) (ha : XArg fld rest kw ov)
    (h : ∀ h' tk t1 dx, (∀ b o, b ≠ x → s.heap.get? b = some o → h'.get? b = some o) → h'.get? x = some (exNew C t1 dx) →
      (match fld, ov with | some f, some v => ∃ d, dx = some d ∧ s.heap.objs.size ≤ d ∧ h'.Ns1 d (fun y => if y = f then some v else none) | _, _ => dx = none) → R (.ok (.ret .none)) { s with heap := h', toks := tk }) :
    codeAny (model prog w) A (.call (.ref fI) ⟨.ref x :: rest, kw⟩) R s := by
  obtain ⟨oc, od, p, text, qual, kV, doc, pm, an, cda, cc, ct, osl, ccl, cdd, vs, ccs, file, tf, cl, cld, csl, lf, lcd, lc, lv, lfile, lcell, lp⟩ := T.fn
  obtain ⟨nm, q, N, bs, bm, sn, sub, ab, col, dd, k0, k1, k2, k3, k5, hC, om, ot, oi⟩ := id T.cls
  have hcl : clsIn K C = some { name := nm, bases := bs, mro := .ref C :: bm, ns := N, qualname := q, hasDict := true, slotNames := sn, subclasses := sub, abstract := ab, collection := col, hasDel := false } := by unfold clsIn; rw [hC] <;> rfl
  have hbind : bindArgs (xFd p text qual kV doc pm an cda ct cc fld) ⟨.ref x :: rest, kw⟩ = pure (xBinds x fld ov) := by
    cases ha with
    | non => exact bind_none
    | pos => exact (hF _ rfl).pos _ _ _ _ _ _ _ _ _ _ _ _
    | kw => exact (hF _ rfl).kw _ _ _ _ _ _ _ _ _ _ _ _
  have hloc : ∀ y ∈ xBinds x fld ov, (xScope fld).names.lookup y.1 = some .local := by
    cases ha with
    | non => intro y hy; simp only [xBinds, List.mem_singleton] at hy; subst hy; rfl
    | pos => intro y hy; have z := (hF _ rfl).loc; simp only [xBinds, List.mem_cons, List.not_mem_nil, or_false, forall_eq_or_imp, forall_eq] at z hy; rcases hy with rfl | rfl <;> first | exact z.1 | exact z.2
    | kw => intro y hy; have z := (hF _ rfl).loc; simp only [xBinds, List.mem_cons, List.not_mem_nil, or_false, forall_eq_or_imp, forall_eq] at z hy; rcases hy with rfl | rfl <;> first | exact z.1 | exact z.2
  have hcell : ∀ y ∈ (xScope fld).names, y.2 ≠ .cell := by
    cases fld with
    | none => decide
    | some f => intro y hy; simp only [xScope, List.mem_cons, List.not_mem_nil, or_false] at hy; rcases hy with rfl | rfl | rfl | rfl <;> exact fun z => nomatch z
  refine ks_codeAny_call_defAt (fd := xFd p text qual kV doc pm an cda ct cc fld) (body := xBody p text fld) (binds := xBinds x fld ov) hroom (X _ _ lf) rfl hlim (codeRec_of X lcd) rfl (BindsTo.of_eq hbind) hcell hloc (fun h₀ hns hk => ?_) (by cases fld <;> rfl) (by cases fld <;> rfl) (by cases fld <;> rfl)
  have hself : (fun y => (xBinds x fld ov).reverse.lookup y) "self" = some (.ref x) := by
    cases ha with
    | non => rfl
    | pos => obtain ⟨_, _, o3, _⟩ := T.okF _ rfl; show List.lookup ("self" : Str) [(_, _), (_, _)] = _; rw [List.lookup_cons, show (("self" : Str) == _) = false from o3]; rfl
    | kw => obtain ⟨_, _, o3, _⟩ := T.okF _ rfl; show List.lookup ("self" : Str) [(_, _), (_, _)] = _; rw [List.lookup_cons, show (("self" : Str) == _) = false from o3]; rfl
  have X0 : K.In h₀ := X.keeps hk
  have nxL : x ≠ s.heap.objs.size := Nat.ne_of_lt (Heap.lt_size hx)
  obtain ⟨mg, mb, hg, hmg, hbl, hmb⟩ := Gl.ex
  have Gl0 : XGl h₀ := ⟨mg, mb, hg.at fun o q => hk _ _ q, hmg, hbl.at fun o q => hk _ _ q, hmb⟩
  have hnL : ∀ {h' : Heap}, (∀ b o, b ≠ x → h₀.get? b = some o → h'.get? b = some o) → h'.Ns s.heap.objs.size (fun y => (xBinds x fld ov).reverse.lookup y) := fun {h'} ka => hns.at fun o q => ka _ _ nxL.symm q
  cases ha with
  | non =>
    refine ks_wpAt_execs_cons (x_super T X0 Gl0 (hk _ _ hx) nxL hns hself lf lc lv lfile lcell lp fun h' tk t1 ka kx => ?_)
    exact PySem.wpAt_of_wpAny (wpAny_execs_nil (h h' tk t1 none (fun b o hb e => ka b o hb (hk b o e)) kx rfl))
  | @pos f v =>
    refine ks_wpAt_execs_cons (x_super T X0 Gl0 (hk _ _ hx) nxL hns hself lf lc lv lfile lcell lp fun h' tk t1 ka kx => ?_)
    exact x_tail T hF X0 hk nxL hxK hC ot hx hnL ka kx fun h2 tk2 d z1 z2 z3 z4 => h h2 tk2 t1 (some d) z1 z2 ⟨d, rfl, z3, z4⟩
  | @kw f v =>
    refine ks_wpAt_execs_cons (x_super T X0 Gl0 (hk _ _ hx) nxL hns hself lf lc lv lfile lcell lp fun h' tk t1 ka kx => ?_)
    exact x_tail T hF X0 hk nxL hxK hC ot hx hnL ka kx fun h2 tk2 d z1 z2 z3 z4 => h h2 tk2 t1 (some d) z1 z2 ⟨d, rfl, z3, z4⟩
end
end WT
set_option Elab.async false
set_option linter.all false
set_option autoImplicit false
set_option maxRecDepth 100000
set_option maxHeartbeats 4000000
namespace WT
open PySem PySem.W PySem.Calls PyProof.Rows PySem.HandSPX
section
variable {prog : Program} {w : World} {A : Around} {E : Value → Shared → Prop} {R : Result → Shared → Prop} {K : Frag} {Bn B newId initId : String} {bmB : List Value} {C fI : Addr}
/-- an error of C at e, its attribute as told -/
def Made (h h' : Heap) (C e : Addr) (fld : Option Str) (ov : Option Value) : Prop :=
  (∀ b o, h.get? b = some o → h'.get? b = some o) ∧ h.objs.size ≤ e ∧ ∃ t1 dx, h'.get? e = some (exNew C t1 dx) ∧
    (match fld, ov with | some f, some v => ∃ d, dx = some d ∧ h.objs.size ≤ d ∧ d ≠ e ∧ h'.Ns1 d (fun y => if y = f then some v else none) | _, _ => dx = none)
theorem x_made {h : Heap} {g : Array GenState} {d : Drawn} {t : Nat} {os : OsState} {fld : Option Str} {rest : List Value} {kw : List (Str × Value)} {ov : Option Value} (T : XCls prog K Bn newId B initId bmB C fI fld) (hF : ∀ f, fld = some f → XFld f)
    (hroom : A.depth + 1 < recursionLimit) (X : K.In h) (Gl : XGl h) (hlim : h.NoLimit) (ha : XArg fld rest kw ov)
    (hq : ∀ h' tk e, Made h h' C e fld ov → R (.ok (.ret (.ref e))) ⟨h', g, d, tk, os⟩) : codeAny (model prog w) A (.call (.ref C) ⟨rest, kw⟩) R ⟨h, g, d, t, os⟩ := by
  obtain ⟨nm, q, N, bs, bm, sn, sub, ab, col, dd, k0, k1, k2, k3, k5, hC, om, ot, oi⟩ := T.cls
  obtain ⟨i', l', F⟩ := T.kd.FB
  have fw : Few kw := by cases ha <;> first | exact Or.inl rfl | exact Or.inr ⟨_, _, rfl⟩
  have hr : rest.length ≤ sizeLine := by rw [sizeLine_eq]; cases ha <;> simp
  have keep : ∀ b o, h.get? b = some o → ((h.push (kdv_tup rest)).push (excO C h.objs.size)).get? b = some o := fun b o e => Heap.get?_push_of_some _ (Heap.get?_push_of_some _ e)
  have got : ((h.push (kdv_tup rest)).push (excO C h.objs.size)).get? (h.objs.size + 1) = some (exNew C h.objs.size none) := by heap_get
  obtain ⟨mg, mb, hg, hmg, hbl, hmb⟩ := Gl.ex
  refine x_call F om fw (X _ _ hC) hr (looks_findIn X T.iC) (fun self => bind_fn X self T.tI) ?_
  refine x_init T hF ?_ (X.keeps keep) ⟨mg, mb, hg.at fun o q => keep _ _ q, hmg, hbl.at fun o q => keep _ _ q, hmb⟩ (hlim.keeps keep) (fun o z => ?_) got ha fun h' tk t1 dx ka kx kd => ⟨rfl, hq h' tk _ ⟨fun b o e => ka b o (Nat.ne_of_lt (Nat.lt_succ_of_lt (Heap.lt_size e))) (keep b o e), Nat.le_succ _, t1, dx, kx, ?_⟩⟩
  · exact hroom
  · exact absurd (Heap.lt_size (X _ _ z)) (Nat.not_lt.mpr (Nat.le_succ _))
  · cases ha with
    | non => exact kd
    | _ =>
      obtain ⟨d', e1, e2, e3⟩ := kd
      simp only [Heap.size_push] at e2
      exact ⟨d', e1, Nat.le_trans (Nat.le_add_right _ 2) e2, Nat.ne_of_gt e2, e3⟩
end
end WT
set_option Elab.async false
set_option linter.all false
set_option autoImplicit false
set_option maxRecDepth 100000
set_option maxHeartbeats 4000000
namespace WT
open PySem L2
/-- an error's class of the program, with its attribute -/
structure XErr (P : Program) (K : PySem.W.Frag) (mg : Str → Option Value) (x : Str) (C : Addr) (fld : Option Str) : Prop where
  cls : ∃ Bn newId B initId bmB fI, XCls P K Bn newId B initId bmB C fI fld
  fld : ∀ f, fld = some f → XFld f
  sup : mg "super" = none
  mg : mg x = some (.ref C)
  kp : PySem.W.keepIn K (.ref C) = true
  db : (x == ("__debug__" : Str)) = false
theorem gl_of {X : Cx} {pins : List (Addr × Obj)} {σ : L2.St} {H : Hp} {s : Shared} (I : Inv X pins σ H s) (hm : X.mg "super" = none) : XGl s.heap := by
  obtain ⟨mb, h1, h2⟩ := I.mod.blt
  exact ⟨X.mg, mb, I.mod.glob.keeps I.bk, hm, h1.keeps I.bk, (h2 "super" (by decide)).trans (by decide +kernel)⟩
/-- two new objects at once -/
theorem laid2 {X : Cx} {pins : List (Addr × Obj)} {σ : L2.St} {H : Hp} {s : Shared} {h' : Heap} {t' : Nat} {a b : Addr} {o u : HO} (I : Inv X pins σ H s) (k : ∀ c q, s.heap.get? c = some q → h'.get? c = some q) (ha : s.heap.objs.size ≤ a) (hb : s.heap.objs.size ≤ b)
    (na : ObjOk X.prog X.w (upd (upd H b u) a o) h' a o) (nb : a ≠ b → ObjOk X.prog X.w (upd (upd H b u) a o) h' b u) : Inv X pins σ (upd (upd H b u) a o) { s with heap := h', toks := t' } := by
  have fa := I.hok.fresh ha
  have fb := I.hok.fresh hb
  have lt : ∀ {c q}, s.heap.get? c = some q → c ≠ a ∧ c ≠ b := fun {c q} e => ⟨Nat.ne_of_lt (Nat.lt_of_lt_of_le (Heap.lt_size e) ha), Nat.ne_of_lt (Nat.lt_of_lt_of_le (Heap.lt_size e) hb)⟩
  have up : ∀ {c q}, H c = some q → upd (upd H b u) a o c = some q := fun {c q} e => by rw [upd_ne (ne_of_none e fa), upd_ne (ne_of_none e fb)]; exact e
  refine I.un ⟨fun c q e _ _ _ => k c q e, fun c q e _ _ _ => ⟨q.slots, k c q e⟩, fun c q e n _ => by rw [upd_ne (lt e).1, upd_ne (lt e).2]; exact n, fun c q e _ => ⟨q, k c q e⟩, fun c xs e => up e, fun c q v e => up e, fun c ps e => ⟨#[], by rw [up e]; simp⟩⟩ fun c q e => ?_
  by_cases h1 : c = a
  · subst h1
    rw [upd_same] at e
    cases e
    exact na
  · rw [upd_ne h1] at e
    by_cases h2 : c = b
    · subst h2
      rw [upd_same] at e
      cases e
      exact nb (Ne.symm h1)
    · rw [upd_ne h2] at e
      exact (I.hok c q e).stay (fun d v _ z => k d v z) (fun d z => up z) fun d xs z => up z
section
variable {G : Type} {X : Cx} {S : Sys G} {g : G} {ρ : En} {P : Po G} {e : Expr} {d : D} {x f : Str} {C : Addr} {p pos kpos : Pos} {k : Nat}
theorem depth_of {A : Around} (hr : RG k A) : A.depth + 1 < recursionLimit := by
  have := hr.room.dp
  omega
/-- what the call of the class leaves -/
theorem err_end {pins : List (Addr × Obj)} {σ : L2.St} {H : Hp} {s : Shared} {h' : Heap} {tk : Nat} {a : Addr} {v : V} {u : Value} (I : Inv X pins σ H s) (m : Made s.heap h' C a (some f) (some u)) (r : RelV v u) (j : S.J g H) (t : Dt X.K S H v d) :
    EP X pins σ (Good X.K S H (Is g (.err C [(f, d)]))) (.ref a) { s with heap := h', toks := tk } := by
  obtain ⟨k, ha, t1, dx, ho, d1, rfl, hd, hne, hn⟩ := m
  have fa := I.hok.fresh ha
  have fd := I.hok.fresh hd
  have fa' : upd H d1 (exd d1 [(f, v)]) a = none := by rw [upd_ne hne.symm]; exact fa
  refine ⟨.ref a, upd (upd H d1 (exd d1 [(f, v)])) a (exo a C (some d1)), laid2 I k ha hd (exo_ok ho) (fun _ => exd_ok hn (relO_put (fs := []) r fun _ => True.intro)), rfl, ?_⟩
  have e1 : S.Ext H (upd H d1 (exd d1 [(f, v)])) := Sys.Ext.new fd
  have e2 : S.Ext (upd H d1 (exd d1 [(f, v)])) (upd (upd H d1 (exd d1 [(f, v)])) a (exo a C (some d1))) := Sys.Ext.new fa'
  exact ⟨_, g, ⟨rfl, rfl⟩, e1.trans e2, Sys.new fa' (Sys.new fd j), .err upd_same (Sys.fresh fa j) (by rw [upd_ne hne]; exact upd_same) (Sys.fresh fd j) (.cons (t.ext (e1.trans e2)) .nil)⟩
theorem callD_err (T : XErr X.prog X.K X.mg x C (some f)) (hr : RG k X.A) : CallD X S g (.ref C) [d] (Is g (.err C [(f, d)])) := fun pins s σ H xs us I rx j h1 => by
  obtain ⟨Bn, newId, B, initId, bmB, fI, Tc⟩ := T.cls
  cases h1 with
  | cons t h2 =>
    cases h2
    cases rx with
    | cons r rx' =>
      cases rx'
      obtain ⟨hp, gs, dr, tk, os⟩ := s
      exact wpAny_call (x_made Tc T.fld (depth_of hr) I.kIn (gl_of I T.sup) I.nolimit .pos fun h' tk' a m => err_end I m r j t)
/-- C(e) -/
theorem ev_err (T : XErr X.prog X.K X.mg x C (some f)) (hr : RG k X.A) (h : EVd X S g ρ e d) (hg : Gl X x := by rfl)
    (he : starEach [e] X.env = (false, eval e X.env) :: starEach [] X.env := by rfl) : EVd X S g ρ (.Call (.Name x p) [e] [] pos) (.err C [(f, d)]) :=
  PE.of (pe_callV (callR_of (Q' := Iss g [d]) fun ds g1 z => by obtain ⟨rfl, rfl⟩ := z; exact callD_err T hr) T.mg T.kp (ea_cons h ea_nil he) hg T.db he rfl) fun σ H Q ⟨r, j, q⟩ => ⟨r, j, fun vs H1 ds g1 p1 e1 j1 t1 => ⟨ds, g1, p1, j1, t1, fun v H' d' g' p' e' j' t' => q v H' d' g' p' (e1.trans e') j' t'⟩⟩
/-- C(f=e) -/
theorem ev_errK (T : XErr X.prog X.K X.mg x C (some f)) (hr : RG k X.A) (h : EVd X S g ρ e d) (hg : Gl X x := by rfl) : EVd X S g ρ (.Call (.Name x p) [] [⟨some f, e, kpos⟩] pos) (.err C [(f, d)]) := by
  obtain ⟨Bn, newId, B, initId, bmB, fI, Tc⟩ := T.cls
  refine ⟨fun pins s σ H Q I hq => wpAny_Call_Name_kw (ld_glob I hg T.mg (PySem.W.callWith_KW0 (h₀ := X.base) I.ok.mod.kin T.kp rfl (thn ((pk_cons (kpos := kpos) (nm := some f) h pk_nil).run pos pins s σ H (fun zs H1 => ∃ v, zs = [v] ∧ S.Ext H H1 ∧ S.J g H1 ∧ Dt X.K S H1 v d) I ?_) fun us s1 z => ⟨?_, ?_⟩)) T.db)⟩
  · obtain ⟨r, j, q⟩ := hq
    exact ⟨r, j, fun v H1 d' g' pp e1 j1 t1 => by
      obtain ⟨rfl, rfl⟩ := pp
      exact ⟨v, rfl, e1, j1, t1⟩⟩
  · obtain ⟨vs, H1, I1, _⟩ := z
    exact I1.kIn
  · obtain ⟨vs, H1, I1, rv, v, rfl, e1, j1, t1⟩ := z
    obtain ⟨r, j, q⟩ := hq
    cases rv with
    | @cons _ u _ us' ru rx' =>
      cases rx'
      obtain ⟨hp, gs, dr, tk, os⟩ := s1
      refine wpAny_call (x_made Tc T.fld (depth_of hr) I1.kIn (gl_of I1 T.sup) I1.nolimit .kw fun h' tk' a m => ?_)
      obtain ⟨z, H', I', r', d', g', p', e', j', t'⟩ := err_end I1 m ru j1 t1
      exact ⟨z, H', I', r', q z H' d' g' p' (e1.trans e') j' t'⟩
/-- C() -/
theorem ev_err0 (T : XErr X.prog X.K X.mg x C none) (hr : RG k X.A) (hg : Gl X x := by rfl) : EVd X S g ρ (.Call (.Name x p) [] [] pos) (.err0 C) := by
  obtain ⟨Bn, newId, B, initId, bmB, fI, Tc⟩ := T.cls
  refine ⟨fun pins s σ H Q I ⟨r, j, q⟩ => wpAny_Call_Name_kw (ld_glob I hg T.mg (PySem.W.callWith_K0 I.kIn T.kp ?_) T.db)⟩
  obtain ⟨hp, gs, dr, tk, os⟩ := s
  refine wpAny_call (x_made Tc T.fld (depth_of hr) I.kIn (gl_of I T.sup) I.nolimit .non fun h' tk' a m => ?_)
  obtain ⟨k, ha, t1, dx, ho, rfl⟩ := m
  have fa := I.hok.fresh ha
  exact ⟨.ref a, upd H a (exo a C none), I.laid (t' := tk') (h' := h') k ha (exo_ok ho), rfl, q _ _ (.err0 C) g ⟨rfl, rfl⟩ (Sys.Ext.new fa) (Sys.new fa j) (.err0 upd_same (Sys.fresh fa j))⟩
end
end WT
set_option Elab.async false
set_option linter.all false
set_option autoImplicit false
set_option maxRecDepth 100000
set_option maxHeartbeats 4000000
namespace WT
open PySem L2
/-- the same, with what has been known since H0 -/
def Sys.since {G : Type} (S : Sys G) (H0 : Hp) : Sys G where
  M := S.M
  W := fun a => S.W a ∨ H0 a ≠ none
  sub := fun a h => Or.inl (S.sub a h)
  J := fun g H => S.J g H ∧ S.Ext H0 H
  dom := fun g H a h m => m.elim (S.dom g H a h.1) fun n z => by
    by_cases hm : S.M a
    · exact S.dom g H a h.1 (S.sub a hm) z
    · cases e : H0 a with
      | none => exact n e
      | some o =>
        rw [h.2 a o e hm] at z
        cases z
  loc := fun g H H' h k => ⟨S.loc g H H' h.1 fun a m => k a (Or.inl m), fun a o e n => by
    rw [k a (Or.inr (by rw [e]; exact fun z => nomatch z))]
    exact h.2 a o e n⟩
section
variable {G : Type} {K : PySem.W.Frag} {S : Sys G} {H0 H H' : Hp} {g : G}
theorem since_ext : (S.since H0).Ext H H' ↔ S.Ext H H' := Iff.rfl
theorem Dt.since {v : V} {d : D} (h : Dt K S H v d) : Dt K (S.since H0) H v d := Dt.to (S := S) (S' := S.since H0) (Sys.Ext.refl H) (fun _ n _ => n) h
theorem Dt.unsince {v : V} {d : D} (h : Dt K (S.since H0) H v d) : Dt K S H v d := Dt.to (S := S.since H0) (S' := S) (Sys.Ext.refl H) (fun _ n _ => n) h
theorem DtL.since {v : List V} {d : List D} (h : DtL K S H v d) : DtL K (S.since H0) H v d := DtL.to (S := S) (S' := S.since H0) (Sys.Ext.refl H) (fun _ n _ => n) h
theorem DtL.unsince {v : List V} {d : List D} (h : DtL K (S.since H0) H v d) : DtL K S H v d := DtL.to (S := S.since H0) (S' := S) (Sys.Ext.refl H) (fun _ n _ => n) h
theorem DtF.since {v : List (Str × V)} {d : List (Str × D)} (h : DtF K S H v d) : DtF K (S.since H0) H v d := DtF.to (S := S) (S' := S.since H0) (Sys.Ext.refl H) (fun _ n _ => n) h
theorem DtF.unsince {v : List (Str × V)} {d : List (Str × D)} (h : DtF K (S.since H0) H v d) : DtF K S H v d := DtF.to (S := S.since H0) (S' := S) (Sys.Ext.refl H) (fun _ n _ => n) h
theorem Rep.since {σ : L2.St} {ρ : En} (r : Rep K S H σ ρ) : Rep K (S.since H0) H σ ρ := ⟨r.1, fun i d h => by
  obtain ⟨v, h1, h2⟩ := r.2 i d h
  exact ⟨v, h1, h2.since⟩⟩
theorem Rep.unsince {σ : L2.St} {ρ : En} (r : Rep K (S.since H0) H σ ρ) : Rep K S H σ ρ := ⟨r.1, fun i d h => by
  obtain ⟨v, h1, h2⟩ := r.2 i d h
  exact ⟨v, h1, h2.unsince⟩⟩
theorem Rep.unset {σ : L2.St} {ρ : En} (i : Nat) (r : Rep K S H σ ρ) : Rep K S H (σ.set i none) (ρ.set i none) := by
  refine ⟨by simp [r.1], fun j d q => ?_⟩
  by_cases hj : i = j
  · subst hj
    rw [List.getElem?_set] at q
    split at q
    · split at q <;> cases q
    · rename_i n
      exact absurd rfl n
  · rw [List.getElem?_set_ne hj] at q
    obtain ⟨v, h1, h2⟩ := r.2 j d q
    exact ⟨v, by rw [List.getElem?_set_ne hj]; exact h1, h2⟩
/-- an exception in the air: its class, its attributes -/
def ExD (K : PySem.W.Frag) (S : Sys G) (H : Hp) (cls : Value) (dx : Option Addr) (C : Addr) (fs : List (Str × D)) : Prop :=
  cls = .ref C ∧ ((fs = [] ∧ dx = none) ∨ ∃ d xs, dx = some d ∧ H d = some (.xd xs) ∧ ¬ S.M d ∧ DtF K S H xs fs)
theorem ExD.since {cls : Value} {dx : Option Addr} {C : Addr} {fs : List (Str × D)} (h : ExD K S H cls dx C fs) : ExD K (S.since H0) H cls dx C fs := ⟨h.1, h.2.imp id fun ⟨d, xs, h1, h2, h3, h4⟩ => ⟨d, xs, h1, h2, h3, h4.since⟩⟩
theorem ExD.unsince {cls : Value} {dx : Option Addr} {C : Addr} {fs : List (Str × D)} (h : ExD K (S.since H0) H cls dx C fs) : ExD K S H cls dx C fs := ⟨h.1, h.2.imp id fun ⟨d, xs, h1, h2, h3, h4⟩ => ⟨d, xs, h1, h2, h3, h4.unsince⟩⟩
end
/-- the exceptions that may leave: class, attributes, the state then -/
abbrev Px (G : Type) := Addr → List (Str × D) → G → Prop
def wX {G : Type} (K : PySem.W.Frag) (S : Sys G) (ρ : En) (PX : Px G) : WX := fun cls dx σ H => ∃ C fs g', PX C fs g' ∧ S.J g' H ∧ Rep K S H σ ρ ∧ ExD K S H cls dx C fs
/-- the context takes these exceptions -/
def TK {G : Type} (X : Cx) (S : Sys G) (ρ : En) (PX : Px G) : Prop := Takes X (wX X.K S ρ PX)
section
variable {G : Type} {X : Cx} {S : Sys G} {g : G} {ρ : En} {P : Po G} {PX : Px G} {e : Expr} {d : D} {x f : Str} {C : Addr} {p pos kpos : Pos} {k : Nat} {O : Ou G}
theorem TK.forget {ρ' : En} (t : TK X S ρ' PX) (hl : ρ'.length = ρ.length) (h : ∀ (i : Nat) (d : D), ρ'[i]? = some (some d) → ρ[i]? = some (some d)) : TK X S ρ PX := Takes.imp t fun _ _ _ _ ⟨C, fs, g', p, j, r, x⟩ => ⟨C, fs, g', p, j, r.forget hl h, x⟩
/-- raise C(e) -/
theorem sv_raise (T : XErr X.prog X.K X.mg x C (some f)) (hr : RG k X.A) (hc : X.calm = true) (hR : Raises X (.ref C)) (tk : TK X S ρ PX) (h : EVd X S g ρ e d) (w : PX C [(f, d)] g) (hg : Gl X x := by rfl)
    (he : starEach [e] X.env = (false, eval e X.env) :: starEach [] X.env := by rfl) : SV X S g ρ (.Raise (some (.Call (.Name x p) [e] [] pos)) none kpos) O := by
  obtain ⟨Bn, newId, B, initId, bmB, fI, Tc⟩ := T.cls
  refine PS.of (ps_raise (t := fun σ H Q => Rep X.K S H σ ρ ∧ S.J g H ∧ ∀ cls dx H', S.Ext H H' → S.J g H' → ExD X.K S H' cls dx C [(f, d)] → Q cls dx H') hc tk fun pins s σ H Q I ⟨r, j, q⟩ => ?_) fun E σ H ⟨r, j, q⟩ => ⟨r, j, fun cls dx H' e' j' z => ⟨C, _, g, w, j', r.ext e', z⟩⟩
  refine wpAny_Call_Name_kw (ld_glob I hg T.mg (PySem.W.callWith_K (h₀ := X.base) I.ok.mod.kin T.kp (thn ((ea_cons h ea_nil he).run pos pins s σ H (fun vs H1 => ∃ v, vs = [v] ∧ S.Ext H H1 ∧ S.J g H1 ∧ Dt X.K S H1 v d) I ?_) fun us s1 z => ⟨?_, ?_⟩) he rfl) T.db)
  · refine ⟨r, j, fun vs H1 ds g1 pp e1 j1 t1 => ?_⟩
    obtain ⟨rfl, rfl⟩ := pp
    cases t1 with
    | cons t h2 =>
      cases h2
      exact ⟨_, rfl, e1, j1, t⟩
  · obtain ⟨vs, H1, I1, _⟩ := z
    exact I1.kIn
  · obtain ⟨vs, H1, I1, rv, v, rfl, e1, j1, t1⟩ := z
    cases rv with
    | @cons _ u _ us' ru rx' =>
      cases rx'
      obtain ⟨hp, gs, dr, tk', os⟩ := s1
      refine wpAny_call (x_made Tc T.fld (depth_of hr) I1.kIn (gl_of I1 T.sup) I1.nolimit .pos fun h' tk2 a m => ?_)
      obtain ⟨kk, ha, t1', dx, ho, d1, rfl, hd, hne, hn⟩ := m
      obtain ⟨Gp, g1, g2⟩ := restrict h' fun b => decide (b ≠ a)
      have gk : ∀ b, b ≠ a → Gp.get? b = h'.get? b := fun b hb => g1 b (decide_eq_true hb)
      have ga : Gp.get? a = none := g2 a (by simp)
      have fd := I1.hok.fresh hd
      have fa := I1.hok.fresh ha
      have nha : ∀ {b : Addr} {o : Obj}, hp.get? b = some o → b ≠ a := fun {b o} z => Nat.ne_of_lt (Nat.lt_of_lt_of_le (Heap.lt_size z) ha)
      have I2 : Inv X pins σ (upd H1 d1 (.xd [(f, v)])) ⟨Gp, gs, dr, tk2, os⟩ := I1.laid (t' := tk2) (h' := Gp) (o := .xd [(f, v)]) (fun b o z => by rw [gk b (nha z)]; exact kk b o z) hd ⟨_, hn.at fun o z => by rw [gk d1 hne]; exact z, relO_put (fs := []) ru fun _ => True.intro⟩
      refine ⟨a, _, _, ⟨Gp, gs, dr, tk2, os⟩, upd H1 d1 (.xd [(f, v)]), .ref C, some d1, rfl, I2, fun b o z => ?_, ga, ho, ⟨rfl, rfl⟩, rfl, rfl, by rw [upd_ne hne.symm]; exact fa, rfl, I1.bare, hR, q _ _ _ (e1.trans (Sys.Ext.new fd)) (Sys.new fd j1) ⟨rfl, .inr ⟨d1, _, rfl, upd_same, Sys.fresh fd j1, .cons (t1.ext (Sys.Ext.new fd)) .nil⟩⟩⟩
      by_cases hb : b = a
      · rw [hb, ga] at z
        cases z
      · rw [← gk b hb]
        exact z
/-- raise C() -/
theorem sv_raise0 (T : XErr X.prog X.K X.mg x C none) (hr : RG k X.A) (hc : X.calm = true) (hR : Raises X (.ref C)) (tk : TK X S ρ PX) (w : PX C [] g) (hg : Gl X x := by rfl) : SV X S g ρ (.Raise (some (.Call (.Name x p) [] [] pos)) none kpos) O := by
  obtain ⟨Bn, newId, B, initId, bmB, fI, Tc⟩ := T.cls
  refine PS.of (ps_raise (t := fun σ H Q => Rep X.K S H σ ρ ∧ S.J g H ∧ Q (.ref C) none H) hc tk fun pins s σ H Q I ⟨r, j, q⟩ => ?_) fun E σ H ⟨r, j, q⟩ => ⟨r, j, ⟨C, _, g, w, j, r, rfl, .inl ⟨rfl, rfl⟩⟩⟩
  refine wpAny_Call_Name_kw (ld_glob I hg T.mg (PySem.W.callWith_K0 I.kIn T.kp ?_) T.db)
  obtain ⟨hp, gs, dr, tk', os⟩ := s
  refine wpAny_call (x_made Tc T.fld (depth_of hr) I.kIn (gl_of I T.sup) I.nolimit .non fun h' tk2 a m => ?_)
  obtain ⟨kk, ha, t1, dx, ho, rfl⟩ := m
  have na : hp.get? a = none := by
    cases z : hp.get? a with
    | none => rfl
    | some o => exact absurd (Nat.lt_of_lt_of_le (Heap.lt_size z) ha) (Nat.lt_irrefl _)
  exact ⟨a, _, _, ⟨hp, gs, dr, tk', os⟩, H, .ref C, none, rfl, I, kk, na, ho, ⟨rfl, rfl⟩, rfl, rfl, I.hok.fresh ha, rfl, I.bare, hR, q⟩
end
end WT
set_option Elab.async false
set_option linter.all false
set_option autoImplicit false
set_option maxRecDepth 100000
set_option maxHeartbeats 4000000
namespace WT
open PySem L2 PyProof.Rows PySem.W
section
variable {G : Type} {X : Cx} {S : Sys G} {g : G} {ρ : En} {P : Po G} {PX : Px G} {e : Expr} {d : D} {x f : Str} {C C' : Addr} {p pos kpos : Pos} {k : Nat} {O : Ou G} {b : Bool}
/-- where an error stands -/
def IsErr (C : Addr) (d : D) : Prop := d = .err0 C ∨ ∃ fs, d = .err C fs
theorem inst_err {pins : List (Addr × Obj)} {σ : L2.St} {H : Hp} {s : Shared} {v : V} (I : Inv X pins σ H s) (hd : IsErr C d) (t : Dt X.K S H v d) : ∃ a ox od, v = .ref a ∧ PySem.W.InstAt s.heap a ox C od := by
  rcases hd with rfl | ⟨fs, rfl⟩
  · cases t with
    | @err0 a _ h n =>
      obtain ⟨t1, ho⟩ := exo_at I.hok h
      exact ⟨a, _, none, rfl, ho, rfl, rfl, trivial⟩
  · cases t with
    | @err a _ dx xs _ h n h' n' r =>
      obtain ⟨t1, ho⟩ := exo_at I.hok h
      obtain ⟨mA, hns, _⟩ := exd_at I.hok h'
      obtain ⟨od, hod, _⟩ := lookIn_ns hns
      exact ⟨a, _, some od, rfl, ho, rfl, rfl, hod⟩
/-- isinstance of an error and a class of the program -/
theorem callD_isE (A : ExcC X.K C) (hd : IsErr C d) (h : PySem.W.kitOne X.K (.ref C) (.ref C') = some b) : CallD X S g (.builtin "isinstance") [d, .ref C'] (Is g (.bl b)) := fun pins s σ H xs us I rx j t => by
  cases t with
  | cons t t2 =>
    cases t2 with
    | cons t3 t4 =>
      cases t4
      cases t3
      obtain ⟨a, ox, od, rfl, J⟩ := inst_err I hd t
      obtain ⟨u1, u2, rfl, r1, r2⟩ := vals2 rx
      obtain rfl : u1 = Value.ref a := r1
      obtain rfl : u2 = Value.ref C' := r2
      refine PySem.W.kia_one (PySem.W.kitx_exc (by obtain ⟨cd, hc, _⟩ := PySem.W.any_some A.hd; rw [hc]; rfl) A.hg A.hk A.hs A.ha A.hn A.ht A.hm) I.kIn J h (fun z => nomatch z) fun tk => ⟨.bl b, H, I.tok tk, rfl, good_same j (.bl b) ⟨rfl, rfl⟩⟩
/-- .. and a built-in class -/
theorem callD_isT {n : String} (A : ExcC X.K C) (hd : IsErr C d) (h : PySem.W.kitOne X.K (.ref C) (.type n) = some b) : CallD X S g (.builtin "isinstance") [d, .ty n] (Is g (.bl b)) := fun pins s σ H xs us I rx j t => by
  cases t with
  | cons t t2 =>
    cases t2 with
    | cons t3 t4 =>
      cases t4
      cases t3
      obtain ⟨a, ox, od, rfl, J⟩ := inst_err I hd t
      obtain ⟨u1, u2, rfl, r1, r2⟩ := vals2 rx
      obtain rfl : u1 = Value.ref a := r1
      obtain rfl : u2 = Value.type n := r2
      refine PySem.W.kia_one (PySem.W.kitx_exc (by obtain ⟨cd, hc, _⟩ := PySem.W.any_some A.hd; rw [hc]; rfl) A.hg A.hk A.hs A.ha A.hn A.ht A.hm) I.kIn J h (fun z => nomatch z) fun tk => ⟨.bl b, H, I.tok tk, rfl, good_same j (.bl b) ⟨rfl, rfl⟩⟩
/-- e.f, e an error -/
theorem ev_errGet (A : ExcC X.K C) (hno : PySem.W.findIn X.K (.ref C) f = some none) (h : EVd X S g ρ e (.err C [(f, d)])) (hb : attributeBase e f X.env (eval e X.env) = eval e X.env := by rfl) : EVd X S g ρ (.Attribute e f pos) d := by
  refine ⟨fun pins s σ H Q I ⟨r, j, q⟩ => attr_of hb (thn (h.run pins s σ H (fun v H1 => S.Ext H H1 ∧ S.J g H1 ∧ Dt X.K S H1 v (.err C [(f, d)])) I ⟨r, j, fun v H1 d' g' pp e1 j1 t1 => by obtain ⟨rfl, rfl⟩ := pp; exact ⟨e1, j1, t1⟩⟩) fun u s1 ⟨v, H1, I1, rv, e1, j1, t1⟩ => ?_)⟩
  cases t1 with
  | @err a _ dx xs _ h1 n1 h2 n2 rr =>
    cases rr with
    | @cons _ y _ _ _ ty rr2 =>
      cases rr2
      obtain rfl : u = Value.ref a := rv
      obtain ⟨t0, ho⟩ := exo_at I1.hok h1
      obtain ⟨mA, hns, hr⟩ := exd_at I1.hok h2
      obtain ⟨od, hod, hl⟩ := lookIn_ns hns
      have lk : List.lookup f [(f, y)] = some y := by simp [List.lookup]
      obtain ⟨u, hu, ru⟩ := RelO.some_of (v := y) (o := mA f) (by rw [← lk]; exact hr f)
      have J : PySem.W.InstAt s1.heap a { cls := .ref C, dict := some dx, data := .fields #[.ref t0, .none, .none, .none, .bool false, .none] } C (some od) := ⟨ho, rfl, rfl, hod⟩
      exact HandSPX.exc_get I1.kIn J A.hg A.hk A.hs (PySem.W.findObj_own A.hd hno rfl (by rw [hl, hu])) (handed_of ru) ⟨y, H1, I1.tok _, ru, q y H1 d g ⟨rfl, rfl⟩ e1 j1 ty⟩
/-- e.f, e the error that the suite holds -/
theorem ev_exnGet {a dx : Addr} {oe : Obj} {pn : List (Addr × Obj)} (A : ExcC X.K C) (hno : PySem.W.findIn X.K (.ref C) f = some none) (hz : Zc (.ref C) (some dx) oe) (hf : ∃ vs, oe.data = .fields vs)
    (h : EVd (X.suite a ((a, oe) :: pn)) S g ρ e (.exn a dx [(f, d)])) (hb : attributeBase e f X.env (eval e X.env) = eval e X.env := by rfl) : EVd (X.suite a ((a, oe) :: pn)) S g ρ (.Attribute e f pos) d := by
  refine PE.of (pe_xf (X := X) (cls := .ref C) (d := some dx) (pn := pn) ⟨A.hg, A.hk, A.hs, A.hd⟩ hno hz hf h hb) fun σ H Q ⟨r, j, q⟩ => ⟨r, j, fun v H1 d' g' pp e1 j1 t1 => ?_⟩
  obtain ⟨rfl, rfl⟩ := pp
  cases t1 with
  | @exn _ _ xs _ h1 n1 rr =>
    cases rr with
    | @cons _ y _ _ _ ty rr2 =>
      cases rr2
      exact ⟨rfl, rfl, dx, _, y, rfl, h1, by simp [List.lookup], q y H1 d _ ⟨rfl, rfl⟩ e1 j1 ty⟩
end
/-! ### a def that may raise -/
def spX {G : Type} (K : PySem.W.Frag) (S : Sys G) (n : Nat) (pre : Ps G) (post : List D → G → Po G) (postX : List D → G → Px G) : Sp := fun vs H Q E =>
  vs.length = n ∧ ∃ ds g, DtL K S H vs ds ∧ S.J g H ∧ pre ds g ∧ (∀ v H' d g', post ds g d g' → S.Ext H H' → S.J g' H' → Dt K S H' v d → Q v H') ∧
    ∀ cls dx H' C fs g', postX ds g C fs g' → S.Ext H H' → S.J g' H' → ExD K S H' cls dx C fs → E cls dx H'
section
variable {G : Type} {P : Program} {w : World} {K : PySem.W.Frag} {mg : Str → Option Value} {base : Heap} {k : Nat} {f : Addr} {fd : FuncData} {N ps : List Str} {x qual : Str} {st : Stmt} {S : Sys G} {pre : Ps G} {post : List D → G → Po G} {postX : List D → G → Px G}
theorem fn_evX (F : Fun K x qual st f fd) (Sc : FnScope N ps (defScope st))
    (hbody : ∀ (cdv : Value) (A : Around) (outer : List Env) (s : Shared) (H : Hp) (E : XK), RG k (A.deeper (envOfC qual (defScope st) s.heap.objs.size f cdv)) → ∀ ds g, ds.length = ps.length → pre ds g →
      (∀ ρ, TK (CxB (CX P w) P w K mg base N qual st f cdv A outer s H E) (S.since H) ρ (postX ds g)) → PassesOwn (model P w) (CxB (CX P w) P w K mg base N qual st f cdv A outer s H E).A (CxB (CX P w) P w K mg base N qual st f cdv A outer s H E).env (CxB (CX P w) P w K mg base N qual st f cdv A outer s H E).xe →
      SVs (CxB (CX P w) P w K mg base N qual st f cdv A outer s H E) (S.since H) g (startE N ds) (defBody st) { nx := fun _ g' => post ds g .non g', rt := post ds g }) : FnG P w K mg base (CX P w) (k + 1) f fd ps (spX K S ps.length pre post postX) := by
  refine fnG_of F Sc (fun vs H Q E h => h.1) fun cdv A outer s H vs Q E hr h => ?_
  obtain ⟨hl, ds, g, t, j, hp, q, qx⟩ := h
  refine ⟨_, hbody cdv A outer s H E hr ds g (by rw [← t.length]; exact hl) hp (fun ρ => ?_) (passes_of rfl), rep_start t.since, ⟨j, Sys.Ext.refl H⟩, ?_⟩
  · refine Takes.imp (takes_of rfl rfl rfl rfl) fun cls dx σ H' ⟨C, fs, g', p, j', r, z⟩ => ?_
    exact qx cls dx H' C fs g' p j'.2 j'.1 z.unsince
  · exact ⟨fun s' H' r' g' p e' j' _ => q .non H' .non g' p e' j'.1 .non, fun v H' d g' p e' j' t' => q v H' d g' p e' j'.1 t'.unsince, fun _ _ _ _ p => p.elim, fun _ _ _ _ p => p.elim⟩
theorem FnG.since {CX' : CXT} {H0 : Hp} {n : Nat} (F : FnG P w K mg base CX' k f fd ps (spD K S n pre post)) : FnG P w K mg base CX' k f fd ps (spD K (S.since H0) n pre post) :=
  F.imp fun vs H Q E ⟨hl, ds, g, t, j, hp, q⟩ => ⟨hl, ds, g, t.unsince, j.1, hp, fun v H' d g' p e' j' t' => q v H' d g' p e' ⟨j', j.2.trans e'⟩ t'.since⟩
theorem FnG.sinceX {CX' : CXT} {H0 : Hp} {n : Nat} (F : FnG P w K mg base CX' k f fd ps (spX K S n pre post postX)) : FnG P w K mg base CX' k f fd ps (spX K (S.since H0) n pre post postX) :=
  F.imp fun vs H Q E ⟨hl, ds, g, t, j, hp, q, qx⟩ => ⟨hl, ds, g, t.unsince, j.1, hp, fun v H' d g' p e' j' t' => q v H' d g' p e' ⟨j', j.2.trans e'⟩ t'.since, fun cls dx H' C fs g' p e' j' z => qx cls dx H' C fs g' p e' ⟨j', j.2.trans e'⟩ z.since⟩
end
section
variable {G : Type} {X : Cx} {k : Nat} {f : Addr} {fd : FuncData} {ps : List Str} {S : Sys G} {g : G} {ρ : En} {P : Po G} {PX : Px G} {Q' : Ps G} {pre : Ps G} {post : List D → G → Po G} {postX : List D → G → Px G} {e : Expr} {es : List Expr} {x : Str} {p pos : Pos}
/-- f(e, ..), f a def that may raise -/
theorem ev_callX (A : FnAt X.K X.mg x ps f fd) (F : FnG X.prog X.w X.K X.mg X.base (CX X.prog X.w) k f fd ps (spX X.K S ps.length pre post postX)) (hr : RG k X.A) (tk : TK X S ρ PX) (ha : EA X S g ρ (e :: es) Q')
    (w : ∀ ds g1, Q' ds g1 → ds.length = ps.length ∧ pre ds g1 ∧ (∀ d g', post ds g1 d g' → P d g') ∧ ∀ C fs g', postX ds g1 C fs g' → PX C fs g')
    (hg : Gl X x := by rfl) (hdb : (x == ("__debug__" : Str)) = false := by decide) (he : starEach (e :: es) X.env = (false, eval e X.env) :: starEach es X.env := by rfl) (hpl : (backTo pos (starEach es X.env)).any (·.1) = false := by rfl) : EV X S g ρ (.Call (.Name x p) (e :: es) [] pos) P := by
  refine ⟨fun pins s σ H Q I ⟨r, j, q⟩ => wpAny_Call_Name_kw (ld_glob I hg A.mg (PySem.W.callWith_K (h₀ := X.base) I.ok.mod.kin A.kp (thn (ha.run pos pins s σ H (fun vs H1 => ∃ ds g1, Q' ds g1 ∧ S.Ext H H1 ∧ S.J g1 H1 ∧ DtL X.K S H1 vs ds) I ⟨r, j, fun vs H1 ds g1 pp e1 j1 t1 => ⟨ds, g1, pp, e1, j1, t1⟩⟩) fun us s1 ⟨vs, H1, I1, rv, ds, g1, pp, e1, j1, t1⟩ => ⟨I1.kIn, ?_⟩) he hpl) hdb)⟩
  obtain ⟨hl, hpre, hpost, hpx⟩ := w ds g1 pp
  have sp : spX X.K S ps.length pre post postX vs H1 Q (fun cls dx H' => wX X.K S ρ PX cls dx σ H') := ⟨by rw [t1.length]; exact hl, ds, g1, t1, j1, hpre, fun v H' d g' hq e' j' t' => q v H' d g' (hpost d g' hq) (e1.trans e') j' t', fun cls dx H' C fs g' hq e' j' z => ⟨C, fs, g', hpx C fs g' hq, j', r.ext (e1.trans e'), z⟩⟩
  have hl' : us.length = ps.length := rv.length.symm.trans (F.len _ _ _ _ sp)
  have bd := A.bd s1 us I1.kIn (by rw [List.append_nil]; exact hl')
  rw [List.append_nil] at bd
  show wpAny _ _ (call (.ref f) us) _ _ _
  refine wpAny_call (codeAny_mono (F.run X.A X.stack s1 H1 ⟨us, []⟩ us vs Q _ hr I1.env0 bd rv sp) fun r s' hq => ?_)
  cases r with
  | error err => exact tk err s' (XE.of_call I1 (fun cls d H' z => z) hq)
  | ok fl =>
    cases fl with
    | ret u => exact I1.after hq
    | next => exact hq.elim
    | brk => exact hq.elim
    | cont => exact hq.elim
end
end WT
set_option Elab.async false
set_option linter.all false
set_option autoImplicit false
set_option maxRecDepth 100000
set_option maxHeartbeats 4000000
namespace WT
open PySem L2 PyProof.Rows
/-- the caught error as a datum -/
def xD (a : Addr) (dx : Option Addr) (fs : List (Str × D)) : D := match dx with
  | some d => .exn a d fs
  | none => .ref a
def Ou.off {G : Type} (O : Ou G) (i : Nat) : Ou G := { nx := fun r g => O.nx (r.set i none) g, rt := O.rt, bk := fun r g => O.bk (r.set i none) g, ct := fun r g => O.ct (r.set i none) g }
/-- the clauses, one after the other: each takes some of the errors, and leaves the others to the next -/
inductive HdD {G : Type} (X : Cx) (S : Sys G) (ρ : En) (O : Ou G) : Px G → List ExceptHandler → Prop
  | nil {PX : Px G} (h : ∀ C fs g', ¬ PX C fs g') : HdD X S ρ O PX []
  | cons {PX PY : Px G} {x : Str} {c : Value} {b₀ : Stmt} {suite : List Stmt} {np pos' : Pos} {hds : List ExceptHandler} (hc : Names X x c)
      (h : ∀ C fs g', PX C fs g' → (PySem.W.exmOne X.K (.ref C) c = some true ∧ ∀ (a : Addr) (dx : Option Addr) (oe : Obj) (pn : List (Addr × Obj)), Zc (.ref C) dx oe → (∃ vs, oe.data = .fields vs) → SVs (X.suite a ((a, oe) :: pn)) S g' ρ (b₀ :: suite) O) ∨
        (PySem.W.exmOne X.K (.ref C) c = some false ∧ PY C fs g')) (r : HdD X S ρ O PY hds) : HdD X S ρ O PX (.ExceptHandler (some (.Name x np)) none (b₀ :: suite) pos' :: hds)
  | as {PX PY : Px G} {x n : Str} {i : Nat} {c : Value} {b₀ : Stmt} {suite : List Stmt} {np pos' : Pos} {hds : List ExceptHandler} (hc : Names X x c) (hi : X.N[i]? = some n) (hln : X.env.kindOf n = some .local)
      (h : ∀ C fs g', PX C fs g' → (PySem.W.exmOne X.K (.ref C) c = some true ∧ ∀ (a : Addr) (dx : Option Addr) (oe : Obj) (pn : List (Addr × Obj)), Zc (.ref C) dx oe → (∃ vs, oe.data = .fields vs) → (fs ≠ [] → dx ≠ none) → SVs (X.suite a ((a, oe) :: pn)) S g' (ρ.set i (some (xD a dx fs))) (b₀ :: suite) (O.off i)) ∨
        (PySem.W.exmOne X.K (.ref C) c = some false ∧ PY C fs g')) (r : HdD X S ρ O PY hds) : HdD X S ρ O PX (.ExceptHandler (some (.Name x np)) (some n) (b₀ :: suite) pos' :: hds)
section
variable {G : Type} {X : Cx} {S : Sys G} {g : G} {ρ ρ1 : En} {O : Ou G} {PX : Px G} {body : List Stmt} {h₀ : ExceptHandler} {hds : List ExceptHandler} {pos : Pos}
theorem exd_xD {K : PySem.W.Frag} {H : Hp} {a : Addr} {dx : Option Addr} {C : Addr} {cls : Value} {fs : List (Str × D)} (z : ExD K S H cls dx C fs) : Dt K S H (.ref a) (xD a dx fs) ∧ (fs ≠ [] → dx ≠ none) := by
  rcases z with ⟨_, ⟨rfl, rfl⟩ | ⟨d, xs, rfl, h1, h2, h3⟩⟩
  · exact ⟨.ref a, fun n => absurd rfl n⟩
  · exact ⟨.exn h1 h2 h3, fun _ n => nomatch n⟩
/-- the clauses at work: the error lies at a -/
theorem handle_ok {pins : List (Addr × Obj)} {Ed : Ends} {B : Heap} {sI s3 : Shared} {σ : L2.St} {H : Hp} {a : Addr} {cls : Value} {dx : Option Addr} (ok : X.Ok) (hs : X.stack = X.env :: X.outer) (hf : X.env.frame = some X.env.locals) (hN : X.N.Nodup)
    (J : ∀ h4, B.StaysIn h4 → s3.heap.UpToSlots h4 → Inv X pins σ H { s3 with heap := h4 }) (fl : HandSPX.FlyingZ B (X.env :: X.outer) a (Zc cls dx) s3.heap) (na : H a = none) (nL : a ≠ X.env.locals) (nF : a ∉ X.fs) (us : s3.heap.UpToSlots s3.heap)
    {hh : List ExceptHandler} (hd : HdD X S ρ1 O PX hh) : ∀ {C : Addr} {fs : List (Str × D)} {g' : G}, PX C fs g' → S.J g' H → Rep X.K S H σ ρ1 → ExD X.K S H cls dx C fs → SvEnds X.K S H O Ed →
      wpAny (model X.prog X.w) X.A (handleBy (.ref a) X.env hh) (SP X pins Ed) X.xe s3 := by
  have test : ∀ {x : Str} {c : Value} {np : Pos} {Q : Value → Shared → Prop} {E : Value → Shared → Prop}, Names X x c → Q c s3 → wpAny (model X.prog X.w) (X.A.mark (some (.ref a))) (eval (.Name x np) X.env) Q E s3 := fun {x c np Q E} hc q => by
    obtain ⟨oe, vs, he, hz, hdd⟩ := fl.there
    have S3 := (J s3.heap fl.1 us).suite he hdd na nL nF
    obtain ⟨hg, hdbg, hm | ⟨hm, hv, hnn⟩⟩ := hc
    · exact ld_glob (X := X.suite a ((a, oe) :: (X.pn ++ pins))) S3 hg hm q hdbg
    · exact ld_blt (X := X.suite a ((a, oe) :: (X.pn ++ pins))) S3 hg hm hv q hnn hdbg
  have ask : ∀ {c : Value} {b : Bool}, PySem.W.exmOne X.K cls c = some b → PySem.W.Looks (model X.prog X.w) s3.heap (excMatches (.ref a) c) b := fun {c b} e => by
    obtain ⟨oe, vs, he, hz, hdd⟩ := fl.there
    exact PySem.W.exm_one (M := model X.prog X.w) (e := a) (cls := cls) (J s3.heap fl.1 us).kIn (fun A Q E s k q => wpAny_typeOf_ref (k _ _ he) (by rw [hz.1]; exact q)) e
  induction hd with
  | nil h => intro C fs g' p; exact absurd p (h C fs g')
  | @cons PX PY x c b₀ suite np pos' hds hc h r ih =>
    intro C fs g' p j rp z en
    have hcl : cls = .ref C := z.1
    refine wpAny_handleBy_cons (codeAny_handlers_test ?_) (by intro q; cases q)
    rcases h C fs g' p with ⟨e1, go⟩ | ⟨e1, py⟩
    · refine test hc ((ask (hcl ▸ e1)).here (codeAny_handlers_suite (HandSPX.lands_againZ fl fun h4 fl4 up4 => ?_)))
      obtain ⟨oe, vs, he, hz, hdd⟩ := fl4.there
      have S4 := (J h4 fl4.1 up4).suite he hdd na nL nF
      refine wpAny_mono ((go a dx oe (X.pn ++ pins) (hcl ▸ hz) ⟨_, hdd⟩).run [] _ σ H Ed S4 ⟨rp, j, en⟩) (fun fw s6 hq => ?_) (fun _ _ z => z.elim)
      cases fw with
      | ret u => exact let ⟨v, σ', H', J', rv, q⟩ := hq; ⟨v, σ', H', J'.unsuite ok, rv, q⟩
      | _ => exact let ⟨σ', H', J', q⟩ := hq; ⟨σ', H', J'.unsuite ok, q⟩
    · exact test hc ((ask (hcl ▸ e1)).here (ih py j rp z en))
  | @as PX PY x n i c b₀ suite np pos' hds hc hi hln h r ih =>
    intro C fs g' p j rp z en
    have hcl : cls = .ref C := z.1
    refine wpAny_handleBy_cons (codeAny_handlers_test ?_) (by intro q; cases q)
    rcases h C fs g' p with ⟨e1, go⟩ | ⟨e1, py⟩
    · refine test hc ((ask (hcl ▸ e1)).here (codeAny_handlers_suite_as (HandSPX.lands_againZ fl fun h4 fl4 up4 => ?_)))
      obtain ⟨oe, vs, he, hz, hdd⟩ := fl4.there
      have S4 := (J h4 fl4.1 up4).suite he hdd na nL nF
      obtain ⟨dt, dn⟩ := exd_xD (a := a) z
      refine store_ok (X := X.suite a ((a, oe) :: (X.pn ++ pins))) (v := .ref a) S4 hN hi (.inl hln) rfl (fun s5 S5 => ?_) (.inr hln)
      refine wpAny_mono ((go a dx oe (X.pn ++ pins) (hcl ▸ hz) ⟨_, hdd⟩ dn).run [] s5 _ H { nx := fun σ' H' => Ed.nx (σ'.set i none) H', rt := Ed.rt, bk := fun σ' H' => Ed.bk (σ'.set i none) H', ct := fun σ' H' => Ed.ct (σ'.set i none) H' } S5 ⟨rp.set dt, j, ?_⟩) (fun fw s6 hq => ?_) (fun _ _ z => z.elim)
      · exact ⟨fun σ' H' r' g' p' e' j' t' => en.nx _ _ _ _ p' e' j' (t'.unset i), en.rt, fun σ' H' r' g' p' e' j' t' => en.bk _ _ _ _ p' e' j' (t'.unset i), fun σ' H' r' g' p' e' j' t' => en.ct _ _ _ _ p' e' j' (t'.unset i)⟩
      · cases fw with
        | ret u => exact let ⟨v, σ', H', J', rv, q⟩ := hq; gone_ok (J'.unsuite ok) hN hi hln fun s7 J7 => ⟨v, _, H', J7, rv, q⟩
        | _ => exact let ⟨σ', H', J', q⟩ := hq; gone_ok (J'.unsuite ok) hN hi hln fun s7 J7 => ⟨_, H', J7, q⟩
    · exact test hc ((ask (hcl ▸ e1)).here (ih py j rp z en))
/-- try .. except ..: all that the body may raise is taken by a clause -/
theorem sv_try (hs : X.stack = X.env :: X.outer) (hf : X.env.frame = some X.env.locals) (hN : X.N.Nodup)
    (hb : ∀ (H0 : Hp) (pn : List (Addr × Obj)) (xe : Value → Shared → Prop), TK (X.tr pn xe) (S.since H0) ρ1 PX → PassesOwn (model X.prog X.w) X.A X.env xe → SVs (X.tr pn xe) (S.since H0) g ρ body O)
    (hh : HdD X S ρ1 O PX (h₀ :: hds)) : SV X S g ρ (.Try body (h₀ :: hds) [] [] pos) O := by
  refine ⟨fun pins s σ H Ed I ⟨rp, j, en⟩ => ?_⟩
  have ok := I.ok
  have hfr : X.A.frames = some (X.env :: X.outer) := by rw [ok.frames, hs]
  have en' : SvEnds X.K (S.since H) H O Ed := ⟨fun σ' H' r' g' p e' j' t' => en.nx _ _ _ _ p e' j'.1 t'.unsince, fun v H' d g' p e' j' t' => en.rt _ _ _ _ p e' j'.1 t'.unsince, fun σ' H' r' g' p e' j' t' => en.bk _ _ _ _ p e' j'.1 t'.unsince, fun σ' H' r' g' p e' j' t' => en.ct _ _ _ _ p e' j'.1 t'.unsince⟩
  refine wpAny_Try_except (wpAny_mono ((hb H (X.pn ++ pins) _ ?tk PassesOwn.looking).run [] s σ H Ed (I.toTry _) ⟨rp.since, ⟨j, Sys.Ext.refl H⟩, en'⟩) (fun fw s1 hq => ?_) (fun _ _ z => z))
  case tk =>
    intro u s' xx
    obtain ⟨a, B, sI, pins', σ', H', cls, dx, rfl, J', nb, up, sky, na, os, ag, C, fs, g', p, j', r', z⟩ := xx
    have J0 : Inv X pins σ' H' sI := J'.ofTry ok
    show wpAny (model X.prog X.w) X.A (noteFrame (.ref a) X.env) _ _ _
    refine Sky.land Zc.steady hfr hf (hs ▸ sky) fun h3 fl3 up3 => ?_
    obtain ⟨oe, vs, he, hz, hdd⟩ := fl3.there
    have nfr : a ∉ frs (X.env :: X.outer) := fun hm => by
      obtain ⟨_, o', e', hnf⟩ := fl3.2.2.1.mem hm
      rw [he] at e'
      cases e'
      exact hnf _ hdd
    have nL : a ≠ X.env.locals := fun z => nfr (List.mem_filterMap.mpr ⟨X.env, List.mem_cons_self, by rw [hf, z]⟩)
    have nF : a ∉ X.fs := fun hm => by
      obtain ⟨e, h1, h2⟩ := List.mem_filterMap.mp hm
      exact nfr (List.mem_filterMap.mpr ⟨e, List.mem_cons_of_mem _ h1, h2⟩)
    exact handle_ok (s3 := { s' with heap := h3 }) (sI := sI) ok hs hf hN (fun h4 st up4 => J0.landed nb st ((up.trans up3).trans up4) os ag) fl3 na nL nF (Heap.UpToSlots.of_keeps fun _ _ z => z) hh p j'.1 r'.unsince z.unsince (en.on j'.2)
  · cases fw with
    | next => exact let ⟨σ', H', J', q⟩ := hq; wpAny_execs_nil ⟨σ', H', J'.ofTry ok, q⟩
    | ret u => exact let ⟨v, σ', H', J', rv, q⟩ := hq; ⟨v, σ', H', J'.ofTry ok, rv, q⟩
    | _ => exact let ⟨σ', H', J', q⟩ := hq; ⟨σ', H', J'.ofTry ok, q⟩
end
end WT
set_option Elab.async false
set_option linter.all false
set_option autoImplicit false
set_option maxRecDepth 100000
set_option maxHeartbeats 4000000
namespace WT
open PySem L2 PyProof.Rows
/-- T knows more than S, and what S does keeps it -/
structure Sys.Sub {G : Type} (S T : Sys G) : Prop where
  J : ∀ g H, T.J g H → S.J g H
  M : ∀ a, S.M a → T.M a
  step : ∀ g g' H H', T.J g H → (∀ a, ¬ S.M a → H' a = H a) → S.J g' H' → T.J g' H'
theorem Sys.Sub.refl {G : Type} (S : Sys G) : Sys.Sub S S := ⟨fun _ _ h => h, fun _ h => h, fun _ _ _ _ _ _ h => h⟩
theorem Sys.Sub.hold {G : Type} {S T : Sys G} {p : Addr} {o : HO} (h : Sys.Sub S T) (n : ¬ T.W p) : Sys.Sub S (T.hold p o) :=
  ⟨fun g H j => h.J g H j.1, fun a m => Or.inl (h.M a m), fun g g' H H' j k j' => ⟨h.step g g' H H' j.1 k j', by rw [k p fun m => n (T.sub p (h.M p m))]; exact j.2⟩⟩
theorem Sys.Sub.since {G : Type} {S T : Sys G} {H0 : Hp} (h : Sys.Sub S T) : Sys.Sub S (T.since H0) :=
  ⟨fun g H j => h.J g H j.1, h.M, fun g g' H H' j k j' => ⟨h.step g g' H H' j.1 k j', fun b o e n => by rw [k b fun m => n (h.M b m)]; exact j.2 b o e n⟩⟩
/-! ### the source of draws: [cells, stirred, count], changed by every draw -/
structure Dr where
  ns : List Int
  st : Int
  ct : Int
def Src (a c : Addr) : Sys Dr where
  M := fun b => b = a ∨ b = c
  W := fun b => b = a ∨ b = c
  sub := fun _ h => h
  J := fun g H => a ≠ c ∧ H a = some (.lst [.ref c, .int g.st, .int g.ct]) ∧ H c = some (.lst (g.ns.map V.int))
  dom := fun g H b h m => by
    rcases m with rfl | rfl
    · rw [h.2.1]; exact fun z => nomatch z
    · rw [h.2.2]; exact fun z => nomatch z
  loc := fun g H H' h k => ⟨h.1, by rw [k a (.inl rfl)]; exact h.2.1, by rw [k c (.inr rfl)]; exact h.2.2⟩
/-- nothing changes -/
def Zs : Sys Unit where
  M := fun _ => False
  W := fun _ => False
  sub := fun _ h => h
  J := fun _ _ => True
  dom := fun _ _ _ _ m => m.elim
  loc := fun _ _ _ _ _ => trivial
/-- data that need no heap -/
inductive Flat : D → Prop
  | non : Flat .non
  | bl (b : Bool) : Flat (.bl b)
  | int (i : Int) : Flat (.int i)
  | str (x : Str) : Flat (.str x)
section
variable {G : Type} {X : Cx} {S : Sys G} {g : G} {ρ : En} {P : Po G} {e e1 e2 : Expr} {d d1 d2 d3 d4 : D} {a c : Addr} {q : Dr} {T : Sys Dr} {pos apos cpos : Pos} {k : Nat} {O : Ou G}
theorem Flat.dt {K : PySem.W.Frag} {H H' : Hp} {G' : Type} {S' : Sys G'} {v : V} (f : Flat d) (h : Dt K S H v d) : Dt K S' H' v d := by
  cases f <;> cases h
  · exact .non
  · exact .bl _
  · exact .int _
  · exact .str _
/-- a changing thing, looked at in passing -/
theorem opD_now {f : Value → Value → Sem Value} (hop : OpD X Zs () f d3 d4 (Is () d)) (h1 : ∀ x H, S.J g H → Dt X.K S H x d1 → Dt X.K Zs H x d3) (h2 : ∀ x H, S.J g H → Dt X.K S H x d2 → Dt X.K Zs H x d4) (fl : Flat d) : OpD X S g f d1 d2 (Is g d) :=
  fun pins s σ H x y v u I rx ry j t1 t2 => thn (hop pins s σ H x y v u I rx ry trivial (h1 x H j t1) (h2 y H j t2)) fun _ _ ⟨z, H', I', r', d', g', p, e', j', t'⟩ => ⟨z, H', I', r', d, g, ⟨rfl, rfl⟩, fun b o hb _ => e' b o hb fun z => z, S.grow g H H' j fun b o hb => e' b o hb fun z => z, fl.dt (p.1 ▸ t')⟩
theorem dt_ints {K : PySem.W.Frag} {H : Hp} {b : Addr} {ns : List Int} (h : H b = some (.lst (ns.map V.int))) : Dt K Zs H (.ref b) (.lst (ns.map D.int)) := .lst h (fun z => z) (DtL.of_ints ns)
theorem pdL_ints : ∀ ns : List Int, D.pdL (ns.map D.int) = some (ns.map PyData.int)
  | [] => by simp [D.pdL]
  | n :: ns => by
    rw [List.map_cons, D.pdL, pdL_ints ns]
    simp [D.pd]
theorem canLay_ints : ∀ ns : List Int, PyData.canLayAll0 (ns.map PyData.int) = true
  | [] => by simp [PyData.canLayAll0]
  | n :: ns => by simp [PyData.canLayAll0, PyData.canLay0, canLay_ints ns]
theorem depth_ints : ∀ ns : List Int, PyData.depthAll (ns.map PyData.int) = 0
  | [] => by simp [PyData.depthAll]
  | n :: ns => by simp [PyData.depthAll, PyData.depth, depth_ints ns]
/-! reads of the source -/
theorem ix_src0 (R : Sys.Sub (Src a c) T) : IxD X T q (.ref a) (.int 0) (Is q (.ref c)) := ⟨_, ix_list, fun x y H jj t1 t2 => by
  cases t1
  cases t2
  exact ⟨_, _, _, _, rfl, rfl, SqL.of (R.J _ _ jj).2.1, rfl, good_same jj (.ref c) ⟨rfl, rfl⟩⟩⟩
theorem ix_src1 (R : Sys.Sub (Src a c) T) : IxD X T q (.ref a) (.int 1) (Is q (.int q.st)) := ⟨_, ix_list, fun x y H jj t1 t2 => by
  cases t1
  cases t2
  exact ⟨_, _, _, _, rfl, rfl, SqL.of (R.J _ _ jj).2.1, rfl, good_same jj (.int _) ⟨rfl, rfl⟩⟩⟩
theorem ix_src2 (R : Sys.Sub (Src a c) T) : IxD X T q (.ref a) (.int 2) (Is q (.int q.ct)) := ⟨_, ix_list, fun x y H jj t1 t2 => by
  cases t1
  cases t2
  exact ⟨_, _, _, _, rfl, rfl, SqL.of (R.J _ _ jj).2.1, rfl, good_same jj (.int _) ⟨rfl, rfl⟩⟩⟩
/-- source[0] != [] -/
theorem op_src (R : Sys.Sub (Src a c) T) (hu : X.A.units + 64 < cLine) (hs : q.ns.length ≤ 1000) : OpD X T q (compareOp .NotEq) (.ref c) (.lst []) (Is q (.bl (!decide (q.ns = [])))) := by
  have h := opD_ne (X := X) (S := Zs) (g := ()) (d1 := .lst (q.ns.map D.int)) (d2 := .lst []) hu ?_ ?_
  · have e : eqD (.lst (q.ns.map D.int)) (.lst []) = decide (q.ns = []) := by
      unfold eqD
      simp only [D.pd, pdL_ints, Option.map_some]
      cases hn : q.ns with
      | nil => rfl
      | cons n ns => simp [D.pdL, PyData.eqv, PyData.eqvAll]
    rw [e] at h
    exact opD_now h (fun x H j t => by cases t; exact dt_ints (R.J _ _ j).2.2) (fun x H j t => by cases t with | lst h1 n1 l1 => cases l1; exact .lst h1 (fun z => z) .nil) (.bl _)
  · refine ⟨.list (q.ns.map PyData.int), by simp [D.pd, pdL_ints], ?_⟩
    unfold SeqAt.shaped
    rw [PyData.canLay0, canLay_ints, PyData.depth, depth_ints]
    rfl
  · exact ⟨.list [], by simp [D.pd, D.pdL], rfl⟩
/-- source[2] = e -/
theorem sv_count {n : Int} {O : Ou Dr} {p' : Pos} (R : Sys.Sub (Src a c) T) (ho : EVd X T q ρ e1 (.ref a)) (hi : EVd X T q ρ e2 (.int 2)) (he : EVd X T q ρ e (.int n)) (w : O.nx ρ { q with ct := n })
    (hs : swapsWithSole [.Subscript e1 e2 p'] e pos.line X.env = pure false := by rfl) (hw : swappedStores [.Subscript e1 e2 p'] e X.env = pure none := by rfl) (h1 : (assignEach [.Subscript e1 e2 p'] X.env).map (·.2) = [assign (.Subscript e1 e2 p') X.env] := by rfl)
    (ha : ∀ v, assign (.Subscript e1 e2 p') X.env v = (do
      let ov ← holding [v] (eval e1 X.env)
      let iv ← holding [v, ov] (eval e2 X.env)
      standAt p'
      holding [v, ov, iv] (setItem ov iv v)
      release [v, ov, iv] []) := by intro _; rfl) : SV X T q ρ (.Assign [.Subscript e1 e2 p'] e pos) O := by
  refine PS.of (ps_asg he (pg_sub ho hi set_list ha) hs hw h1) fun E σ H ⟨r, j, en⟩ => ⟨r, j, fun v H1 d1 g1 p1 x1 j1 t1 => ?_⟩
  obtain ⟨rfl, rfl⟩ := p1
  refine ⟨r.ext x1, j1, fun o H2 d2 g2 p2 x2 j2 t2 => ?_⟩
  obtain ⟨rfl, rfl⟩ := p2
  refine ⟨r.ext (x1.trans x2), j2, fun i H3 d3 g3 p3 x3 j3 t3 => ?_⟩
  obtain ⟨rfl, rfl⟩ := p3
  cases t1
  cases t2
  cases t3
  have k3 := R.J _ _ j3
  have ex : T.Ext H3 (upd H3 a (.lst [.ref c, .int g3.st, .int n])) := fun b o hb nb => by rw [upd_ne fun z => nb (R.M b (.inl z))]; exact hb
  exact ⟨a, _, 2, 2, rfl, rfl, k3.2.1, rfl, en.nx _ _ _ _ w ((x1.trans x2).trans (x3.trans ex)) (R.step _ _ _ _ j3 (fun b nb => upd_ne fun z => nb (.inl z)) ⟨k3.1, upd_same, by rw [upd_ne k3.1.symm]; exact k3.2.2⟩) ((r.ext ((x1.trans x2).trans x3)).ext ex)⟩
/-- source[0].pop(0) -/
theorem ev_pop {n : Int} {ns : List Int} (R : Sys.Sub (Src a c) T) (ho : EVd X T q ρ e1 (.ref c)) (hi : EVd X T q ρ e2 (.int 0)) (hn : q.ns = n :: ns) (hb : attributeBase e1 "pop" X.env (eval e1 X.env) = eval e1 X.env := by rfl)
    (hfew : ((backTo cpos (starEach [e2] X.env)).all (fun x => !x.1) && (backToKw cpos (keywordEach [] X.env)).all (fun x => x.1.isSome)
      && decide (([e2] : List Expr).length + ([] : List Keyword).length + (if ([] : List Keyword).isEmpty then 0 else 1) < 30)) = true := by rfl)
    (hline : (apos.endLine == cpos.line) = true := by rfl) (hs : starEach [e2] X.env = (false, eval e2 X.env) :: starEach [] X.env := by rfl) :
    EV X T q ρ (.Call (.Attribute e1 "pop" apos) [e2] [] cpos) (fun d g' => d = .int n ∧ g' = { q with ns := ns }) := by
  refine PE.of (pe_bm F.plainAttrs_list F.slot_list_pop F.type_list_pop mt_popAt ho (ea_cons hi ea_nil hs) hb hfew hline hs rfl) fun σ H Q ⟨r, j, w⟩ => ⟨r, j, fun o H1 d1 g1 p1 x1 j1 t1 => ?_⟩
  obtain ⟨rfl, rfl⟩ := p1
  cases t1
  refine ⟨.inl ⟨rfl, _, SqL.of (R.J _ _ j1).2.2⟩, r.ext x1, j1, fun vs H2 d2 g2 p2 x2 j2 t2 => ?_⟩
  obtain ⟨rfl, rfl⟩ := p2
  cases t2 with
  | cons t t3 =>
    cases t3
    cases t
    have k2 := R.J _ _ j2
    have ex : T.Ext H2 (upd H2 c (.lst (ns.map V.int))) := fun b o hb nb => by rw [upd_ne fun z => nb (R.M b (.inr z))]; exact hb
    have hc := k2.2.2
    rw [hn] at hc
    exact ⟨c, _, 0, 0, .int n, rfl, rfl, hc, by decide, by decide, seqIndex_of (by decide) (by simp), rfl, w _ _ _ _ ⟨rfl, rfl⟩ ((x1.trans x2).trans ex) (R.step _ _ _ _ j2 (fun b nb => upd_ne fun z => nb (.inr z)) ⟨k2.1, by rw [upd_ne k2.1]; exact k2.2.1, upd_same⟩) (.int n)⟩
/-- source[0].insert(0, n) -/
theorem ev_insert {n : Int} (R : Sys.Sub (Src a c) T) (ho : EVd X T q ρ e1 (.ref c)) (hi : EVd X T q ρ e2 (.int 0)) (hv : EVd X T q ρ e (.int n)) (hl : q.ns.length ≤ 1000) (hb : attributeBase e1 "insert" X.env (eval e1 X.env) = eval e1 X.env := by rfl)
    (hfew : ((backTo cpos (starEach [e2, e] X.env)).all (fun x => !x.1) && (backToKw cpos (keywordEach [] X.env)).all (fun x => x.1.isSome)
      && decide (([e2, e] : List Expr).length + ([] : List Keyword).length + (if ([] : List Keyword).isEmpty then 0 else 1) < 30)) = true := by rfl)
    (hline : (apos.endLine == cpos.line) = true := by rfl) (hs : starEach [e2, e] X.env = (false, eval e2 X.env) :: starEach [e] X.env := by rfl) (hs2 : starEach [e] X.env = (false, eval e X.env) :: starEach [] X.env := by rfl) (hpl : (backTo cpos (starEach [e] X.env)).any (·.1) = false := by rfl) :
    EV X T q ρ (.Call (.Attribute e1 "insert" apos) [e2, e] [] cpos) (fun d g' => d = .non ∧ g' = { q with ns := n :: q.ns }) := by
  refine PE.of (pe_bm F.plainAttrs_list F.slot_list_insert F.type_list_insert mt_insert ho (ea_cons hi (ea_cons hv ea_nil hs2) hs) hb hfew hline hs hpl) fun σ H Q ⟨r, j, w⟩ => ⟨r, j, fun o H1 d1 g1 p1 x1 j1 t1 => ?_⟩
  obtain ⟨rfl, rfl⟩ := p1
  cases t1
  refine ⟨.inl ⟨rfl, _, SqL.of (R.J _ _ j1).2.2⟩, r.ext x1, j1, fun vs H2 d2 g2 p2 x2 j2 t2 => ?_⟩
  obtain ⟨rfl, rfl⟩ := p2
  cases t2 with
  | cons t t3 =>
    cases t
    cases t3 with
    | cons t t4 =>
      cases t
      cases t4
      have k2 := R.J _ _ j2
      have ex : T.Ext H2 (upd H2 c (.lst ((n :: g2.ns).map V.int))) := fun b o hb nb => by rw [upd_ne fun z => nb (R.M b (.inr z))]; exact hb
      exact ⟨c, _, 0, .int n, rfl, rfl, k2.2.2, by rw [List.length_map, sizeLine_eq]; omega, by decide, by decide, w _ _ _ _ ⟨rfl, rfl⟩ ((x1.trans x2).trans ex) (R.step _ _ _ _ j2 (fun b nb => upd_ne fun z => nb (.inr z)) ⟨k2.1, by rw [upd_ne k2.1]; exact k2.2.1, upd_same⟩) .non⟩
end
end WT
set_option Elab.async false
set_option linter.all false
set_option autoImplicit false
set_option maxRecDepth 100000
set_option maxHeartbeats 4000000
namespace WT
open PySem L2 PyProof.Rows
/-- a key as a datum -/
def keyD : Key → D
  | .inl i => .int i
  | .inr x => .str x
section
variable {G : Type} {X : Cx} {S : Sys G} {g : G} {ρ : En} {P P2 : Po G} {e e1 e2 k1 k2 : Expr} {d d1 d2 : D} {pos p2 : Pos}
/-- -a -/
theorem ev_neg {i : Int} (h : EVd X S g ρ e (.int i)) : EVd X S g ρ (.UnaryOp .USub e pos) (.int (-i)) := PE.of (pe_un un_neg h) fun σ H Q ⟨r, j, q⟩ => ⟨r, j, fun v H1 d1 g1 p1 x1 j1 t1 => by
  obtain ⟨rfl, rfl⟩ := p1
  cases t1
  exact ⟨i, rfl, q _ _ _ _ ⟨rfl, rfl⟩ x1 j1 (.int _)⟩⟩
/-- a text times a number -/
theorem opD_repS {x : Str} {n : Int} (h1 : 1 < n) (h2 : n ≤ 1000) (h3 : 0 < x.length) (h4 : x.length ≤ 1000) (hz : (⟨(List.replicate n.toNat x.cps).foldl (· ++ ·) #[]⟩ : Str).length ≤ sizeLine) : OpD X S g (binaryOp .Mult) (.str x) (.int n) (Is g (.str ⟨(List.replicate n.toNat x.cps).foldl (· ++ ·) #[]⟩)) := by
  intro pins s σ H y z v u I rx ry j t1 t2
  cases t1
  cases t2
  obtain ⟨t, rfl⟩ := rx
  obtain ⟨t', rfl⟩ := ry
  refine PySem.P.mul_str (by rw [decide_eq_false (by omega), decide_eq_false (by omega)]; rfl) (fun _ _ => ?_) (fun _ _ => ?_) ?_
  · have : (1000 : Int) ≤ (2 ^ 63 - 1) / n := (Int.le_ediv_iff_mul_le (by omega)).mpr (by omega)
    omega
  · have h5 : x.length * n.toNat ≤ 1000 * 1000 := Nat.mul_le_mul h4 (by omega)
    have h6 := sizeLine_eq
    exact decide_eq_false (by omega)
  · have n1 : (n == 1 || x.length == 0) = false := by
      rw [Bool.or_eq_false_iff]
      exact ⟨beq_eq_false_iff_ne.mpr (by omega), beq_eq_false_iff_ne.mpr (by omega)⟩
    rw [if_neg (by omega), if_neg (by rw [n1]; decide)]
    refine ⟨?_, ?_⟩
    · exact hz
    · exact ⟨.str _, H, I.tok _, ⟨_, rfl⟩, good_same j (.str _) ⟨rfl, rfl⟩⟩
/-- {k1: e1, k2: e2} -/
theorem ev_dict2 {a b : Key} (h1 : ∀ p, ¬ S.W p → EVd X (S.hold p (.dK [])) g ρ k1 (keyD a)) (h2 : ∀ p, ¬ S.W p → EVd X (S.hold p (.dK [])) g ρ e1 d1) (h3 : ∀ p, ¬ S.W p → EVd X (S.hold p (.dK [])) g ρ k2 (keyD b))
    (h4 : ∀ p, ¬ S.W p → EV X (S.hold p (.dK [])) g ρ e2 P2) (hk : ∀ v1 v2 : V, mergeK [] [(a, v1), (b, v2)] = [(a, v1), (b, v2)]) (w : ∀ d2 g', P2 d2 g' → P (.dct [(a, d1), (b, d2)]) g') : EV X S g ρ (.Dict [some k1, some k2] [e1, e2] pos) P := by
  let te : (P' : Po G) → TE := fun P' σ H Q => ∃ p, ¬ S.W p ∧ tEV X.K (S.hold p (.dK [])) g ρ P' σ H Q
  have pp : PPs X pos [some k1, some k2] [e1, e2] [(te (Is g (keyD a)), te (Is g d1)), (te (Is g (keyD b)), te P2)] := pps_cons (PE.any h1) (PE.any h2) (pps_cons (PE.any h3) (PE.any h4) pps_nil)
  refine PE.of (pe_disp pp rfl rfl (fun z => nomatch z) (by simp)) fun σ H Q ⟨r, j, q⟩ p hp => ?_
  have nW := Sys.freshW hp j
  refine ⟨p, nW, r.plus hp, ⟨Sys.new hp j, upd_same⟩, fun v1 H1 x1 g1 p1 y1 j1 t1 => ?_⟩
  obtain ⟨rfl, rfl⟩ := p1
  refine ⟨p, nW, (r.plus hp).ext y1, j1, fun v2 H2 x2 g2 p2 y2 j2 t2 => ?_⟩
  obtain ⟨rfl, rfl⟩ := p2
  refine ⟨p, nW, (r.plus hp).ext (y1.trans y2), j2, fun v3 H3 x3 g3 p3 y3 j3 t3 => ?_⟩
  obtain ⟨rfl, rfl⟩ := p3
  refine ⟨p, nW, (r.plus hp).ext ((y1.trans y2).trans y3), j3, fun v4 H4 x4 g4 p4 y4 j4 t4 => ?_⟩
  have ka : ∀ {v : V} {k : Key} {H' : Hp}, Dt X.K (S.hold p (.dK [])) H' v (keyD k) → v = kV k := fun {v k H'} h => by
    cases k <;> cases h <;> rfl
  refine ⟨j4.2, [(a, v2), (b, v4)], by rw [ka t1, ka t3]; rfl, by simp, ?_⟩
  rw [hk]
  have ex : (S.hold p (.dK [])).Ext (upd H p (.dK [])) H4 := ((y1.trans y2).trans y3).trans y4
  refine q _ _ _ g4 (w _ _ p4) ?_ (S.loc _ _ _ j4.1 fun c hc => upd_ne fun z => nW (z ▸ hc)) (.dct upd_same (fun z => nW (S.sub _ z)) (.cons ?_ (.cons ?_ .nil)))
  · exact hold_ext (u := .dK []) hp (ex.trans hold_turn)
  · exact ((t2.ext (y3.trans y4)).ext hold_turn).minus
  · exact (t4.ext hold_turn).minus
/-! ### slices of lists -/
/-- e[:n], e a list that stays -/
theorem ev_cutL {ds : List D} {n : Nat} (h : EV X S g ρ e (fun d g' => (d = .fz ds ∨ d = .lst ds) ∧ g' = g)) (hi : EVd X S g ρ e1 (.int n)) : EVd X S g ρ (.Subscript e (.Slice none (some e1) none p2) pos) (.lst (ds.take n)) := by
  refine PE.of (pe_slice sl_list h po_none (po_some hi)) fun σ H Q ⟨r, j, q⟩ => ⟨r, j, fun v H1 d1 g1 p1 x1 j1 t1 => ?_⟩
  obtain ⟨hd, rfl⟩ := p1
  refine ⟨r.ext x1, j1, fun u H2 d2 g2 p2 x2 j2 t2 => ?_⟩
  obtain ⟨rfl, rfl⟩ := p2
  cases t2
  have go : ∀ {a : Addr} {xs : List V}, v = .ref a → SqL X.K H2 a xs → DtL X.K S H2 xs ds → rSlL X.K v none (some (n : Int)) H2 Q := fun {a xs} ev sq l => by
    refine ⟨a, xs, ev, sq, fun p hp => q _ _ _ _ ⟨rfl, rfl⟩ ((x1.trans x2).trans (Sys.Ext.new hp)) (Sys.new hp j2) ?_⟩
    have e : cutV xs none (some (n : Int)) = xs.take n := by
      unfold cutV
      rw [HT.sIx_none, HT.sIx_nat, List.drop_zero, Nat.sub_zero, List.take_eq_take_iff]
      omega
    rw [e]
    exact dt_newL j2 hp (l.take n)
  have t1' := t1.ext x2
  rcases hd with rfl | rfl
  · cases t1' with
    | fz a1 l1 => exact ⟨n, rfl, go rfl a1.sq l1⟩
  · cases t1' with
    | lst a1 n1 l1 => exact ⟨n, rfl, go rfl (SqL.of a1) l1⟩
end
end WT
set_option Elab.async false
set_option linter.all false
set_option autoImplicit false
set_option maxRecDepth 100000
set_option maxHeartbeats 4000000
namespace WT
open PySem L2 PyProof.Rows
def top (i : Nat) : Stmt := PySem.Challenge.pw_whatturns_k01_errors.main.body.getD i (.Pass ⟨0, 0, 0, 0⟩)
abbrev sDraw : Stmt := top 22
theorem scDraw : FnScope ["_law_source_here", "_law_many", "_law_mixed", "_law_cell"] ["_law_source_here", "_law_many"] (defScope sDraw) := ⟨rfl, rfl, rfl, by decide +kernel, rfl, by decide +kernel, by decide +kernel⟩
/-- a source that may be drawn from n times more -/
structure DOk (n : Nat) (q : Dr) : Prop where
  len : q.ns.length ≤ 60
  lo : 0 ≤ q.ct
  hi : q.ct + n < 2 ^ 40
/-- at most n draws on -/
structure Nx (n : Nat) (q q' : Dr) : Prop where
  len : q'.ns.length ≤ 60
  lo : q.ct ≤ q'.ct
  hi : q'.ct ≤ q.ct + n
theorem DOk.next {n m : Nat} {q q' : Dr} (h : DOk (n + m) q) (x : Nx n q q') : DOk m q' := ⟨x.len, by have := h.lo; have := x.lo; omega, by have := h.hi; have := x.hi; omega⟩
theorem Nx.trans {n m : Nat} {q q1 q2 : Dr} (x : Nx n q q1) (y : Nx m q1 q2) : Nx (n + m) q q2 := ⟨y.len, by have := x.lo; have := y.lo; omega, by have := x.hi; have := y.hi; omega⟩
theorem Nx.mono {n m : Nat} {q q1 : Dr} (x : Nx n q q1) (h : n ≤ m) : Nx m q q1 := ⟨x.len, x.lo, by have := x.hi; omega⟩
theorem DOk.mono {n m : Nat} {q : Dr} (h : DOk m q) (e : n ≤ m) : DOk n q := ⟨h.len, h.lo, by have := h.hi; omega⟩
theorem DOk.nx {q : Dr} {n : Nat} (h : DOk n q) : Nx 0 q q := ⟨h.len, Int.le_refl _, by omega⟩
def preDraw (a : Addr) : Ps Dr := fun ds q => ∃ m : Int, ds = [.ref a, .int m] ∧ 0 < m ∧ m < 2 ^ 29 ∧ DOk 1 q
def postDraw : List D → Dr → Po Dr := fun ds q d q' => ∃ (b : D) (m n : Int), ds = [b, .int m] ∧ d = .int n ∧ 0 ≤ n ∧ n < m ∧ Nx 1 q q'
section
variable {P : Program} {w : World} {K : PySem.W.Frag} {mg : Str → Option Value} {base : Heap} {f : Addr} {fd : FuncData} {a c : Addr} {T : Sys Dr}
theorem mul_small {i j : Int} (h0 : 0 ≤ i) (h1 : i < 2 ^ 60) : CMul i j := .inl ⟨by omega, by omega⟩
theorem ok_draw (R : Sys.Sub (Src a c) T) (F : Fun K "_law_draw" "_law_draw" sDraw f fd) : FnG P w K mg base CX0 1 f fd ["_law_source_here", "_law_many"] (spD K T 2 (preDraw a) postDraw) := by
  refine fn_ev (k := 0) F scDraw fun cdv A outer s H E hr ds q hl hp => ?_
  obtain ⟨m, rfl, hm, hm2, ok⟩ := hp
  have hu : (CxN P w K mg base ["_law_source_here", "_law_many", "_law_mixed", "_law_cell"] "_law_draw" sDraw f cdv A outer s H E).A.units + 64 < cLine := by
    have := hr.room.un
    show (A.deeper _).units + 64 < cLine
    omega
  have hN : (CxN P w K mg base ["_law_source_here", "_law_many", "_law_mixed", "_law_cell"] "_law_draw" sDraw f cdv A outer s H E).N.Nodup := (show (["_law_source_here", "_law_many", "_law_mixed", "_law_cell"] : List Str).Nodup by decide +kernel)
  have c1 : 0 ≤ q.ct + 1 := by have := ok.lo; omega
  have c2 : q.ct + 1 < 2 ^ 40 := by have := ok.hi; omega
  refine sv_cons (N1 := fun r g => r = [some (.ref a), some (.int m), none, none] ∧ g = { q with ct := q.ct + 1 }) (sv_count R (ev_var 0 rfl) ev_int (ev_op (ev_ix (ev_var 0 rfl) ev_int (ix_src2 R)) ev_int opD_add) ⟨rfl, rfl⟩) fun r g h => ?_
  obtain ⟨rfl, rfl⟩ := h
  refine sv_cons (N1 := fun r g => ∃ x : Int, r = [some (.ref a), some (.int m), some (.int x), none] ∧ g = { q with ct := q.ct + 1 }) (sv_set 2 (ev_op (ev_ix (ev_var 0 rfl) ev_int (ix_src1 R)) (ev_op (ev_op ev_int (ev_ix (ev_var 0 rfl) ev_int (ix_src2 R)) (opD_mul (mul_small (by omega) (by omega)))) (ev_ix (ev_var 0 rfl) ev_int (ix_src2 R)) (opD_mul (.inr ⟨by show -(2 ^ 64) < q.ct + 1; omega, by show q.ct + 1 < 2 ^ 64; omega⟩))) opD_add) ⟨_, rfl, rfl⟩ hN) fun r g h => ?_
  obtain ⟨x, rfl, rfl⟩ := h
  refine sv_cons (N1 := fun r g => ∃ (x : Int) (y : Option D) (ns : List Int), r = [some (.ref a), some (.int m), some (.int x), y] ∧ g = { q with ct := q.ct + 1, ns := ns } ∧ ns.length ≤ 60) (sv_ifd (et_cmp (ev_ix (ev_var 0 rfl) ev_int (ix_src0 R)) (ev_lst ea_nil) (op_src R hu (by have := ok.len; show q.ns.length ≤ 1000; omega))) (fun hk => ?_) (fun hk => ?_)) fun r g h => ?_
  · have hk' : q.ns ≠ [] := fun z => by
      rw [show ({ q with ct := q.ct + 1 } : Dr).ns = q.ns from rfl, z] at hk
      cases hk
    obtain ⟨n, ns, hn⟩ := List.exists_cons_of_ne_nil hk'
    have hl2 : ns.length + 1 ≤ 60 := by
      have := ok.len
      rw [hn, List.length_cons] at this
      exact this
    refine sv_cons (N1 := fun r g => r = [some (.ref a), some (.int m), some (.int x), some (.int n)] ∧ g = { q with ct := q.ct + 1, ns := ns }) (sv_set2 3 (ev_pop R (ev_ix (ev_var 0 rfl) ev_int (ix_src0 R)) ev_int hn) (fun d g' z => ⟨by rw [z.1]; rfl, z.2⟩) hN) fun r g h => ?_
    obtain ⟨rfl, rfl⟩ := h
    refine sv_cons (N1 := fun r g => r = [some (.ref a), some (.int m), some (.int x), some (.int n)] ∧ g = { q with ct := q.ct + 1, ns := ns }) (sv_ifd (et_cmp (ev_var 3 rfl) (ev_op ev_int ev_int (opD_pow ⟨by decide, by decide, by decide⟩)) opD_ge) (fun _ => ?_) (fun _ => sv_nil ⟨rfl, rfl⟩)) fun r g h => ?_
    · refine sv_cons (N1 := fun r g => r = [some (.ref a), some (.int m), some (.int x), some (.int n)] ∧ g = { q with ct := q.ct + 1, ns := (n / m) :: ns }) (sv_expr (ev_insert R (ev_ix (ev_var 0 rfl) ev_int (ix_src0 R)) ev_int (ev_op (ev_var 3 rfl) (ev_var 1 rfl) (opD_fdiv ⟨hm, by omega⟩)) (by show ns.length ≤ 1000; omega)) (fun d g' z => ⟨rfl, z.2⟩)) fun r g h => ?_
      obtain ⟨rfl, rfl⟩ := h
      exact sv_last (sv_retd (ev_op (ev_var 3 rfl) (ev_var 1 rfl) (opD_mod hm)) ⟨_, m, n % m, rfl, rfl, Int.emod_nonneg _ (by omega), Int.emod_lt_of_pos _ hm, ⟨hl2, by show q.ct ≤ q.ct + 1; omega, Int.le_refl _⟩⟩)
    · obtain ⟨rfl, rfl⟩ := h
      exact sv_last (sv_set 2 (ev_op (ev_var 2 rfl) (ev_var 3 rfl) opD_add) ⟨_, _, ns, rfl, rfl, by omega⟩ hN)
  · exact sv_nil ⟨x, none, q.ns, rfl, rfl, ok.len⟩
  · obtain ⟨y, z, ns, rfl, rfl, hl3⟩ := h
    have b1 := Int.emod_nonneg y (show (2147483563 : Int) ≠ 0 by decide)
    have b2 := Int.emod_lt_of_pos y (show (0 : Int) < 2147483563 by decide)
    refine sv_cons (N1 := fun r g => ∃ u : Int, r = [some (.ref a), some (.int m), some (.int (u % 2147483647)), z] ∧ g = { q with ct := q.ct + 1, ns := ns }) (sv_set 2 (ev_op (ev_op (ev_op (ev_var 2 rfl) ev_int (opD_mod (by decide))) ev_int (opD_mul (mul_small b1 (by omega)))) ev_int (opD_mod (by decide))) ⟨_, rfl, rfl⟩ hN) fun r g h => ?_
    obtain ⟨u, rfl, rfl⟩ := h
    have b3 := Int.emod_nonneg u (show (2147483647 : Int) ≠ 0 by decide)
    have b4 := Int.emod_lt_of_pos u (show (0 : Int) < 2147483647 by decide)
    refine sv_cons (N1 := fun r g => ∃ u : Int, r = [some (.ref a), some (.int m), some (.int (u % 2147483587)), z] ∧ g = { q with ct := q.ct + 1, ns := ns }) (sv_set 2 (ev_op (ev_op (ev_op (ev_op (ev_var 2 rfl) (ev_var 2 rfl) (opD_mul (mul_small b3 (by omega)))) (ev_op ev_int (ev_var 2 rfl) (opD_mul (mul_small (by decide) (by decide)))) opD_add) ev_int opD_add) ev_int (opD_mod (by decide))) ⟨_, rfl, rfl⟩ hN) fun r g h => ?_
    obtain ⟨v, rfl, rfl⟩ := h
    have b5 := Int.emod_nonneg v (show (2147483587 : Int) ≠ 0 by decide)
    have b6 := Int.emod_lt_of_pos v (show (0 : Int) < 2147483587 by decide)
    exact sv_last (sv_retd (ev_op (ev_op (ev_op (ev_op (ev_var 2 rfl) ev_int (opD_mul (mul_small b5 (by omega)))) ev_int (opD_mod (by decide))) ev_int (opD_fdiv ⟨by decide, by decide⟩)) (ev_var 1 rfl) (opD_mod hm)) ⟨_, m, _, rfl, rfl, Int.emod_nonneg _ (by omega), Int.emod_lt_of_pos _ hm, ⟨hl3, by show q.ct ≤ q.ct + 1; omega, Int.le_refl _⟩⟩)
end
end WT
set_option Elab.async false
set_option linter.all false
set_option autoImplicit false
set_option maxRecDepth 100000
set_option maxHeartbeats 4000000
namespace WT
open PySem L2 PyProof.Rows
abbrev sPick : Stmt := top 23
abbrev sPlain : Stmt := top 24
abbrev sValue : Stmt := top 25
theorem scPick : FnScope ["_law_source_here", "_law_items"] ["_law_source_here", "_law_items"] (defScope sPick) := ⟨rfl, rfl, rfl, by decide +kernel, rfl, by decide +kernel, by decide +kernel⟩
theorem scPlain : FnScope ["_law_source_here", "_law_far", "_law_some"] ["_law_source_here"] (defScope sPlain) := ⟨rfl, rfl, rfl, by decide +kernel, rfl, by decide +kernel, by decide +kernel⟩
theorem scValue : FnScope ["_law_source_here", "_law_deep", "_law_way", "_law_inner", "_law_k"] ["_law_source_here", "_law_deep"] (defScope sValue) := ⟨rfl, rfl, rfl, by decide +kernel, rfl, by decide +kernel, by decide +kernel⟩
/-! ### data that may be shown -/
structure Shows (L n : Nat) (d : D) : Prop where
  ex : ∃ p, D.pd d = some p ∧ p.showable = true ∧ p.shown.length ≤ L ∧ p.depth ≤ n
theorem Shows.mono {L M n m : Nat} {d : D} (h : Shows L n d) (h1 : L ≤ M) (h2 : n ≤ m) : Shows M m d := by
  obtain ⟨p, a, b, c, e⟩ := h.ex
  exact ⟨p, a, b, Nat.le_trans c h1, Nat.le_trans e h2⟩
theorem shows_all {L n : Nat} : ∀ {ds : List D}, (∀ d ∈ ds, Shows L n d) → ∃ ps, D.pdL ds = some ps ∧ PyData.showableAll ps = true ∧ ((PyData.shownAll ps).map (·.length)).sum ≤ L * ds.length ∧ PyData.depthAll ps ≤ n ∧ ps.length = ds.length ∧ (PyData.shownAll ps).length = ds.length
  | [], _ => ⟨[], by simp [D.pdL], by simp [PyData.showableAll], by simp [PyData.shownAll], by simp [PyData.depthAll], rfl, by simp [PyData.shownAll]⟩
  | d :: ds, h => by
    obtain ⟨p, a1, a2, a3, a4⟩ := (h d (by simp)).ex
    obtain ⟨ps, b1, b2, b3, b4, b5, b6⟩ := shows_all (ds := ds) fun x hx => h x (by simp [hx])
    refine ⟨p :: ps, by simp [D.pdL, a1, b1], by simp [PyData.showableAll, a2, b2], ?_, ?_, by simp [b5], by simp [PyData.shownAll, b6]⟩
    · simp only [PyData.shownAll, List.map_cons, List.sum_cons, List.length_cons, Nat.mul_succ]
      omega
    · simp only [PyData.depthAll]
      omega
theorem shows_lst {L n : Nat} {ds : List D} (h : ∀ d ∈ ds, Shows L n d) (hl : ds.length ≤ 2) : Shows (2 * L + 6) (n + 1) (.lst ds) := by
  obtain ⟨ps, b1, b2, b3, b4, b5, b6⟩ := shows_all h
  refine ⟨.list ps, by simp [D.pd, b1], by simpa [PyData.showable] using b2, ?_, by simp only [PyData.depth]; omega⟩
  have e := textFrom_len_le (PyData.shownAll ps) 0 "["
  have e1 : (Str.ofString "[").length = 1 := by decide
  have e2 : (Str.ofString "]").length = 1 := by decide
  have e3 : L * ds.length ≤ L * 2 := Nat.mul_le_mul_left L hl
  show (listText (PyData.shownAll ps)).length ≤ _
  unfold listText
  rw [Str.length_append, e2]
  rw [e1, b6] at e
  omega
theorem shows_tup {L n : Nat} {ds : List D} (h : ∀ d ∈ ds, Shows L n d) (hl : ds.length ≤ 2) : Shows (2 * L + 8) (n + 1) (.tup ds) := by
  obtain ⟨ps, b1, b2, b3, b4, b5, b6⟩ := shows_all h
  refine ⟨.tuple ps, by simp [D.pd, b1], by simpa [PyData.showable] using b2, ?_, by simp only [PyData.depth]; omega⟩
  have e := StrLaws.join_length_le ", " (PyData.shownAll ps)
  have e1 : (Str.ofString "(").length = 1 := by decide
  have e2 : ((if (PyData.shownAll ps).length == 1 then ",)" else ")" : String) : Str).length ≤ 2 := by split <;> decide
  have e3 : L * ds.length ≤ L * 2 := Nat.mul_le_mul_left L hl
  have e4 : ((", " : String) : Str).length = 2 := by decide
  show (tupleText (PyData.shownAll ps)).length ≤ _
  unfold tupleText
  rw [Str.length_append, Str.length_append, e1]
  rw [e4, b6] at e
  omega
theorem shows_dct {L n : Nat} {d1 d2 : D} (h1 : Shows L n d1) (h2 : Shows L n d2) : Shows (2 * L + 20) (n + 1) (.dct [(.inr "a", d1), (.inl 1, d2)]) := by
  obtain ⟨p, a1, a2, a3, a4⟩ := h1.ex
  obtain ⟨r, b1, b2, b3, b4⟩ := h2.ex
  refine ⟨.dict [(.str "a", p), (.int 1, r)], by simp [D.pd, D.pdK, a1, b1, keyP], ?_, ?_, ?_⟩
  · simp only [PyData.showable, PyData.showableKv, a2, b2]
    decide
  · have e := StrLaws.join_length_le ", " (PyData.shownKv [(.str "a", p), (.int 1, r)])
    have k1 : (PyData.str "a").shown.length = 3 := by decide +kernel
    have k2 : (PyData.int 1).shown.length = 1 := by decide +kernel
    have k3 : ((": " : String) : Str).length = 2 := by decide
    have k4 : ((", " : String) : Str).length = 2 := by decide
    have k5 : (Str.ofString "{").length = 1 := by decide
    have k6 : (Str.ofString "}").length = 1 := by decide
    show (dictText (PyData.shownKv [(.str "a", p), (.int 1, r)])).length ≤ _
    unfold dictText
    rw [Str.length_append, Str.length_append, k5, k6]
    simp only [PyData.shownKv, List.map_cons, List.map_nil, List.sum_cons, List.sum_nil, List.length_cons, List.length_nil, Str.length_append, k1, k2, k3, k4] at e
    show 1 + (Str.join ", " (PyData.shownKv [(.str "a", p), (.int 1, r)])).length + 1 ≤ _
    simp only [PyData.shownKv] at e ⊢
    omega
  · simp only [PyData.depth, PyData.depthKv]
    omega
end WT
set_option Elab.async false
set_option linter.all false
set_option autoImplicit false
set_option maxRecDepth 100000
set_option maxHeartbeats 4000000
namespace WT
open PySem L2 PyProof.Rows
/-- where a def of the law's text stands -/
def DefAt (K : PySem.W.Frag) (mg : Str → Option Value) (x : Str) (st : Stmt) (ps : List Str) : Prop := ∃ f fd, Fun K x x st f fd ∧ FnAt K mg x ps f fd
/-- what the module's own names are not -/
structure Blt (mg : Str → Option Value) : Prop where
  len : mg "len" = none
  tuple : mg "tuple" = none
  range : mg "range" = none
  list : mg "list" = none
  repr : mg "repr" = none
  isi : mg "isinstance" = none
  ve : mg "ValueError" = none
  ke : mg "KeyError" = none
section
variable {P : Program} {w : World} {K : PySem.W.Frag} {mg : Str → Option Value} {base : Heap} {f : Addr} {fd : FuncData} {a c : Addr} {T : Sys Dr}
theorem ixD_lstP {G : Type} {X : Cx} {S : Sys G} {g : G} {Po' : Po G} {d : D} {xs : List D} {i : Int} (h : atI xs i = some d) (w : Po' d g) : IxD X S g (.lst xs) (.int i) Po' := ⟨_, ix_list, fun x y H jj t1 t2 => by
  cases t1 with
  | lst a1 n1 l1 =>
    cases t2
    obtain ⟨v, hv, tv⟩ := dtL_at l1 h
    exact ⟨_, _, _, v, rfl, rfl, SqL.of a1, hv, good_same jj tv w⟩⟩
/-! ### pick -/
def prePick (a : Addr) : Ps Dr := fun ds q => ∃ xs : List D, ds = [.ref a, .lst xs] ∧ xs ≠ [] ∧ xs.length ≤ 1000 ∧ DOk 1 q
def postPick : List D → Dr → Po Dr := fun ds q d q' => ∃ (b : D) (xs : List D), ds = [b, .lst xs] ∧ d ∈ xs ∧ Nx 1 q q'
/-- draw(e1, e2) -/
theorem ev_draw {X : Cx} {q : Dr} {ρ : En} {m : Int} {e1 e2 : Expr} {pos p : Pos} {k : Nat} (R : Sys.Sub (Src a c) T) (D0 : DefAt X.K X.mg "_law_draw" sDraw ["_law_source_here", "_law_many"]) (hr : RG k X.A) (hk : 1 ≤ k) (h1 : EVd X T q ρ e1 (.ref a)) (h2 : EVd X T q ρ e2 (.int m)) (hm : 0 < m) (hm2 : m < 2 ^ 29) (ok : DOk 1 q)
    (hg : Gl X "_law_draw" := by rfl) (he : starEach [e1, e2] X.env = (false, eval e1 X.env) :: starEach [e2] X.env := by rfl) (he2 : starEach [e2] X.env = (false, eval e2 X.env) :: starEach [] X.env := by rfl) (hpl : (backTo pos (starEach [e2] X.env)).any (·.1) = false := by rfl) :
    EV X T q ρ (.Call (.Name "_law_draw" p) [e1, e2] [] pos) (fun d q' => ∃ n : Int, d = .int n ∧ 0 ≤ n ∧ n < m ∧ Nx 1 q q') := by
  obtain ⟨f, fd, F, A⟩ := D0
  exact ev_call A ((ok_draw R F).mono hk) hr (ea_cons h1 (ea_cons h2 ea_nil he2) he) rfl ⟨m, rfl, hm, hm2, ok⟩ (fun d q' ⟨b, m', n, e, h3, h4, h5, h6⟩ => by
    cases e
    exact ⟨n, h3, h4, h5, h6⟩) hg (by decide) he hpl
theorem ok_pick (R : Sys.Sub (Src a c) T) (B : Blt mg) (D0 : DefAt K mg "_law_draw" sDraw ["_law_source_here", "_law_many"]) (F : Fun K "_law_pick" "_law_pick" sPick f fd) : FnG P w K mg base CX0 2 f fd ["_law_source_here", "_law_items"] (spD K T 2 (prePick a) postPick) := by
  refine fn_ev (k := 1) F scPick fun cdv A outer s H E hr ds q hl hp => ?_
  obtain ⟨xs, rfl, hx, hx2, ok⟩ := hp
  have h0 : 0 < xs.length := List.length_pos_iff.mpr hx
  refine sv_last (sv_ret (ev_ix2 (P2 := fun d1 d2 g2 => d1 = .lst xs ∧ ∃ n : Int, d2 = .int n ∧ 0 ≤ n ∧ n < xs.length ∧ Nx 1 q g2) (ev_var 1 rfl) (fun d1 g1 z => ?_) fun d1 d2 g2 z => ?_))
  · obtain ⟨rfl, rfl⟩ := z
    exact ev_imp (ev_draw R D0 hr (Nat.le_refl _) (ev_var 0 rfl) (ev_callB (ea_cons (ev_var 1 rfl) ea_nil) callD_lenL B.len boot_len) (by omega) (by omega) ok) fun d g' ⟨n, z⟩ => ⟨rfl, n, z⟩
  · obtain ⟨rfl, n, rfl, n0, n1, nx⟩ := z
    have hn : n.toNat < xs.length := by omega
    have e : atI xs n = some xs[n.toNat] := by
      have h := atI_nat (List.getElem?_eq_getElem hn)
      rwa [Int.toNat_of_nonneg n0] at h
    exact ixD_lstP e ⟨_, xs, rfl, List.getElem_mem hn, nx⟩
/-! ### plain -/
theorem ev_pick {X : Cx} {q : Dr} {ρ : En} {xs : List D} {e1 e2 : Expr} {pos p : Pos} {k : Nat} (R : Sys.Sub (Src a c) T) (B : Blt X.mg) (D0 : DefAt X.K X.mg "_law_draw" sDraw ["_law_source_here", "_law_many"]) (D1 : DefAt X.K X.mg "_law_pick" sPick ["_law_source_here", "_law_items"]) (hr : RG k X.A) (hk : 2 ≤ k)
    (h1 : EVd X T q ρ e1 (.ref a)) (h2 : EVd X T q ρ e2 (.lst xs)) (h3 : xs ≠ []) (h4 : xs.length ≤ 1000) (ok : DOk 1 q)
    (hg : Gl X "_law_pick" := by rfl) (he : starEach [e1, e2] X.env = (false, eval e1 X.env) :: starEach [e2] X.env := by rfl) (he2 : starEach [e2] X.env = (false, eval e2 X.env) :: starEach [] X.env := by rfl) (hpl : (backTo pos (starEach [e2] X.env)).any (·.1) = false := by rfl) :
    EV X T q ρ (.Call (.Name "_law_pick" p) [e1, e2] [] pos) (fun d q' => d ∈ xs ∧ Nx 1 q q') := by
  obtain ⟨f, fd, F, A⟩ := D1
  exact ev_call A ((ok_pick R B D0 F).mono hk) hr (ea_cons h1 (ea_cons h2 ea_nil he2) he) rfl ⟨xs, rfl, h3, h4, ok⟩ (fun d q' ⟨b, xs', e, h5, h6⟩ => by
    cases e
    exact ⟨h5, h6⟩) hg (by decide) he hpl
def x60 : Str := ⟨(List.replicate (60 : Int).toNat ("x" : Str).cps).foldl (· ++ ·) #[]⟩
def plains (far : Int) : List D := [.non, .bl true, .bl false, .int 0, .int 1, .int (-1), .int far, .int (0 - far), .str "", .str "ann", .str "t", .str "a b", .str "A", .str "\n", .tup [], .str x60]
theorem shows_int {i : Int} (h1 : -(10 ^ 40) < i) (h2 : i < 10 ^ 40) : Shows 700 1 (.int i) := by
  have h : i.natAbs < 10 ^ 40 := by omega
  have hs : i.natAbs.log2 < 1920 := by
    have : i.natAbs < 2 ^ 1920 := Nat.lt_trans h (by decide)
    by_cases h0 : i.natAbs = 0
    · rw [h0]; decide
    · exact (Nat.log2_lt h0).mpr this
  refine ⟨.int i, by simp [D.pd], by simp [PyData.showable, hs], ?_, by simp [PyData.depth]⟩
  have := int_text_len_1921 hs
  have e := int_text_length_le10 (a := i) (k := 40) (by decide) h
  have e2 : (Str.ofString (toString i)).length = (toString i).length := PySem.ofString_length _
  show (Str.ofString (toString i)).length ≤ 700
  omega
theorem shows_str {x : Str} (h : (reprText x).length ≤ 700) : Shows 700 1 (.str x) := ⟨.str x, by simp [D.pd], by simp [PyData.showable], h, by simp [PyData.depth]⟩
theorem plains_show {far : Int} (h1 : 0 ≤ far) (h2 : far < 10 ^ 40) : ∀ d ∈ plains far, Shows 700 1 d := by
  intro d hd
  simp only [plains, List.mem_cons, List.not_mem_nil, or_false] at hd
  rcases hd with rfl | rfl | rfl | rfl | rfl | rfl | rfl | rfl | rfl | rfl | rfl | rfl | rfl | rfl | rfl | rfl
  · exact ⟨.none, by simp [D.pd], by simp [PyData.showable], by decide +kernel, by simp [PyData.depth]⟩
  · exact ⟨.bool true, by simp [D.pd], by simp [PyData.showable], by decide +kernel, by simp [PyData.depth]⟩
  · exact ⟨.bool false, by simp [D.pd], by simp [PyData.showable], by decide +kernel, by simp [PyData.depth]⟩
  · exact shows_int (by decide) (by decide)
  · exact shows_int (by decide) (by decide)
  · exact shows_int (by decide) (by decide)
  · exact shows_int (by omega) (by omega)
  · exact shows_int (by omega) (by omega)
  · exact shows_str (by decide +kernel)
  · exact shows_str (by decide +kernel)
  · exact shows_str (by decide +kernel)
  · exact shows_str (by decide +kernel)
  · exact shows_str (by decide +kernel)
  · exact shows_str (by decide +kernel)
  · exact ⟨.tuple [], by simp [D.pd, D.pdL], by simp [PyData.showable, PyData.showableAll], by decide +kernel, by simp [PyData.depth, PyData.depthAll]⟩
  · exact shows_str (by decide +kernel)
def prePlain (a : Addr) : Ps Dr := fun ds q => ds = [.ref a] ∧ DOk 3 q
def postPlain : List D → Dr → Po Dr := fun ds q d q' => Shows 700 1 d ∧ Nx 3 q q'
theorem ok_plain (R : Sys.Sub (Src a c) T) (B : Blt mg) (D0 : DefAt K mg "_law_draw" sDraw ["_law_source_here", "_law_many"]) (D1 : DefAt K mg "_law_pick" sPick ["_law_source_here", "_law_items"]) (F : Fun K "_law_plain" "_law_plain" sPlain f fd) : FnG P w K mg base CX0 3 f fd ["_law_source_here"] (spD K T 1 (prePlain a) postPlain) := by
  refine fn_ev (k := 2) F scPlain fun cdv A outer s H E hr ds q hl hp => ?_
  obtain ⟨rfl, ok⟩ := hp
  have m6 : ∀ {X : Cx} {q : Dr} {ρ : En} {p1 p2 p3 : Pos}, EVd X T q ρ (.BinOp (.Constant (.int 10) 0 p1) .Pow (.Constant (.int 6) 0 p2) p3) (.int 1000000) := fun {X q ρ p1 p2 p3} => ev_eq (ev_op ev_int ev_int (opD_pow ⟨by decide, by decide, by decide⟩)) (congrArg D.int (by decide +kernel))
  have m33 : ∀ {X : Cx} {q : Dr} {ρ : En} {p1 p2 p3 : Pos}, EVd X T q ρ (.BinOp (.Constant (.int 10) 0 p1) .Pow (.Constant (.int 33) 0 p2) p3) (.int (10 ^ 33)) := fun {X q ρ p1 p2 p3} => ev_eq (ev_op ev_int ev_int (opD_pow ⟨by decide, by decide, by decide⟩)) (congrArg D.int (by decide +kernel))
  refine sv_cons (N1 := fun r g => ∃ far : Int, r = [some (.ref a), some (.int far), none] ∧ 0 ≤ far ∧ far < 10 ^ 40 ∧ Nx 2 q g) (sv_set2 1 (P := fun d g => ∃ far : Int, d = .int far ∧ 0 ≤ far ∧ far < 10 ^ 40 ∧ Nx 2 q g) (ev_bin (P1 := fun d g => ∃ i : Int, d = .int i ∧ 0 ≤ i ∧ i < 10 ^ 39 ∧ Nx 1 q g) (P2 := fun d1 d2 g => ∃ i j : Int, d1 = .int i ∧ d2 = .int j ∧ 0 ≤ i ∧ i < 10 ^ 39 ∧ 0 ≤ j ∧ j < 1000000 ∧ Nx 2 q g) ?_ (fun d1 g1 z => ?_) fun d1 d2 g2 z => ?_) (fun d g' ⟨far, z1, z2⟩ => ⟨far, by rw [z1]; rfl, z2⟩) scPlain.nd) fun r g h => ?_
  · refine ev_bin (P1 := fun d g => ∃ i : Int, d = .int i ∧ 0 ≤ i ∧ i < 1000000 ∧ Nx 1 q g) (P2 := fun d1 d2 g => ∃ i : Int, d1 = .int i ∧ d2 = .int (10 ^ 33) ∧ 0 ≤ i ∧ i < 1000000 ∧ Nx 1 q g) (ev_draw R D0 hr (by decide) (ev_var 0 rfl) m6 (by decide) (by decide) (ok.mono (by decide))) (fun d1 g1 z => ?_) fun d1 d2 g2 z => ?_
    · obtain ⟨i, z⟩ := z
      exact ev_is m33 ⟨i, z.1, rfl, z.2⟩
    · obtain ⟨i, rfl, rfl, i0, i1, nx⟩ := z
      exact (opD_mul (mul_small i0 (by omega))).imp fun d g' z => ⟨i * 10 ^ 33, z.1, by omega, by omega, z.2 ▸ nx⟩
  · obtain ⟨i, rfl, i0, i1, nx⟩ := z
    exact ev_imp (ev_draw R D0 hr (by decide) (ev_var 0 rfl) m6 (by decide) (by decide) ((ok.next (n := 1) (m := 2) nx).mono (by decide))) fun d g' ⟨j, z1, z2, z3, z4⟩ => ⟨i, j, rfl, z1, i0, i1, z2, z3, nx.trans z4⟩
  · obtain ⟨i, j, rfl, rfl, i0, i1, j0, j1, nx⟩ := z
    exact opD_add.imp fun d g' z => ⟨i + j, z.1, by omega, by omega, z.2 ▸ nx⟩
  · obtain ⟨far, rfl, f0, f1, nx⟩ := h
    have ok' : DOk 1 g := ok.next (n := 2) nx
    refine sv_cons (N1 := fun r g' => r = [some (.ref a), some (.int far), some (.lst (plains far))] ∧ g' = g) (sv_set 2 (ev_lst (ea_cons ev_non (ea_cons ev_bl (ea_cons ev_bl (ea_cons ev_int (ea_cons ev_int (ea_cons (ev_neg ev_int) (ea_cons (ev_var 1 rfl) (ea_cons (ev_op ev_int (ev_var 1 rfl) opD_sub) (ea_cons ev_str (ea_cons ev_str (ea_cons ev_str (ea_cons ev_str (ea_cons ev_str (ea_cons ev_str (ea_cons (ev_tup ea_nil) (ea_cons (ev_op ev_str ev_int (opD_repS (by decide) (by decide) (by decide) (by decide) (by decide +kernel))) ea_nil)))))))))))))))) (by rw [sizeLine_eq]; show 16 ≤ 16777216; decide)) ⟨rfl, rfl⟩ scPlain.nd) fun r g' h => ?_
    obtain ⟨rfl, rfl⟩ := h
    exact sv_last (sv_ret (ev_imp (ev_pick R B D0 D1 hr (by decide) (ev_var 0 rfl) (ev_var 2 rfl) (by simp [plains]) (by simp [plains]) ok') fun d g' ⟨z1, z2⟩ => ⟨plains_show f0 f1 d z1, nx.trans z2⟩))
end
end WT
set_option Elab.async false
set_option linter.all false
set_option autoImplicit false
set_option maxRecDepth 100000
set_option maxHeartbeats 4000000
namespace WT
open PySem L2 PyProof.Rows
section
variable {P : Program} {w : World} {K : PySem.W.Frag} {mg : Str → Option Value} {base : Heap} {f : Addr} {fd : FuncData} {a c : Addr} {T : Sys Dr}
/-- how long a value of that depth may be shown, how many draws it takes -/
def vL : Nat → Nat
  | 0 => 700
  | n + 1 => 4 * vL n + 1000
def vB : Nat → Nat
  | 0 => 5
  | n + 1 => 5 + 2 * vB n
theorem vL_ge : ∀ n, 700 ≤ vL n
  | 0 => Nat.le_refl _
  | n + 1 => by have := vL_ge n; show 700 ≤ 4 * vL n + 1000; omega
def preValue (n : Nat) (a : Addr) : Ps Dr := fun ds q => ds = [.ref a, .int n] ∧ DOk (vB n) q
def postValue (n : Nat) : List D → Dr → Po Dr := fun _ q d q' => Shows (vL n) (2 * n + 1) d ∧ Nx (vB n) q q'
theorem ev_plain {X : Cx} {q : Dr} {ρ : En} {e1 : Expr} {pos p : Pos} {k : Nat} (R : Sys.Sub (Src a c) T) (B : Blt X.mg) (D0 : DefAt X.K X.mg "_law_draw" sDraw ["_law_source_here", "_law_many"]) (D1 : DefAt X.K X.mg "_law_pick" sPick ["_law_source_here", "_law_items"]) (D2 : DefAt X.K X.mg "_law_plain" sPlain ["_law_source_here"]) (hr : RG k X.A) (hk : 3 ≤ k)
    (h1 : EVd X T q ρ e1 (.ref a)) (ok : DOk 3 q) (hg : Gl X "_law_plain" := by rfl) (he : starEach [e1] X.env = (false, eval e1 X.env) :: starEach [] X.env := by rfl) :
    EV X T q ρ (.Call (.Name "_law_plain" p) [e1] [] pos) (fun d q' => Shows 700 1 d ∧ Nx 3 q q') := by
  obtain ⟨f, fd, F, A⟩ := D2
  exact ev_call A ((ok_plain R B D0 D1 F).mono hk) hr (ea_cons h1 ea_nil he) rfl ⟨rfl, ok⟩ (fun d q' z => z) hg (by decide) he rfl
theorem rngD_length (lo : Int) (n : Nat) : (rngD lo n).length = n := by simp [rngD]
theorem pts_yes {G : Type} {X : Cx} {S : Sys G} {g : G} {ρ : En} : PTs X [] (tET X.K S g ρ (Isb g true)) := ⟨fun pins s σ H Q I ⟨r, j, q⟩ => pts_nil.run pins s σ H Q I (q true H g ⟨rfl, rfl⟩ (Sys.Ext.refl H) j)⟩
theorem ok_value (B : Blt mg) (D0 : DefAt K mg "_law_draw" sDraw ["_law_source_here", "_law_many"]) (D1 : DefAt K mg "_law_pick" sPick ["_law_source_here", "_law_items"]) (D2 : DefAt K mg "_law_plain" sPlain ["_law_source_here"]) (F : Fun K "_law_value" "_law_value" sValue f fd) (A0 : FnAt K mg "_law_value" ["_law_source_here", "_law_deep"] f fd) :
    ∀ (n : Nat) (T : Sys Dr), Sys.Sub (Src a c) T → FnG P w K mg base CX0 (n + 4) f fd ["_law_source_here", "_law_deep"] (spD K T 2 (preValue n a) (postValue n)) := by
  intro n
  induction n with
  | zero =>
    intro T R
    refine fn_ev (k := 3) F scValue fun cdv A outer s H E hr ds q hl hp => ?_
    obtain ⟨rfl, ok⟩ := hp
    refine sv_cons (N1 := fun r g => ∃ i : Int, r = [some (.ref a), some (.int 0), some (.int i), none, none] ∧ Nx 1 q g) (sv_set2 2 (ev_draw R D0 hr (by decide) (ev_var 0 rfl) ev_int (by decide) (by decide) (ok.mono (by decide))) (fun d g' ⟨i, z1, z2, z3, z4⟩ => ⟨i, by rw [z1]; rfl, z4⟩) scValue.nd) fun r g h => ?_
    obtain ⟨i, rfl, nx⟩ := h
    refine sv_cons (N1 := fun _ _ => False) (sv_ifd (et_bool (ew_ord (k1 := true) (k2 := true) (et_cmp (ev_var 1 rfl) ev_int opD_eqI) (fun z => nomatch z))) (fun _ => ?_) (fun z => nomatch z)) fun r g h => h.elim
    exact sv_last (sv_ret (ev_imp (ev_plain R B D0 D1 D2 hr (by decide) (ev_var 0 rfl) ((ok.next (n := 1) (m := 4) nx).mono (by decide))) fun d g' ⟨z1, z2⟩ => ⟨z1, (nx.trans z2).mono (by decide)⟩))
  | succ n ih =>
    intro T R
    refine fn_ev (k := n + 4) F scValue fun cdv A outer s H E hr ds q hl hp => ?_
    obtain ⟨rfl, ok⟩ := hp
    have eB : vB (n + 1) = 1 + (1 + (2 * vB n + 3)) := by show 5 + 2 * vB n = _; omega
    have eL : vL (n + 1) = 4 * vL n + 1000 := rfl
    have gL := vL_ge n
    rw [eB] at ok
    refine sv_cons (N1 := fun r g => ∃ i : Int, r = [some (.ref a), some (.int ((n + 1 : Nat) : Int)), some (.int i), none, none] ∧ Nx 1 q g) (sv_set2 2 (ev_draw R D0 hr (by omega) (ev_var 0 rfl) ev_int (by decide) (by decide) (ok.mono (by omega))) (fun d g' ⟨i, z1, z2, z3, z4⟩ => ⟨i, by rw [z1]; rfl, z4⟩) scValue.nd) fun r g h => ?_
    obtain ⟨i, rfl, nx⟩ := h
    have ok1 := ok.next nx
    refine sv_cons (N1 := fun r g' => r = [some (.ref a), some (.int ((n + 1 : Nat) : Int)), some (.int i), none, none] ∧ g' = g) (sv_ifd (et_bool (ew_ord (et_cmp (ev_var 1 rfl) ev_int opD_eqI) (fun _ => ew_or1 (et_cmp (ev_var 2 rfl) ev_int opD_lt)))) (fun _ => ?_) (fun z => sv_nil ⟨rfl, rfl⟩)) fun r gA h => ?_
    · exact sv_last (sv_ret (ev_imp (ev_plain R B D0 D1 D2 hr (by omega) (ev_var 0 rfl) (ok1.mono (by omega))) fun d g' ⟨z1, z2⟩ => ⟨z1.mono (by omega) (by omega), (nx.trans z2).mono (by omega)⟩))
    · obtain ⟨rfl, rfl⟩ := h
      refine sv_cons (N1 := fun r g2 => ∃ xs : List D, r = [some (.ref a), some (.int ((n + 1 : Nat) : Int)), some (.int i), some (.lst xs), none] ∧ xs.length ≤ 2 ∧ (∀ d ∈ xs, Shows (vL n) (2 * n + 1) d) ∧ Nx (2 + 2 * vB n) q g2) ?_ fun r g2 h => ?_
      · refine sv_lc2 3 (own := [("_law_k", 4)]) (gt := gName 4) (f := fN 4) (Q' := fun ds g1 => ds.length ≤ 2 ∧ Nx 2 q g1) (fun ds i acc g1 => ds.length ≤ 2 ∧ i ≤ ds.length ∧ acc.length = i ∧ (∀ d ∈ acc, Shows (vL n) (2 * n + 1) d) ∧ Nx (2 + i * vB n) q g1) rfl scValue.nd
          (sw_true rfl rfl rfl (by decide +kernel)) ?_ (blkOk_by (N := ["_law_source_here", "_law_deep", "_law_way", "_law_inner", "_law_k"]) (sc := defScope sValue) (own := [("_law_k", 4)]) (by decide +kernel)) (fun _ _ _ _ _ => pg_name scValue.nd rfl (Or.inl rfl)) (fun S' => tg_name 4) (fun ds g1 z => ⟨z.1, Nat.zero_le _, rfl, (fun _ h => nomatch h), by simpa using z.2⟩) ?_ ?_ ?_
        · refine id_range2 (Q1 := fun ds g' => ∃ n : Int, ds = [.int n] ∧ 0 ≤ n ∧ n < 3 ∧ Nx 1 gA g') (ea_cons2 (Qs := fun d ds g' => ds = [] ∧ ∃ n : Int, d = .int n ∧ 0 ≤ n ∧ n < 3 ∧ Nx 1 gA g') (ev_draw R D0 hr (by omega) (ev_var 0 rfl) ev_int (by decide) (by decide) (ok1.mono (by omega))) (fun d g1 z => ea_imp ea_nil fun ds g' h => ⟨h.1, h.2 ▸ z⟩) fun d ds g' ⟨h1, m, h2, h3⟩ => ⟨m, by rw [h1, h2], h3⟩) (fun ds g' ⟨m, h1, h2, h3, h4⟩ => ⟨m, h1, by omega, by omega, ?_, nx.trans h4⟩) B.range
          rw [rngD_length]
          omega
        · intro ds g0 i' d acc g1 hq hd ⟨f1, f2, f3, f4, f5⟩
          refine ⟨_, Isb g1 true, rfl, ⟨fun p o hp s H C cl fp => pts_yes, fun g2 hg2 p o hp s H C cl fp => ?_, fun g2 hg2 => by cases hg2.1⟩⟩
          obtain ⟨_, rfl⟩ := hg2
          have hi : i' < ds.length := by
            by_cases h : i' < ds.length
            · exact h
            · rw [List.getElem?_eq_none (by omega)] at hd
              cases hd
          have okv : DOk (vB n) g2 := by
            have : 2 + i' * vB n + vB n ≤ 1 + (1 + (2 * vB n + 3)) := by
              have : (i' + 1) * vB n ≤ 2 * vB n := Nat.mul_le_mul_right _ (by omega)
              rw [Nat.succ_mul] at this
              omega
            exact (ok.mono this).next f5
          refine ev_call A0 (ih (T.hold p o) (R.hold hp)) hr (ea_cons (ev_var 0 rfl) (ea_cons (d := .int (n : Int)) (ev_eq (ev_op (ev_var 1 rfl) ev_int opD_sub) (congrArg D.int (by omega))) ea_nil)) rfl ⟨rfl, okv⟩ fun d' g' ⟨z1, z2⟩ => ⟨f1, hi, by simp [f3], fun x hx => ?_, ?_⟩
          · rcases List.mem_append.mp hx with hx | hx
            · exact f4 x hx
            · rw [List.mem_singleton.mp hx]
              exact z1
          · have := f5.trans z2
            rw [Nat.succ_mul]
            exact this.mono (by omega)
        · intro ds g0 acc g1 hq ⟨f1, f2, f3, f4, f5⟩
          exact ⟨acc, rfl, by omega, f4, f5.mono (by have : ds.length * vB n ≤ 2 * vB n := Nat.mul_le_mul_right _ f1; omega)⟩
        · intro ds i' acc g1 ⟨f1, f2, f3, _⟩
          rw [sizeLine_eq]
          omega
      · obtain ⟨xs, rfl, hx1, hx2, nx2⟩ := h
        refine sv_cons (N1 := fun r g' => r = [some (.ref a), some (.int ((n + 1 : Nat) : Int)), some (.int i), some (.lst xs), none] ∧ g' = g2) (sv_ifd (et_cmp (ev_var 2 rfl) ev_int opD_eqI) (fun _ => ?_) (fun z => sv_nil ⟨rfl, rfl⟩)) fun r g' h => ?_
        · exact sv_last (sv_retd (ev_callTy (ea_cons (ev_var 3 rfl) ea_nil) callD_tupL B.tuple PyProof.Rows.Boot.tuple) ⟨(shows_tup hx2 hx1).mono (by omega) (by omega), nx2.mono (by omega)⟩)
        · obtain ⟨rfl, rfl⟩ := h
          refine sv_cons (N1 := fun r g3 => r = [some (.ref a), some (.int ((n + 1 : Nat) : Int)), some (.int i), some (.lst xs), none] ∧ g3 = g') (sv_ifd (et_cmp (ev_var 2 rfl) ev_int opD_eqI) (fun _ => ?_) (fun z => sv_nil ⟨rfl, rfl⟩)) fun r g3 h => ?_
          · exact sv_last (sv_retd (ev_var 3 rfl) ⟨(shows_lst hx2 hx1).mono (by omega) (by omega), nx2.mono (by omega)⟩)
          · obtain ⟨rfl, rfl⟩ := h
            have ok3 : DOk 3 g3 := (ok.mono (by omega : 2 + 2 * vB n + 3 ≤ 1 + (1 + (2 * vB n + 3)))).next nx2
            refine sv_last (sv_ret (ev_dict2 (a := .inr "a") (b := .inl 1) (P2 := fun d q' => Shows 700 1 d ∧ Nx 3 g3 q') (fun p _ => ev_str) (fun p _ => ev_var 3 rfl) (fun p _ => ev_int) (fun p hp => ev_plain (R.hold hp) B D0 D1 D2 hr (by omega) (ev_var 0 rfl) ok3) (fun v1 v2 => rfl) fun d2 g' ⟨z1, z2⟩ => ⟨?_, (nx2.trans z2).mono (by omega)⟩))
            exact (shows_dct (L := 2 * vL n + 6) (n := 2 * n + 2) (shows_lst hx2 hx1) (z1.mono (by omega) (by omega))).mono (by omega) (by omega)
end
end WT
set_option Elab.async false
set_option linter.all false
set_option autoImplicit false
set_option maxRecDepth 100000
set_option maxHeartbeats 4000000
namespace WT
open PySem L2 PyProof.Rows
abbrev sBare : Stmt := top 26
abbrev sMade : Stmt := top 27
abbrev sByName : Stmt := top 28
abbrev sHeld : Stmt := top 29
abbrev sMarks : Stmt := top 30
abbrev sDue : Stmt := top 31
theorem scBare : FnScope ["_law_which"] ["_law_which"] (defScope sBare) := ⟨rfl, rfl, rfl, by decide +kernel, rfl, by decide +kernel, by decide +kernel⟩
theorem scMade : FnScope ["_law_which", "_law_it"] ["_law_which", "_law_it"] (defScope sMade) := ⟨rfl, rfl, rfl, by decide +kernel, rfl, by decide +kernel, by decide +kernel⟩
theorem scByName : FnScope ["_law_which", "_law_it"] ["_law_which", "_law_it"] (defScope sByName) := ⟨rfl, rfl, rfl, by decide +kernel, rfl, by decide +kernel, by decide +kernel⟩
theorem scHeld : FnScope ["_law_which", "_law_error"] ["_law_which", "_law_error"] (defScope sHeld) := ⟨rfl, rfl, rfl, by decide +kernel, rfl, by decide +kernel, by decide +kernel⟩
theorem scMarks : FnScope ["_law_error", "_law_found", "_law_bases"] ["_law_error"] (defScope sMarks) := ⟨rfl, rfl, rfl, by decide +kernel, rfl, by decide +kernel, by decide +kernel⟩
theorem scDue : FnScope ["_law_which", "_law_is_turn", "_law_k"] ["_law_which"] (defScope sDue) := ⟨rfl, rfl, rfl, by decide +kernel, rfl, by decide +kernel, by decide +kernel⟩
def fldOf (i : Nat) : Str := match i with
  | 8 => "change"
  | 9 => "name"
  | 10 => "number"
  | 11 => "numbers"
  | 12 => "tree"
  | 13 => "name"
  | 14 => "row"
  | 15 => "number"
  | _ => "name"
/-- the errors' classes: 17 of them, their two bases -/
structure Errs (P : Program) (K : PySem.W.Frag) (mg : Str → Option Value) (cA : Nat → Addr) (tA uA : Addr) : Prop where
  e0 : XErr P K mg "InvalidTable" (cA 0) none
  e1 : XErr P K mg "InvalidStore" (cA 1) none
  e2 : XErr P K mg "InvalidQuestion" (cA 2) none
  e3 : XErr P K mg "InvalidForm" (cA 3) none
  e4 : XErr P K mg "InvalidText" (cA 4) none
  e5 : XErr P K mg "InvalidCommand" (cA 5) none
  e6 : XErr P K mg "InvalidShape" (cA 6) none
  e7 : XErr P K mg "Full" (cA 7) none
  e8 : XErr P K mg "InvalidChange" (cA 8) (some "change")
  e9 : XErr P K mg "NameTaken" (cA 9) (some "name")
  e10 : XErr P K mg "Broken" (cA 10) (some "number")
  e11 : XErr P K mg "Barred" (cA 11) (some "numbers")
  e12 : XErr P K mg "NoOrder" (cA 12) (some "tree")
  e13 : XErr P K mg "UnknownTable" (cA 13) (some "name")
  e14 : XErr P K mg "UnknownRow" (cA 14) (some "row")
  e15 : XErr P K mg "UnknownNumber" (cA 15) (some "number")
  e16 : XErr P K mg "UnknownReplica" (cA 16) (some "name")
  gT : mg "TurnError" = some (.ref tA)
  gU : mg "Unknown" = some (.ref uA)
  ask : ∀ i, i < 17 → ExcC K (cA i)
  isi : ∀ i j, i < 17 → j < 17 → PySem.W.kitOne K (.ref (cA i)) (.ref (cA j)) = some (decide (j = i))
  isT : ∀ i, i < 17 → PySem.W.kitOne K (.ref (cA i)) (.ref tA) = some (decide (i < 13))
  isV : ∀ i, i < 17 → PySem.W.kitOne K (.ref (cA i)) (.type "ValueError") = some (decide (i < 13))
  isU : ∀ i, i < 17 → PySem.W.kitOne K (.ref (cA i)) (.ref uA) = some (!decide (i < 13))
  isK : ∀ i, i < 17 → PySem.W.kitOne K (.ref (cA i)) (.type "KeyError") = some (!decide (i < 13))
  no : ∀ i, 8 ≤ i → i < 17 → PySem.W.findIn K (.ref (cA i)) (fldOf i) = some none
  sub : ∀ i, i < 17 → PySem.W.subIn K (.ref (cA i)) (.type "BaseException") = some true
  ty : ∀ i, i < 17 → PySem.W.typeIn K (.ref (cA i)) = some (.type "type")
  ex8 : ∀ i, i < 17 → PySem.W.exmOne K (.ref (cA i)) (.ref (cA 8)) = some (decide (i = 8))
  ex14 : ∀ i, i < 17 → PySem.W.exmOne K (.ref (cA i)) (.ref (cA 14)) = some (decide (i = 14))
  exT : ∀ i, i < 17 → PySem.W.exmOne K (.ref (cA i)) (.ref tA) = some (decide (i < 13))
  exU : ∀ i, i < 17 → PySem.W.exmOne K (.ref (cA i)) (.ref uA) = some (!decide (i < 13))
section
variable {G : Type} {S : Sys G} {P : Program} {w : World} {K : PySem.W.Frag} {mg : Str → Option Value} {base : Heap} {f : Addr} {fd : FuncData} {cA : Nat → Addr} {tA uA : Addr}
def preBare : Ps G := fun ds _ => ∃ i : Nat, ds = [.int i] ∧ i < 8
def postBare (cA : Nat → Addr) : List D → G → Po G := fun ds g d g' => ∃ i : Nat, ds = [.int i] ∧ d = .err0 (cA i) ∧ g' = g
theorem ok_bare (T : Errs P K mg cA tA uA) (F : Fun K "_law_bare" "_law_bare" sBare f fd) : FnG P w K mg base CX0 1 f fd ["_law_which"] (spD K S 1 preBare (postBare cA)) := by
  refine fn_ev (k := 0) F scBare fun cdv A outer s H E hr ds q hl hp => ?_
  obtain ⟨i, rfl, hi⟩ := hp
  refine sv_cons (N1 := fun r g' => r = [some (.int i)] ∧ q = g' ∧ i ≠ 0) (sv_ifd (et_cmp (ev_var 0 rfl) ev_int opD_eqI) (fun hk => sv_last (sv_retd (ev_err0 T.e0 hr) ?_)) (fun hk => sv_nil ⟨rfl, rfl, ?_⟩)) fun r g' h => ?_
  · have e : i = 0 := by have := of_decide_eq_true hk; omega
    subst e
    exact ⟨0, rfl, rfl, rfl⟩
  · have := of_decide_eq_false hk
    omega
  obtain ⟨rfl, rfl, n0⟩ := h
  refine sv_cons (N1 := fun r g' => r = [some (.int i)] ∧ q = g' ∧ i ≠ 1) (sv_ifd (et_cmp (ev_var 0 rfl) ev_int opD_eqI) (fun hk => sv_last (sv_retd (ev_err0 T.e1 hr) ?_)) (fun hk => sv_nil ⟨rfl, rfl, ?_⟩)) fun r g' h => ?_
  · have e : i = 1 := by have := of_decide_eq_true hk; omega
    subst e
    exact ⟨1, rfl, rfl, rfl⟩
  · have := of_decide_eq_false hk
    omega
  obtain ⟨rfl, rfl, n1⟩ := h
  refine sv_cons (N1 := fun r g' => r = [some (.int i)] ∧ q = g' ∧ i ≠ 2) (sv_ifd (et_cmp (ev_var 0 rfl) ev_int opD_eqI) (fun hk => sv_last (sv_retd (ev_err0 T.e2 hr) ?_)) (fun hk => sv_nil ⟨rfl, rfl, ?_⟩)) fun r g' h => ?_
  · have e : i = 2 := by have := of_decide_eq_true hk; omega
    subst e
    exact ⟨2, rfl, rfl, rfl⟩
  · have := of_decide_eq_false hk
    omega
  obtain ⟨rfl, rfl, n2⟩ := h
  refine sv_cons (N1 := fun r g' => r = [some (.int i)] ∧ q = g' ∧ i ≠ 3) (sv_ifd (et_cmp (ev_var 0 rfl) ev_int opD_eqI) (fun hk => sv_last (sv_retd (ev_err0 T.e3 hr) ?_)) (fun hk => sv_nil ⟨rfl, rfl, ?_⟩)) fun r g' h => ?_
  · have e : i = 3 := by have := of_decide_eq_true hk; omega
    subst e
    exact ⟨3, rfl, rfl, rfl⟩
  · have := of_decide_eq_false hk
    omega
  obtain ⟨rfl, rfl, n3⟩ := h
  refine sv_cons (N1 := fun r g' => r = [some (.int i)] ∧ q = g' ∧ i ≠ 4) (sv_ifd (et_cmp (ev_var 0 rfl) ev_int opD_eqI) (fun hk => sv_last (sv_retd (ev_err0 T.e4 hr) ?_)) (fun hk => sv_nil ⟨rfl, rfl, ?_⟩)) fun r g' h => ?_
  · have e : i = 4 := by have := of_decide_eq_true hk; omega
    subst e
    exact ⟨4, rfl, rfl, rfl⟩
  · have := of_decide_eq_false hk
    omega
  obtain ⟨rfl, rfl, n4⟩ := h
  refine sv_cons (N1 := fun r g' => r = [some (.int i)] ∧ q = g' ∧ i ≠ 5) (sv_ifd (et_cmp (ev_var 0 rfl) ev_int opD_eqI) (fun hk => sv_last (sv_retd (ev_err0 T.e5 hr) ?_)) (fun hk => sv_nil ⟨rfl, rfl, ?_⟩)) fun r g' h => ?_
  · have e : i = 5 := by have := of_decide_eq_true hk; omega
    subst e
    exact ⟨5, rfl, rfl, rfl⟩
  · have := of_decide_eq_false hk
    omega
  obtain ⟨rfl, rfl, n5⟩ := h
  refine sv_cons (N1 := fun r g' => r = [some (.int i)] ∧ q = g' ∧ i ≠ 6) (sv_ifd (et_cmp (ev_var 0 rfl) ev_int opD_eqI) (fun hk => sv_last (sv_retd (ev_err0 T.e6 hr) ?_)) (fun hk => sv_nil ⟨rfl, rfl, ?_⟩)) fun r g' h => ?_
  · have e : i = 6 := by have := of_decide_eq_true hk; omega
    subst e
    exact ⟨6, rfl, rfl, rfl⟩
  · have := of_decide_eq_false hk
    omega
  obtain ⟨rfl, rfl, n6⟩ := h
  have e : i = 7 := by omega
  subst e
  exact sv_last (sv_retd (ev_err0 T.e7 hr) ⟨7, rfl, rfl, rfl⟩)
def preMade : Ps G := fun ds _ => ∃ (i : Nat) (d : D), ds = [.int i, d] ∧ 8 ≤ i ∧ i < 17
def postMade (cA : Nat → Addr) : List D → G → Po G := fun ds g d g' => ∃ (i : Nat) (v : D), ds = [.int i, v] ∧ d = .err (cA i) [(fldOf i, v)] ∧ g' = g
theorem ok_made (T : Errs P K mg cA tA uA) (F : Fun K "_law_made" "_law_made" sMade f fd) : FnG P w K mg base CX0 1 f fd ["_law_which", "_law_it"] (spD K S 2 preMade (postMade cA)) := by
  refine fn_ev (k := 0) F scMade fun cdv A outer s H E hr ds q hl hp => ?_
  obtain ⟨i, d, rfl, h8, hi⟩ := hp
  refine sv_cons (N1 := fun r g' => r = [some (.int i), some d] ∧ q = g' ∧ i ≠ 8) (sv_ifd (et_cmp (ev_var 0 rfl) ev_int opD_eqI) (fun hk => sv_last (sv_retd (ev_err T.e8 hr (ev_var 1 rfl)) ?_)) (fun hk => sv_nil ⟨rfl, rfl, ?_⟩)) fun r g' h => ?_
  · have e : i = 8 := by have := of_decide_eq_true hk; omega
    subst e
    exact ⟨8, d, rfl, rfl, rfl⟩
  · have := of_decide_eq_false hk
    omega
  obtain ⟨rfl, rfl, n8⟩ := h
  refine sv_cons (N1 := fun r g' => r = [some (.int i), some d] ∧ q = g' ∧ i ≠ 9) (sv_ifd (et_cmp (ev_var 0 rfl) ev_int opD_eqI) (fun hk => sv_last (sv_retd (ev_err T.e9 hr (ev_var 1 rfl)) ?_)) (fun hk => sv_nil ⟨rfl, rfl, ?_⟩)) fun r g' h => ?_
  · have e : i = 9 := by have := of_decide_eq_true hk; omega
    subst e
    exact ⟨9, d, rfl, rfl, rfl⟩
  · have := of_decide_eq_false hk
    omega
  obtain ⟨rfl, rfl, n9⟩ := h
  refine sv_cons (N1 := fun r g' => r = [some (.int i), some d] ∧ q = g' ∧ i ≠ 10) (sv_ifd (et_cmp (ev_var 0 rfl) ev_int opD_eqI) (fun hk => sv_last (sv_retd (ev_err T.e10 hr (ev_var 1 rfl)) ?_)) (fun hk => sv_nil ⟨rfl, rfl, ?_⟩)) fun r g' h => ?_
  · have e : i = 10 := by have := of_decide_eq_true hk; omega
    subst e
    exact ⟨10, d, rfl, rfl, rfl⟩
  · have := of_decide_eq_false hk
    omega
  obtain ⟨rfl, rfl, n10⟩ := h
  refine sv_cons (N1 := fun r g' => r = [some (.int i), some d] ∧ q = g' ∧ i ≠ 11) (sv_ifd (et_cmp (ev_var 0 rfl) ev_int opD_eqI) (fun hk => sv_last (sv_retd (ev_err T.e11 hr (ev_var 1 rfl)) ?_)) (fun hk => sv_nil ⟨rfl, rfl, ?_⟩)) fun r g' h => ?_
  · have e : i = 11 := by have := of_decide_eq_true hk; omega
    subst e
    exact ⟨11, d, rfl, rfl, rfl⟩
  · have := of_decide_eq_false hk
    omega
  obtain ⟨rfl, rfl, n11⟩ := h
  refine sv_cons (N1 := fun r g' => r = [some (.int i), some d] ∧ q = g' ∧ i ≠ 12) (sv_ifd (et_cmp (ev_var 0 rfl) ev_int opD_eqI) (fun hk => sv_last (sv_retd (ev_err T.e12 hr (ev_var 1 rfl)) ?_)) (fun hk => sv_nil ⟨rfl, rfl, ?_⟩)) fun r g' h => ?_
  · have e : i = 12 := by have := of_decide_eq_true hk; omega
    subst e
    exact ⟨12, d, rfl, rfl, rfl⟩
  · have := of_decide_eq_false hk
    omega
  obtain ⟨rfl, rfl, n12⟩ := h
  refine sv_cons (N1 := fun r g' => r = [some (.int i), some d] ∧ q = g' ∧ i ≠ 13) (sv_ifd (et_cmp (ev_var 0 rfl) ev_int opD_eqI) (fun hk => sv_last (sv_retd (ev_err T.e13 hr (ev_var 1 rfl)) ?_)) (fun hk => sv_nil ⟨rfl, rfl, ?_⟩)) fun r g' h => ?_
  · have e : i = 13 := by have := of_decide_eq_true hk; omega
    subst e
    exact ⟨13, d, rfl, rfl, rfl⟩
  · have := of_decide_eq_false hk
    omega
  obtain ⟨rfl, rfl, n13⟩ := h
  refine sv_cons (N1 := fun r g' => r = [some (.int i), some d] ∧ q = g' ∧ i ≠ 14) (sv_ifd (et_cmp (ev_var 0 rfl) ev_int opD_eqI) (fun hk => sv_last (sv_retd (ev_err T.e14 hr (ev_var 1 rfl)) ?_)) (fun hk => sv_nil ⟨rfl, rfl, ?_⟩)) fun r g' h => ?_
  · have e : i = 14 := by have := of_decide_eq_true hk; omega
    subst e
    exact ⟨14, d, rfl, rfl, rfl⟩
  · have := of_decide_eq_false hk
    omega
  obtain ⟨rfl, rfl, n14⟩ := h
  refine sv_cons (N1 := fun r g' => r = [some (.int i), some d] ∧ q = g' ∧ i ≠ 15) (sv_ifd (et_cmp (ev_var 0 rfl) ev_int opD_eqI) (fun hk => sv_last (sv_retd (ev_err T.e15 hr (ev_var 1 rfl)) ?_)) (fun hk => sv_nil ⟨rfl, rfl, ?_⟩)) fun r g' h => ?_
  · have e : i = 15 := by have := of_decide_eq_true hk; omega
    subst e
    exact ⟨15, d, rfl, rfl, rfl⟩
  · have := of_decide_eq_false hk
    omega
  obtain ⟨rfl, rfl, n15⟩ := h
  have e : i = 16 := by omega
  subst e
  exact sv_last (sv_retd (ev_err T.e16 hr (ev_var 1 rfl)) ⟨16, d, rfl, rfl, rfl⟩)
theorem ok_made_by_name (T : Errs P K mg cA tA uA) (F : Fun K "_law_made_by_name" "_law_made_by_name" sByName f fd) : FnG P w K mg base CX0 1 f fd ["_law_which", "_law_it"] (spD K S 2 preMade (postMade cA)) := by
  refine fn_ev (k := 0) F scByName fun cdv A outer s H E hr ds q hl hp => ?_
  obtain ⟨i, d, rfl, h8, hi⟩ := hp
  refine sv_cons (N1 := fun r g' => r = [some (.int i), some d] ∧ q = g' ∧ i ≠ 8) (sv_ifd (et_cmp (ev_var 0 rfl) ev_int opD_eqI) (fun hk => sv_last (sv_retd (ev_errK T.e8 hr (ev_var 1 rfl)) ?_)) (fun hk => sv_nil ⟨rfl, rfl, ?_⟩)) fun r g' h => ?_
  · have e : i = 8 := by have := of_decide_eq_true hk; omega
    subst e
    exact ⟨8, d, rfl, rfl, rfl⟩
  · have := of_decide_eq_false hk
    omega
  obtain ⟨rfl, rfl, n8⟩ := h
  refine sv_cons (N1 := fun r g' => r = [some (.int i), some d] ∧ q = g' ∧ i ≠ 9) (sv_ifd (et_cmp (ev_var 0 rfl) ev_int opD_eqI) (fun hk => sv_last (sv_retd (ev_errK T.e9 hr (ev_var 1 rfl)) ?_)) (fun hk => sv_nil ⟨rfl, rfl, ?_⟩)) fun r g' h => ?_
  · have e : i = 9 := by have := of_decide_eq_true hk; omega
    subst e
    exact ⟨9, d, rfl, rfl, rfl⟩
  · have := of_decide_eq_false hk
    omega
  obtain ⟨rfl, rfl, n9⟩ := h
  refine sv_cons (N1 := fun r g' => r = [some (.int i), some d] ∧ q = g' ∧ i ≠ 10) (sv_ifd (et_cmp (ev_var 0 rfl) ev_int opD_eqI) (fun hk => sv_last (sv_retd (ev_errK T.e10 hr (ev_var 1 rfl)) ?_)) (fun hk => sv_nil ⟨rfl, rfl, ?_⟩)) fun r g' h => ?_
  · have e : i = 10 := by have := of_decide_eq_true hk; omega
    subst e
    exact ⟨10, d, rfl, rfl, rfl⟩
  · have := of_decide_eq_false hk
    omega
  obtain ⟨rfl, rfl, n10⟩ := h
  refine sv_cons (N1 := fun r g' => r = [some (.int i), some d] ∧ q = g' ∧ i ≠ 11) (sv_ifd (et_cmp (ev_var 0 rfl) ev_int opD_eqI) (fun hk => sv_last (sv_retd (ev_errK T.e11 hr (ev_var 1 rfl)) ?_)) (fun hk => sv_nil ⟨rfl, rfl, ?_⟩)) fun r g' h => ?_
  · have e : i = 11 := by have := of_decide_eq_true hk; omega
    subst e
    exact ⟨11, d, rfl, rfl, rfl⟩
  · have := of_decide_eq_false hk
    omega
  obtain ⟨rfl, rfl, n11⟩ := h
  refine sv_cons (N1 := fun r g' => r = [some (.int i), some d] ∧ q = g' ∧ i ≠ 12) (sv_ifd (et_cmp (ev_var 0 rfl) ev_int opD_eqI) (fun hk => sv_last (sv_retd (ev_errK T.e12 hr (ev_var 1 rfl)) ?_)) (fun hk => sv_nil ⟨rfl, rfl, ?_⟩)) fun r g' h => ?_
  · have e : i = 12 := by have := of_decide_eq_true hk; omega
    subst e
    exact ⟨12, d, rfl, rfl, rfl⟩
  · have := of_decide_eq_false hk
    omega
  obtain ⟨rfl, rfl, n12⟩ := h
  refine sv_cons (N1 := fun r g' => r = [some (.int i), some d] ∧ q = g' ∧ i ≠ 13) (sv_ifd (et_cmp (ev_var 0 rfl) ev_int opD_eqI) (fun hk => sv_last (sv_retd (ev_errK T.e13 hr (ev_var 1 rfl)) ?_)) (fun hk => sv_nil ⟨rfl, rfl, ?_⟩)) fun r g' h => ?_
  · have e : i = 13 := by have := of_decide_eq_true hk; omega
    subst e
    exact ⟨13, d, rfl, rfl, rfl⟩
  · have := of_decide_eq_false hk
    omega
  obtain ⟨rfl, rfl, n13⟩ := h
  refine sv_cons (N1 := fun r g' => r = [some (.int i), some d] ∧ q = g' ∧ i ≠ 14) (sv_ifd (et_cmp (ev_var 0 rfl) ev_int opD_eqI) (fun hk => sv_last (sv_retd (ev_errK T.e14 hr (ev_var 1 rfl)) ?_)) (fun hk => sv_nil ⟨rfl, rfl, ?_⟩)) fun r g' h => ?_
  · have e : i = 14 := by have := of_decide_eq_true hk; omega
    subst e
    exact ⟨14, d, rfl, rfl, rfl⟩
  · have := of_decide_eq_false hk
    omega
  obtain ⟨rfl, rfl, n14⟩ := h
  refine sv_cons (N1 := fun r g' => r = [some (.int i), some d] ∧ q = g' ∧ i ≠ 15) (sv_ifd (et_cmp (ev_var 0 rfl) ev_int opD_eqI) (fun hk => sv_last (sv_retd (ev_errK T.e15 hr (ev_var 1 rfl)) ?_)) (fun hk => sv_nil ⟨rfl, rfl, ?_⟩)) fun r g' h => ?_
  · have e : i = 15 := by have := of_decide_eq_true hk; omega
    subst e
    exact ⟨15, d, rfl, rfl, rfl⟩
  · have := of_decide_eq_false hk
    omega
  obtain ⟨rfl, rfl, n15⟩ := h
  have e : i = 16 := by omega
  subst e
  exact sv_last (sv_retd (ev_errK T.e16 hr (ev_var 1 rfl)) ⟨16, d, rfl, rfl, rfl⟩)
/-- a number among some -/
theorem opD_inI {X : Cx} {g : G} {i : Int} {ns : List Int} : OpD X S g (compareOp .In) (.int i) (.tup (ns.map D.int)) (Is g (.bl (ns.any fun j => decide (j = i)))) := OpD.of op_in_seq fun x y H j t1 t2 => by
  cases t1
  cases t2 with
  | tup m l =>
    obtain rfl := DtL.ints l
    refine ⟨_, _, rfl, .inr m.sq, rfl, ?_, ?_⟩
    · rw [List.all_map]
      exact List.all_eq_true.mpr fun _ _ => rfl
    · have e : inV (.int i) (ns.map V.int) = ns.any fun j => decide (j = i) := by
        unfold inV
        rw [List.any_map]
        congr 1
      rw [if_neg (by decide), e]
      exact good_same j (.bl _) ⟨rfl, rfl⟩
def preHeld (cA : Nat → Addr) : Ps G := fun ds _ => ∃ (i : Nat) (d : D), ds = [.int i, .err (cA i) [(fldOf i, d)]] ∧ 8 ≤ i ∧ i < 17
def postHeld : List D → G → Po G := fun ds g d g' => ∃ (b : D) (C : Addr) (x : Str), ds = [b, .err C [(x, d)]] ∧ g' = g
theorem ok_held (T : Errs P K mg cA tA uA) (F : Fun K "_law_held" "_law_held" sHeld f fd) : FnG P w K mg base CX0 1 f fd ["_law_which", "_law_error"] (spD K S 2 (preHeld cA) postHeld) := by
  refine fn_ev (k := 0) F scHeld fun cdv A outer s H E hr ds q hl hp => ?_
  obtain ⟨i, d, rfl, h8, hi⟩ := hp
  have get : ∀ {x : Str} {p1 p2 : Pos} {X : Cx} (_ : X.K = K) {ρ : En}, fldOf i = x → EVd X S q ρ (.Name "_law_error" p1) (.err (cA i) [(fldOf i, d)]) → attributeBase (.Name "_law_error" p1) x X.env (eval (.Name "_law_error" p1) X.env) = eval (.Name "_law_error" p1) X.env → EVd X S q ρ (.Attribute (.Name "_law_error" p1) x p2) d := fun {x p1 p2 X} hK {ρ} e h hb => by
    subst e
    subst hK
    exact ev_errGet (T.ask i hi) (T.no i h8 hi) h hb
  refine sv_cons (N1 := fun r g' => r = [some (.int i), some (.err (cA i) [(fldOf i, d)])] ∧ q = g' ∧ ¬ (i = 8)) (sv_ifd (et_cmp (ev_var 0 rfl) ev_int opD_eqI) (fun hk => sv_last (sv_retd (get rfl ?_ (ev_var 1 rfl) rfl) ⟨_, _, _, rfl, rfl⟩)) (fun hk => sv_nil ⟨rfl, rfl, ?_⟩)) fun r g' h => ?_
  · have e : i = 8 := by
      simp only [List.any_cons, List.any_nil, Bool.or_false, Bool.or_eq_true, decide_eq_true_eq] at hk
      omega
    rcases e with rfl <;> rfl
  · simp only [List.any_cons, List.any_nil, Bool.or_false, Bool.or_eq_false_iff, decide_eq_false_iff_not] at hk
    omega
  obtain ⟨rfl, rfl, n0⟩ := h
  refine sv_cons (N1 := fun r g' => r = [some (.int i), some (.err (cA i) [(fldOf i, d)])] ∧ q = g' ∧ ¬ (i = 9 ∨ i = 13 ∨ i = 16)) (sv_ifd (et_cmp (ev_var 0 rfl) (ev_tup (ea_cons ev_int (ea_cons ev_int (ea_cons ev_int ea_nil))) (by rw [sizeLine_eq]; show 3 ≤ 16777216; decide)) (opD_inI (ns := [9, 13, 16])) rfl) (fun hk => sv_last (sv_retd (get rfl ?_ (ev_var 1 rfl) rfl) ⟨_, _, _, rfl, rfl⟩)) (fun hk => sv_nil ⟨rfl, rfl, ?_⟩)) fun r g' h => ?_
  · have e : i = 9 ∨ i = 13 ∨ i = 16 := by
      simp only [List.any_cons, List.any_nil, Bool.or_false, Bool.or_eq_true, decide_eq_true_eq] at hk
      omega
    rcases e with rfl | rfl | rfl <;> rfl
  · simp only [List.any_cons, List.any_nil, Bool.or_false, Bool.or_eq_false_iff, decide_eq_false_iff_not] at hk
    omega
  obtain ⟨rfl, rfl, n1⟩ := h
  refine sv_cons (N1 := fun r g' => r = [some (.int i), some (.err (cA i) [(fldOf i, d)])] ∧ q = g' ∧ ¬ (i = 10 ∨ i = 15)) (sv_ifd (et_cmp (ev_var 0 rfl) (ev_tup (ea_cons ev_int (ea_cons ev_int ea_nil)) (by rw [sizeLine_eq]; show 2 ≤ 16777216; decide)) (opD_inI (ns := [10, 15])) rfl) (fun hk => sv_last (sv_retd (get rfl ?_ (ev_var 1 rfl) rfl) ⟨_, _, _, rfl, rfl⟩)) (fun hk => sv_nil ⟨rfl, rfl, ?_⟩)) fun r g' h => ?_
  · have e : i = 10 ∨ i = 15 := by
      simp only [List.any_cons, List.any_nil, Bool.or_false, Bool.or_eq_true, decide_eq_true_eq] at hk
      omega
    rcases e with rfl | rfl <;> rfl
  · simp only [List.any_cons, List.any_nil, Bool.or_false, Bool.or_eq_false_iff, decide_eq_false_iff_not] at hk
    omega
  obtain ⟨rfl, rfl, n2⟩ := h
  refine sv_cons (N1 := fun r g' => r = [some (.int i), some (.err (cA i) [(fldOf i, d)])] ∧ q = g' ∧ ¬ (i = 11)) (sv_ifd (et_cmp (ev_var 0 rfl) ev_int opD_eqI) (fun hk => sv_last (sv_retd (get rfl ?_ (ev_var 1 rfl) rfl) ⟨_, _, _, rfl, rfl⟩)) (fun hk => sv_nil ⟨rfl, rfl, ?_⟩)) fun r g' h => ?_
  · have e : i = 11 := by
      simp only [List.any_cons, List.any_nil, Bool.or_false, Bool.or_eq_true, decide_eq_true_eq] at hk
      omega
    rcases e with rfl <;> rfl
  · simp only [List.any_cons, List.any_nil, Bool.or_false, Bool.or_eq_false_iff, decide_eq_false_iff_not] at hk
    omega
  obtain ⟨rfl, rfl, n3⟩ := h
  refine sv_cons (N1 := fun r g' => r = [some (.int i), some (.err (cA i) [(fldOf i, d)])] ∧ q = g' ∧ ¬ (i = 12)) (sv_ifd (et_cmp (ev_var 0 rfl) ev_int opD_eqI) (fun hk => sv_last (sv_retd (get rfl ?_ (ev_var 1 rfl) rfl) ⟨_, _, _, rfl, rfl⟩)) (fun hk => sv_nil ⟨rfl, rfl, ?_⟩)) fun r g' h => ?_
  · have e : i = 12 := by
      simp only [List.any_cons, List.any_nil, Bool.or_false, Bool.or_eq_true, decide_eq_true_eq] at hk
      omega
    rcases e with rfl <;> rfl
  · simp only [List.any_cons, List.any_nil, Bool.or_false, Bool.or_eq_false_iff, decide_eq_false_iff_not] at hk
    omega
  obtain ⟨rfl, rfl, n4⟩ := h
  have e : i = 14 := by omega
  exact sv_last (sv_retd (get rfl (by subst e; rfl) (ev_var 1 rfl) rfl) ⟨_, _, _, rfl, rfl⟩)
/-! ### of which classes an error is -/
def marksD (i : Nat) : List D := (List.range 17).map fun j => D.bl (decide (j = i))
def markD (i : Nat) : D := .tup [.lst (marksD i), .lst [.bl (decide (i < 13)), .bl (decide (i < 13))], .lst [.bl (!decide (i < 13)), .bl (!decide (i < 13))]]
def preMarks (cA : Nat → Addr) : Ps G := fun ds _ => ∃ (i : Nat) (d : D), ds = [d] ∧ i < 17 ∧ IsErr (cA i) d
def postMarks (cA : Nat → Addr) : List D → G → Po G := fun ds g d g' => ∃ (i : Nat) (b : D), ds = [b] ∧ i < 17 ∧ IsErr (cA i) b ∧ d = markD i ∧ g' = g
theorem ev_cls {X : Cx} {g : G} {ρ : En} {x : Str} {C : Addr} {p : Pos} (h : X.mg x = some (.ref C)) (hg : Gl X x := by rfl) (hd : (x == ("__debug__" : Str)) = false := by decide) : EVd X S g ρ (.Name x p) (.ref C) := ev_glob (v := .ref C) (u := .ref C) h rfl (fun _ => .ref C) hg hd
theorem ev_ty {X : Cx} {g : G} {ρ : En} {x : Str} {n : String} {p : Pos} (h : X.mg x = none) (hb : bootBuiltins x = some (.type n)) (hg : Gl X x := by rfl) (hn : x ≠ "__name__" := by decide) (hd : (x == ("__debug__" : Str)) = false := by decide) : EVd X S g ρ (.Name x p) (.ty n) := ev_bltn (v := .ty n) (u := .type n) h hb rfl (fun _ => .ty n) hg hn hd
theorem ok_marks (T : Errs P K mg cA tA uA) (B : Blt mg) (F : Fun K "_law_marks" "_law_marks" sMarks f fd) : FnG P w K mg base CX0 1 f fd ["_law_error"] (spD K S 1 (preMarks cA) (postMarks cA)) := by
  refine fn_ev (k := 0) F scMarks fun cdv A outer s H E hr ds q hl hp => ?_
  obtain ⟨i, d, rfl, hi, he⟩ := hp
  refine sv_cons (N1 := fun r g' => r = [some d, some (.lst [.bl (decide (0 = i)), .bl (decide (1 = i)), .bl (decide (2 = i))]), none] ∧ q = g') (sv_set 1 (ev_lst (ea_cons (ev_callB (ea_cons (ev_var 0 rfl) (ea_cons (ev_cls T.e0.mg) ea_nil)) (callD_isE (T.ask i hi) he (T.isi i 0 hi (by decide))) B.isi PyProof.Rows.boot_isinstance) (ea_cons (ev_callB (ea_cons (ev_var 0 rfl) (ea_cons (ev_cls T.e1.mg) ea_nil)) (callD_isE (T.ask i hi) he (T.isi i 1 hi (by decide))) B.isi PyProof.Rows.boot_isinstance) (ea_cons (ev_callB (ea_cons (ev_var 0 rfl) (ea_cons (ev_cls T.e2.mg) ea_nil)) (callD_isE (T.ask i hi) he (T.isi i 2 hi (by decide))) B.isi PyProof.Rows.boot_isinstance) ea_nil))) (by rw [sizeLine_eq]; show 3 ≤ 16777216; decide)) ⟨rfl, rfl⟩ scMarks.nd) fun r g' h => ?_
  obtain ⟨rfl, rfl⟩ := h
  refine sv_cons (N1 := fun r g' => r = [some d, some (.lst [.bl (decide (0 = i)), .bl (decide (1 = i)), .bl (decide (2 = i)), .bl (decide (3 = i)), .bl (decide (4 = i)), .bl (decide (5 = i))]), none] ∧ q = g') (sv_set 1 (ev_op (ev_var 1 rfl) (ev_lst (ea_cons (ev_callB (ea_cons (ev_var 0 rfl) (ea_cons (ev_cls T.e3.mg) ea_nil)) (callD_isE (T.ask i hi) he (T.isi i 3 hi (by decide))) B.isi PyProof.Rows.boot_isinstance) (ea_cons (ev_callB (ea_cons (ev_var 0 rfl) (ea_cons (ev_cls T.e4.mg) ea_nil)) (callD_isE (T.ask i hi) he (T.isi i 4 hi (by decide))) B.isi PyProof.Rows.boot_isinstance) (ea_cons (ev_callB (ea_cons (ev_var 0 rfl) (ea_cons (ev_cls T.e5.mg) ea_nil)) (callD_isE (T.ask i hi) he (T.isi i 5 hi (by decide))) B.isi PyProof.Rows.boot_isinstance) ea_nil))) (by rw [sizeLine_eq]; show 3 ≤ 16777216; decide)) (opD_cat (by rw [sizeLine_eq]; show 6 ≤ 16777216; decide))) ⟨rfl, rfl⟩ scMarks.nd) fun r g' h => ?_
  obtain ⟨rfl, rfl⟩ := h
  refine sv_cons (N1 := fun r g' => r = [some d, some (.lst [.bl (decide (0 = i)), .bl (decide (1 = i)), .bl (decide (2 = i)), .bl (decide (3 = i)), .bl (decide (4 = i)), .bl (decide (5 = i)), .bl (decide (6 = i)), .bl (decide (7 = i)), .bl (decide (8 = i))]), none] ∧ q = g') (sv_set 1 (ev_op (ev_var 1 rfl) (ev_lst (ea_cons (ev_callB (ea_cons (ev_var 0 rfl) (ea_cons (ev_cls T.e6.mg) ea_nil)) (callD_isE (T.ask i hi) he (T.isi i 6 hi (by decide))) B.isi PyProof.Rows.boot_isinstance) (ea_cons (ev_callB (ea_cons (ev_var 0 rfl) (ea_cons (ev_cls T.e7.mg) ea_nil)) (callD_isE (T.ask i hi) he (T.isi i 7 hi (by decide))) B.isi PyProof.Rows.boot_isinstance) (ea_cons (ev_callB (ea_cons (ev_var 0 rfl) (ea_cons (ev_cls T.e8.mg) ea_nil)) (callD_isE (T.ask i hi) he (T.isi i 8 hi (by decide))) B.isi PyProof.Rows.boot_isinstance) ea_nil))) (by rw [sizeLine_eq]; show 3 ≤ 16777216; decide)) (opD_cat (by rw [sizeLine_eq]; show 9 ≤ 16777216; decide))) ⟨rfl, rfl⟩ scMarks.nd) fun r g' h => ?_
  obtain ⟨rfl, rfl⟩ := h
  refine sv_cons (N1 := fun r g' => r = [some d, some (.lst [.bl (decide (0 = i)), .bl (decide (1 = i)), .bl (decide (2 = i)), .bl (decide (3 = i)), .bl (decide (4 = i)), .bl (decide (5 = i)), .bl (decide (6 = i)), .bl (decide (7 = i)), .bl (decide (8 = i)), .bl (decide (9 = i)), .bl (decide (10 = i)), .bl (decide (11 = i))]), none] ∧ q = g') (sv_set 1 (ev_op (ev_var 1 rfl) (ev_lst (ea_cons (ev_callB (ea_cons (ev_var 0 rfl) (ea_cons (ev_cls T.e9.mg) ea_nil)) (callD_isE (T.ask i hi) he (T.isi i 9 hi (by decide))) B.isi PyProof.Rows.boot_isinstance) (ea_cons (ev_callB (ea_cons (ev_var 0 rfl) (ea_cons (ev_cls T.e10.mg) ea_nil)) (callD_isE (T.ask i hi) he (T.isi i 10 hi (by decide))) B.isi PyProof.Rows.boot_isinstance) (ea_cons (ev_callB (ea_cons (ev_var 0 rfl) (ea_cons (ev_cls T.e11.mg) ea_nil)) (callD_isE (T.ask i hi) he (T.isi i 11 hi (by decide))) B.isi PyProof.Rows.boot_isinstance) ea_nil))) (by rw [sizeLine_eq]; show 3 ≤ 16777216; decide)) (opD_cat (by rw [sizeLine_eq]; show 12 ≤ 16777216; decide))) ⟨rfl, rfl⟩ scMarks.nd) fun r g' h => ?_
  obtain ⟨rfl, rfl⟩ := h
  refine sv_cons (N1 := fun r g' => r = [some d, some (.lst [.bl (decide (0 = i)), .bl (decide (1 = i)), .bl (decide (2 = i)), .bl (decide (3 = i)), .bl (decide (4 = i)), .bl (decide (5 = i)), .bl (decide (6 = i)), .bl (decide (7 = i)), .bl (decide (8 = i)), .bl (decide (9 = i)), .bl (decide (10 = i)), .bl (decide (11 = i)), .bl (decide (12 = i)), .bl (decide (13 = i)), .bl (decide (14 = i))]), none] ∧ q = g') (sv_set 1 (ev_op (ev_var 1 rfl) (ev_lst (ea_cons (ev_callB (ea_cons (ev_var 0 rfl) (ea_cons (ev_cls T.e12.mg) ea_nil)) (callD_isE (T.ask i hi) he (T.isi i 12 hi (by decide))) B.isi PyProof.Rows.boot_isinstance) (ea_cons (ev_callB (ea_cons (ev_var 0 rfl) (ea_cons (ev_cls T.e13.mg) ea_nil)) (callD_isE (T.ask i hi) he (T.isi i 13 hi (by decide))) B.isi PyProof.Rows.boot_isinstance) (ea_cons (ev_callB (ea_cons (ev_var 0 rfl) (ea_cons (ev_cls T.e14.mg) ea_nil)) (callD_isE (T.ask i hi) he (T.isi i 14 hi (by decide))) B.isi PyProof.Rows.boot_isinstance) ea_nil))) (by rw [sizeLine_eq]; show 3 ≤ 16777216; decide)) (opD_cat (by rw [sizeLine_eq]; show 15 ≤ 16777216; decide))) ⟨rfl, rfl⟩ scMarks.nd) fun r g' h => ?_
  obtain ⟨rfl, rfl⟩ := h
  refine sv_cons (N1 := fun r g' => r = [some d, some (.lst [.bl (decide (0 = i)), .bl (decide (1 = i)), .bl (decide (2 = i)), .bl (decide (3 = i)), .bl (decide (4 = i)), .bl (decide (5 = i)), .bl (decide (6 = i)), .bl (decide (7 = i)), .bl (decide (8 = i)), .bl (decide (9 = i)), .bl (decide (10 = i)), .bl (decide (11 = i)), .bl (decide (12 = i)), .bl (decide (13 = i)), .bl (decide (14 = i)), .bl (decide (15 = i)), .bl (decide (16 = i))]), none] ∧ q = g') (sv_set 1 (ev_op (ev_var 1 rfl) (ev_lst (ea_cons (ev_callB (ea_cons (ev_var 0 rfl) (ea_cons (ev_cls T.e15.mg) ea_nil)) (callD_isE (T.ask i hi) he (T.isi i 15 hi (by decide))) B.isi PyProof.Rows.boot_isinstance) (ea_cons (ev_callB (ea_cons (ev_var 0 rfl) (ea_cons (ev_cls T.e16.mg) ea_nil)) (callD_isE (T.ask i hi) he (T.isi i 16 hi (by decide))) B.isi PyProof.Rows.boot_isinstance) ea_nil)) (by rw [sizeLine_eq]; show 2 ≤ 16777216; decide)) (opD_cat (by rw [sizeLine_eq]; show 17 ≤ 16777216; decide))) ⟨rfl, rfl⟩ scMarks.nd) fun r g' h => ?_
  obtain ⟨rfl, rfl⟩ := h
  have isT : ∀ {p1 p2 p3 p4 : Pos} {ρ : En}, ρ[0]? = some (some d) → EVd (CxN P w K mg base ["_law_error", "_law_found", "_law_bases"] "_law_marks" sMarks f cdv A outer s H E) S q ρ (.Call (.Name "isinstance" p1) [.Name "_law_error" p2, .Name "TurnError" p3] [] p4) (.bl (decide (i < 13))) := fun {p1 p2 p3 p4 ρ} h => ev_callB (ea_cons (ev_var 0 h) (ea_cons (ev_cls T.gT) ea_nil)) (callD_isE (T.ask i hi) he (T.isT i hi)) B.isi PyProof.Rows.boot_isinstance
  refine sv_cons (N1 := fun r g' => r = [some d, some (.lst [.bl (decide (0 = i)), .bl (decide (1 = i)), .bl (decide (2 = i)), .bl (decide (3 = i)), .bl (decide (4 = i)), .bl (decide (5 = i)), .bl (decide (6 = i)), .bl (decide (7 = i)), .bl (decide (8 = i)), .bl (decide (9 = i)), .bl (decide (10 = i)), .bl (decide (11 = i)), .bl (decide (12 = i)), .bl (decide (13 = i)), .bl (decide (14 = i)), .bl (decide (15 = i)), .bl (decide (16 = i))]), some (.lst [.bl (decide (i < 13)), .bl (decide (i < 13))])] ∧ q = g') (sv_set 2 (ev_lst (ea_cons (isT rfl) (ea_cons (ev_callB (ea_cons (ev_var 0 rfl) (ea_cons (ev_ty B.ve (n := "ValueError") (by decide +kernel)) ea_nil)) (callD_isT (T.ask i hi) he (T.isV i hi)) B.isi PyProof.Rows.boot_isinstance) ea_nil)) (by rw [sizeLine_eq]; show 2 ≤ 16777216; decide)) ⟨rfl, rfl⟩ scMarks.nd) fun r g' h => ?_
  obtain ⟨rfl, rfl⟩ := h
  refine sv_last (sv_retd (d := .tup [.lst [.bl (decide (0 = i)), .bl (decide (1 = i)), .bl (decide (2 = i)), .bl (decide (3 = i)), .bl (decide (4 = i)), .bl (decide (5 = i)), .bl (decide (6 = i)), .bl (decide (7 = i)), .bl (decide (8 = i)), .bl (decide (9 = i)), .bl (decide (10 = i)), .bl (decide (11 = i)), .bl (decide (12 = i)), .bl (decide (13 = i)), .bl (decide (14 = i)), .bl (decide (15 = i)), .bl (decide (16 = i))], .lst [.bl (decide (i < 13)), .bl (decide (i < 13))], .lst [.bl (!decide (i < 13)), .bl (!decide (i < 13))]]) (ev_tup (ea_cons (ev_var 1 rfl) (ea_cons (ev_var 2 rfl) (ea_cons (ev_lst (ea_cons (ev_callB (ea_cons (ev_var 0 rfl) (ea_cons (ev_cls T.gU) ea_nil)) (callD_isE (T.ask i hi) he (T.isU i hi)) B.isi PyProof.Rows.boot_isinstance) (ea_cons (ev_callB (ea_cons (ev_var 0 rfl) (ea_cons (ev_ty B.ke (n := "KeyError") (by decide +kernel)) ea_nil)) (callD_isT (T.ask i hi) he (T.isK i hi)) B.isi PyProof.Rows.boot_isinstance) ea_nil)) (by rw [sizeLine_eq]; show 2 ≤ 16777216; decide)) ea_nil))) (by rw [sizeLine_eq]; show 3 ≤ 16777216; decide)) ⟨i, d, rfl, hi, he, rfl, rfl⟩)
def preDue : Ps G := fun ds _ => ∃ i : Nat, ds = [.int i] ∧ i < 17
def postDue : List D → G → Po G := fun ds g d g' => ∃ i : Nat, ds = [.int i] ∧ d = markD i ∧ g' = g
theorem ok_due (B : Blt mg) (F : Fun K "_law_due" "_law_due" sDue f fd) : FnG P w K mg base CX0 1 f fd ["_law_which"] (spD K S 1 preDue postDue) := by
  refine fn_ev (k := 0) F scDue fun cdv A outer s H E hr ds q hl hp => ?_
  obtain ⟨i, rfl, hi⟩ := hp
  refine sv_cons (N1 := fun r g' => r = [some (.int i), some (.bl (decide (i < 13))), none] ∧ q = g') (sv_set 1 (ev_eq (ev_cmp (ev_var 0 rfl) ev_int opD_lt) (congrArg D.bl (by simp only [decide_eq_decide]; omega))) ⟨rfl, rfl⟩ scDue.nd) fun r g' h => ?_
  obtain ⟨rfl, rfl⟩ := h
  refine sv_last (sv_retd (d := markD i) (ev_tup (ea_cons ?_ (ea_cons (ev_op (ev_lst (ea_cons (ev_var 1 rfl) ea_nil) (by rw [sizeLine_eq]; show 1 ≤ 16777216; decide)) ev_int (opD_rep (by decide) (by decide) (by rw [sizeLine_eq]; show 2 ≤ 16777216; decide))) (ea_cons (ev_op (ev_lst (ea_cons (ev_not (ev_var 1 rfl)) ea_nil) (by rw [sizeLine_eq]; show 1 ≤ 16777216; decide)) ev_int (opD_rep (by decide) (by decide) (by rw [sizeLine_eq]; show 2 ≤ 16777216; decide))) ea_nil))) (by rw [sizeLine_eq]; show 3 ≤ 16777216; decide)) ⟨i, rfl, rfl, rfl⟩)
  refine ev_lc2 (own := [("_law_k", 2)]) (gt := gName 2) (f := fN 2) (Q' := fun ds g1 => ds = rngD 0 17 ∧ g1 = q) (fun ds n acc g1 => ds = rngD 0 17 ∧ n ≤ 17 ∧ acc = (List.range n).map (fun j => D.bl (decide (j = i))) ∧ q = g1) rfl scDue.nd
    (id_range ev_int (by decide) (by decide) B.range) (blkOk_by (N := ["_law_which", "_law_is_turn", "_law_k"]) (sc := defScope sDue) (own := [("_law_k", 2)]) (by decide +kernel)) (fun _ _ _ _ _ => pg_name scDue.nd rfl (Or.inl rfl)) (fun S' => tg_name 2)
    (fun ds g1 z => ⟨z.1, Nat.zero_le _, rfl, z.2.symm⟩) ?_ ?_ ?_
  · intro ds g0 n d acc g1 hq hd ⟨f1, f2, f3, f4⟩
    subst f1
    subst f4
    obtain ⟨hn, rfl⟩ := rngD_get hd
    refine ⟨_, Isb q true, rfl, ⟨fun p o hp s H C cl fp => pts_yes, fun g2 hg2 p o hp s H C cl fp => ?_, fun g2 hg2 => by cases hg2.1⟩⟩
    obtain ⟨_, rfl⟩ := hg2
    refine ev_imp (ev_cmp (ev_var 2 rfl) (ev_var 0 rfl) opD_eqI) fun d' g' z => ⟨rfl, hn, ?_, z.2.symm⟩
    rw [f3, z.1, List.range_succ, List.map_append]
    have e : decide ((0 : Int) + ((n : Nat) : Int) = ((i : Nat) : Int)) = decide (n = i) := by
      simp only [decide_eq_decide]
      omega
    rw [e]
    rfl
  · intro ds g0 acc g1 hq ⟨f1, f2, f3, f4⟩
    subst f1
    rw [rngD_length] at f3
    exact ⟨by rw [f3]; rfl, f4.symm⟩
  · intro ds n acc g1 ⟨f1, f2, f3, f4⟩
    rw [f3, List.length_map, List.length_range, sizeLine_eq]
    omega
end
end WT
set_option Elab.async false
set_option linter.all false
set_option autoImplicit false
set_option maxRecDepth 100000
set_option maxHeartbeats 4000000
namespace WT
open PySem L2 PyProof.Rows
abbrev sSource : Stmt := top 21
abbrev sRaised : Stmt := top 32
abbrev sRaise : Stmt := top 33
theorem scSource : FnScope ["_law_script", "_law_stirred", "_law_cell"] ["_law_script"] (defScope sSource) := ⟨rfl, rfl, rfl, by decide +kernel, rfl, by decide +kernel, by decide +kernel⟩
theorem scRaised : FnScope ["_law_which", "_law_it", "_law_wide", "_law_found", "e"] ["_law_which", "_law_it", "_law_wide"] (defScope sRaised) := ⟨rfl, rfl, rfl, by decide +kernel, rfl, by decide +kernel, by decide +kernel⟩
theorem scRaise : FnScope ["_law_which", "_law_it"] ["_law_which", "_law_it"] (defScope sRaise) := ⟨rfl, rfl, rfl, by decide +kernel, rfl, by decide +kernel, by decide +kernel⟩
section
variable {G : Type} {S : Sys G} {P : Program} {w : World} {K : PySem.W.Frag} {mg : Str → Option Value} {base : Heap} {f : Addr} {fd : FuncData} {cA : Nat → Addr} {tA uA : Addr}
/-! ### an error that is raised -/
def raisesI (i : Nat) : Prop := i = 8 ∨ i = 11 ∨ i = 14 ∨ i = 15 ∨ i = 4 ∨ i = 7
def errFs (i : Nat) (d : D) : List (Str × D) := if i < 8 then [] else [(fldOf i, d)]
def preRaise : Ps G := fun ds _ => ∃ (i : Nat) (d : D), ds = [.int i, d] ∧ raisesI i
def postRaise : List D → G → Po G := fun _ _ _ _ => False
def outRaise (cA : Nat → Addr) : List D → G → Px G := fun ds g C fs g' => ∃ (i : Nat) (d : D), ds = [.int i, d] ∧ C = cA i ∧ fs = errFs i d ∧ g' = g
theorem ok_raise (T : Errs P K mg cA tA uA) (F : Fun K "_law_raise" "_law_raise" sRaise f fd) : FnG P w K mg base (CX P w) 1 f fd ["_law_which", "_law_it"] (spX K S 2 preRaise postRaise (outRaise cA)) := by
  refine fn_evX (k := 0) F scRaise fun cdv A outer s H E hr ds q hl hp tk _ => ?_
  obtain ⟨i, d, rfl, hi⟩ := hp
  refine sv_cons (N1 := fun r g' => r = [some (.int i), some d] ∧ q = g' ∧ i ≠ 8) (sv_ifd (et_cmp (ev_var 0 rfl) ev_int opD_eqI) (fun hk => sv_last (sv_raise T.e8 hr rfl (raises_own (T.sub 8 (by decide)) (T.ty 8 (by decide))) (tk _) (ev_var 1 rfl) ?_)) (fun hk => sv_nil ⟨rfl, rfl, ?_⟩)) fun r g' h => ?_
  · have e : i = 8 := by have := of_decide_eq_true hk; omega
    subst e
    exact ⟨8, d, rfl, rfl, rfl, rfl⟩
  · have := of_decide_eq_false hk
    omega
  obtain ⟨rfl, rfl, n8⟩ := h
  refine sv_cons (N1 := fun r g' => r = [some (.int i), some d] ∧ q = g' ∧ i ≠ 11) (sv_ifd (et_cmp (ev_var 0 rfl) ev_int opD_eqI) (fun hk => sv_last (sv_raise T.e11 hr rfl (raises_own (T.sub 11 (by decide)) (T.ty 11 (by decide))) (tk _) (ev_var 1 rfl) ?_)) (fun hk => sv_nil ⟨rfl, rfl, ?_⟩)) fun r g' h => ?_
  · have e : i = 11 := by have := of_decide_eq_true hk; omega
    subst e
    exact ⟨11, d, rfl, rfl, rfl, rfl⟩
  · have := of_decide_eq_false hk
    omega
  obtain ⟨rfl, rfl, n11⟩ := h
  refine sv_cons (N1 := fun r g' => r = [some (.int i), some d] ∧ q = g' ∧ i ≠ 14) (sv_ifd (et_cmp (ev_var 0 rfl) ev_int opD_eqI) (fun hk => sv_last (sv_raise T.e14 hr rfl (raises_own (T.sub 14 (by decide)) (T.ty 14 (by decide))) (tk _) (ev_var 1 rfl) ?_)) (fun hk => sv_nil ⟨rfl, rfl, ?_⟩)) fun r g' h => ?_
  · have e : i = 14 := by have := of_decide_eq_true hk; omega
    subst e
    exact ⟨14, d, rfl, rfl, rfl, rfl⟩
  · have := of_decide_eq_false hk
    omega
  obtain ⟨rfl, rfl, n14⟩ := h
  refine sv_cons (N1 := fun r g' => r = [some (.int i), some d] ∧ q = g' ∧ i ≠ 15) (sv_ifd (et_cmp (ev_var 0 rfl) ev_int opD_eqI) (fun hk => sv_last (sv_raise T.e15 hr rfl (raises_own (T.sub 15 (by decide)) (T.ty 15 (by decide))) (tk _) (ev_var 1 rfl) ?_)) (fun hk => sv_nil ⟨rfl, rfl, ?_⟩)) fun r g' h => ?_
  · have e : i = 15 := by have := of_decide_eq_true hk; omega
    subst e
    exact ⟨15, d, rfl, rfl, rfl, rfl⟩
  · have := of_decide_eq_false hk
    omega
  obtain ⟨rfl, rfl, n15⟩ := h
  refine sv_cons (N1 := fun r g' => r = [some (.int i), some d] ∧ q = g' ∧ i ≠ 4) (sv_ifd (et_cmp (ev_var 0 rfl) ev_int opD_eqI) (fun hk => sv_last (sv_raise0 T.e4 hr rfl (raises_own (T.sub 4 (by decide)) (T.ty 4 (by decide))) (tk _) ?_)) (fun hk => sv_nil ⟨rfl, rfl, ?_⟩)) fun r g' h => ?_
  · have e : i = 4 := by have := of_decide_eq_true hk; omega
    subst e
    exact ⟨4, d, rfl, rfl, rfl, rfl⟩
  · have := of_decide_eq_false hk
    omega
  obtain ⟨rfl, rfl, n4⟩ := h
  have e : i = 7 := by
    rcases hi with h | h | h | h | h | h <;> first | exact h | exact absurd h (by assumption)
  subst e
  exact sv_last (sv_raise0 T.e7 hr rfl (raises_own (T.sub 7 (by decide)) (T.ty 7 (by decide))) (tk _) ⟨7, d, rfl, rfl, rfl, rfl⟩)
/-! ### .. and caught -/
/-- what the handlers make of it -/
def foundOf (i : Nat) : Str := if i = 8 ∨ i = 14 then "own" else if i < 13 then "turn" else "unknown"
def preRaised (L n : Nat) : Ps G := fun ds _ => ∃ (i : Nat) (d : D) (x : Str), ds = [.int i, d, .str x] ∧ raisesI i ∧ Shows L n d ∧ (¬ (i = 8 ∨ i = 14) → x = foundOf i)
def postRaised : List D → G → Po G := fun _ g d g' => d = .bl true ∧ g' = g
theorem ok_raised {L n : Nat} (T : Errs P K mg cA tA uA) (B : Blt mg) (D3 : DefAt K mg "_law_raise" sRaise ["_law_which", "_law_it"]) (F : Fun K "_law_raised" "_law_raised" sRaised f fd) (hL : L ≤ 1000000) (hn : n ≤ 100) :
    FnG P w K mg base CX0 2 f fd ["_law_which", "_law_it", "_law_wide"] (spD K S 3 (preRaised L n) postRaised) := by
  refine fn_ev (k := 1) F scRaised fun cdv A outer s H E hr ds q hl hp => ?_
  obtain ⟨i, d, x, rfl, hi, hd, hx⟩ := hp
  obtain ⟨pd, pd1, pd2, pd3, pd4⟩ := hd.ex
  obtain ⟨fR, fdR, FR, AR⟩ := D3
  have i17 : i < 17 := by rcases hi with h | h | h | h | h | h <;> omega
  refine sv_cons (N1 := fun r g' => r = [some (.int i), some d, some (.str x), some (.str "none"), none] ∧ q = g') (sv_set 3 ev_str ⟨rfl, rfl⟩ scRaised.nd) fun r g' h => ?_
  obtain ⟨rfl, rfl⟩ := h
  refine sv_cons (N1 := fun r g' => r = [some (.int i), some d, some (.str x), some (.str (foundOf i)), none] ∧ q = g') (sv_try (PX := fun C fs g' => C = cA i ∧ fs = errFs i d ∧ g' = q) (ρ1 := [some (.int i), some d, some (.str x), some (.str "none"), none]) rfl rfl scRaised.nd (fun H0 pn xe tk pw => ?_) ?_) fun r g' h => ?_
  · refine sv_last (sv_expr (P := fun _ _ => False) (ev_callX AR (ok_raise T FR).sinceX (hr.mono (Nat.le_refl 1)) tk (ea_cons (ev_var 0 rfl) (ea_cons (ev_var 1 rfl) ea_nil)) fun ds g1 z => ?_) (fun d g' z => z.elim))
    obtain ⟨rfl, rfl⟩ := z
    exact ⟨rfl, ⟨i, d, rfl, hi⟩, fun _ _ z => z.elim, fun C fs g' ⟨i', d', e, h1, h2, h3⟩ => by
      simp only [List.cons.injEq, D.int.injEq, and_true] at e
      obtain ⟨e1, e2⟩ := e
      obtain rfl : i = i' := by omega
      subst e2
      exact ⟨h1, h2, h3⟩⟩
  · have okR : ∀ (a : Addr) (pn : List (Addr × Obj)), ReprOk ((CxN P w K mg base ["_law_which", "_law_it", "_law_wide", "_law_found", "e"] "_law_raised" sRaised f cdv A outer s H E).suite a pn) pd := fun a pn => ⟨pd2, by rw [sizeLine_eq]; omega, by
      have := hr.room.un
      show (A.deeper (envOfC "_law_raised" (defScope sRaised) s.heap.objs.size f cdv)).units + (pd.depth + 1) < cLine
      omega⟩
    have it : ∀ {a : Addr} {pn : List (Addr × Obj)} {ρ : En} {p1 p2 p3 : Pos}, ρ[1]? = some (some d) → EVd ((CxN P w K mg base ["_law_which", "_law_it", "_law_wide", "_law_found", "e"] "_law_raised" sRaised f cdv A outer s H E).suite a pn) S q ρ (.Call (.Name "repr" p1) [.Name "_law_it" p2] [] p3) (.str pd.shown) := fun {a pn ρ p1 p2 p3} h =>
      ev_callB (ea_cons (ev_var 1 h) ea_nil) (callD_repr hr.gd pd1 (okR a pn)) B.repr (by decide +kernel)
    refine HdD.as (x := "InvalidChange") (c := .ref (cA 8)) (i := 4) (PY := fun C fs g' => C = cA i ∧ fs = errFs i d ∧ g' = q ∧ i ≠ 8) ⟨rfl, by decide, .inl T.e8.mg⟩ rfl rfl (fun C fs g' p => ?_) (HdD.as (x := "UnknownRow") (c := .ref (cA 14)) (i := 4) (PY := fun C fs g' => C = cA i ∧ fs = errFs i d ∧ g' = q ∧ i ≠ 8 ∧ i ≠ 14) ⟨rfl, by decide, .inl T.e14.mg⟩ rfl rfl (fun C fs g' p => ?_)
      (HdD.cons (x := "TurnError") (c := .ref tA) (PY := fun C fs g' => C = cA i ∧ fs = errFs i d ∧ g' = q ∧ i ≠ 8 ∧ i ≠ 14 ∧ ¬ i < 13) ⟨rfl, by decide, .inl T.gT⟩ (fun C fs g' p => ?_) (HdD.cons (x := "Unknown") (c := .ref uA) (PY := fun _ _ _ => False) ⟨rfl, by decide, .inl T.gU⟩ (fun C fs g' p => ?_) (HdD.nil fun _ _ _ z => z))))
    · obtain ⟨rfl, rfl, rfl⟩ := p
      by_cases h : i = 8
      · subst h
        refine .inl ⟨T.ex8 8 (by decide), fun a dx oe pn hz hf hdx => ?_⟩
        cases dx with
        | none => exact absurd rfl (hdx (fun z => nomatch z))
        | some dd =>
          refine sv_last (sv_set 3 (ev_eq (ev_ifd (et_bool (ew_andd (et_cmp (ev_var 0 rfl) ev_int opD_eqI) (fun _ => ew_and1 (et_cmp (ev_callB (ea_cons (ev_exnGet (T.ask 8 (by decide)) (T.no 8 (by decide) (by decide)) hz hf (ev_var 4 rfl)) ea_nil) (callD_repr hr.gd pd1 (okR _ _)) B.repr (by decide +kernel)) (it rfl) opD_eqS)))) (fun _ => ev_str) (fun _ => ev_str)) (d1 := .str "own") ?_) ⟨rfl, rfl⟩ scRaised.nd)
          simp
      · exact .inr ⟨(T.ex8 i i17).trans (by rw [decide_eq_false h]), rfl, rfl, rfl, h⟩
    · obtain ⟨rfl, rfl, rfl, n8⟩ := p
      by_cases h : i = 14
      · subst h
        refine .inl ⟨T.ex14 14 (by decide), fun a dx oe pn hz hf hdx => ?_⟩
        cases dx with
        | none => exact absurd rfl (hdx (fun z => nomatch z))
        | some dd =>
          refine sv_last (sv_set 3 (ev_eq (ev_ifd (et_bool (ew_andd (et_cmp (ev_var 0 rfl) ev_int opD_eqI) (fun _ => ew_and1 (et_cmp (ev_callB (ea_cons (ev_exnGet (T.ask 14 (by decide)) (T.no 14 (by decide) (by decide)) hz hf (ev_var 4 rfl)) ea_nil) (callD_repr hr.gd pd1 (okR _ _)) B.repr (by decide +kernel)) (it rfl) opD_eqS)))) (fun _ => ev_str) (fun _ => ev_str)) (d1 := .str "own") ?_) ⟨rfl, rfl⟩ scRaised.nd)
          simp
      · exact .inr ⟨(T.ex14 i i17).trans (by rw [decide_eq_false h]), rfl, rfl, rfl, n8, h⟩
    · obtain ⟨rfl, rfl, rfl, n8, n14⟩ := p
      by_cases h : i < 13
      · refine .inl ⟨(T.exT i i17).trans (by rw [decide_eq_true h]), fun a dx oe pn hz hf => sv_last (sv_set 3 ev_str ⟨?_, rfl⟩ scRaised.nd)⟩
        unfold foundOf
        rw [if_neg (by omega), if_pos h]
        rfl
      · exact .inr ⟨(T.exT i i17).trans (by rw [decide_eq_false h]), rfl, rfl, rfl, n8, n14, h⟩
    · obtain ⟨rfl, rfl, rfl, n8, n14, h⟩ := p
      refine .inl ⟨(T.exU i i17).trans (by rw [decide_eq_false h]; rfl), fun a dx oe pn hz hf => sv_last (sv_set 3 ev_str ⟨?_, rfl⟩ scRaised.nd)⟩
      unfold foundOf
      rw [if_neg (by omega), if_neg h]
      rfl
  · obtain ⟨rfl, rfl⟩ := h
    refine sv_last (sv_retd (ev_eq (ev_cmp (ev_var 3 rfl) (ev_eq (ev_ifd (et_cmp (ev_var 0 rfl) (ev_tup (ea_cons ev_int (ea_cons ev_int ea_nil)) (by rw [sizeLine_eq]; show 2 ≤ 16777216; decide)) (opD_inI (ns := [8, 14])) rfl) (fun _ => ev_str) (fun _ => ev_var 2 rfl)) (d1 := .str (foundOf i)) ?_) opD_eqS) (d1 := .bl true) ?_) ⟨rfl, rfl⟩)
    · by_cases h : i = 8 ∨ i = 14
      · have e : ([8, 14] : List Int).any (fun j => decide (j = (i : Int))) = true := by rcases h with rfl | rfl <;> rfl
        rw [e]
        unfold foundOf
        rw [if_pos h]
        rfl
      · have e : ([8, 14] : List Int).any (fun j => decide (j = (i : Int))) = false := by
          simp only [List.any_cons, List.any_nil, Bool.or_false, Bool.or_eq_false_iff, decide_eq_false_iff_not]
          omega
        rw [e, hx h]
        rfl
    · simp
/-! ### the source -/
def preSource : Ps G := fun ds _ => ∃ ns : List Int, ds = [.fz (ns.map D.int)]
def postSource : List D → G → Po G := fun ds g d g' => ∃ (ns : List Int) (st : Int), ds = [.fz (ns.map D.int)] ∧ d = .lst [.lst ((ns.take 60).map D.int), .int st, .int 0] ∧ g' = g
theorem ok_source (B : Blt mg) (F : Fun K "_law_source" "_law_source" sSource f fd) : FnG P w K mg base CX0 1 f fd ["_law_script"] (spD K S 1 preSource postSource) := by
  refine fn_ev (k := 0) F scSource fun cdv A outer s H E hr ds q hl hp => ?_
  obtain ⟨ns, rfl⟩ := hp
  have cut : ∀ {ρ : En} {p1 p2 p3 p4 : Pos}, ρ[0]? = some (some (.fz (ns.map D.int))) → EVd (CxN P w K mg base ["_law_script", "_law_stirred", "_law_cell"] "_law_source" sSource f cdv A outer s H E) S q ρ (.Subscript (.Name "_law_script" p1) (.Slice none (some (.Constant (.int 60) 0 p2)) none p3) p4) (.lst ((ns.take 60).map D.int)) := fun {ρ p1 p2 p3 p4} h =>
    ev_eq (ev_cutL (n := 60) (ev_imp (ev_var 0 h) fun d g' z => ⟨.inl z.1, z.2⟩) ev_int) (by rw [List.map_take])
  refine sv_cons (N1 := fun r g' => ∃ z, r = [some (.fz (ns.map D.int)), some (.int (z % 2147483629)), none] ∧ q = g') (sv_set 1 ev_int ⟨90101, rfl, rfl⟩ scSource.nd) fun r g' h => ?_
  obtain ⟨z, rfl, rfl⟩ := h
  refine sv_cons (N1 := fun r g' => ∃ (z : Int) (y : Option D), r = [some (.fz (ns.map D.int)), some (.int (z % 2147483629)), y] ∧ q = g') (sv_for (gt := gName 2) (f := fN 2) (vs := [2]) (Q' := Iss q ((ns.take 60).map D.int)) (fun _ _ r g' => ∃ (z : Int) (y : Option D), r = [some (.fz (ns.map D.int)), some (.int (z % 2147483629)), y] ∧ q = g') PassesOwn.never rfl (id_list (cut rfl)) (pg_name scSource.nd rfl (Or.inl rfl)) (tg_name 2)
    (fun ds g1 h => ⟨z, none, rfl, h.2.symm⟩) (fun ds g0 i d r1 g1 h1 h2 h3 => ?_) (fun ds g0 r1 g1 h1 h2 => h2)) fun r g' h => ?_
  · obtain ⟨rfl, rfl⟩ := h1
    obtain ⟨y, u, rfl, rfl⟩ := h3
    rw [List.getElem?_map] at h2
    cases e : (ns.take 60)[i]? with
    | none =>
      rw [e] at h2
      cases h2
    | some m =>
      rw [e] at h2
      cases h2
      have b1 := Int.emod_nonneg y (show (2147483629 : Int) ≠ 0 by decide)
      have b2 := Int.emod_lt_of_pos y (show (0 : Int) < 2147483629 by decide)
      exact ⟨_, rfl, sv_last (sv_set 1 (ev_op (ev_op (ev_op (ev_op (ev_var 1 rfl) ev_int (opD_mul (mul_small b1 (by omega)))) (ev_op (ev_var 2 rfl) ev_int (opD_mod (by decide))) opD_add) ev_int opD_add) ev_int (opD_mod (by decide))) ⟨_, _, rfl, rfl⟩ scSource.nd)⟩
  · obtain ⟨z, y, rfl, rfl⟩ := h
    exact sv_last (sv_retd (ev_lst (ea_cons (ev_callTy (ea_cons (cut rfl) ea_nil) callD_listL B.list (by decide +kernel)) (ea_cons (ev_var 1 rfl) (ea_cons ev_int ea_nil))) (by rw [sizeLine_eq]; show 3 ≤ 16777216; decide)) ⟨ns, _, rfl, rfl, rfl⟩)
end
end WT
set_option Elab.async false
set_option linter.all false
set_option autoImplicit false
set_option maxRecDepth 100000
set_option maxHeartbeats 4000000
namespace WT
open PySem L2 PyProof.Rows
abbrev sLaw : Stmt := top 34
abbrev nLaw : List Str := ["_law_script", "_law_source_here", "_law_which", "_law_turn", "_law_it", "_law_kept", "_law_error", "_law_wide"]
theorem scLaw : FnScope nLaw ["_law_script"] (defScope sLaw) := ⟨rfl, rfl, rfl, by decide +kernel, rfl, by decide +kernel, by decide +kernel⟩
structure Tx (P : Program) (K : PySem.W.Frag) (mg : Str → Option Value) (cA : Nat → Addr) (tA uA : Addr) : Prop where
  er : Errs P K mg cA tA uA
  bl : Blt mg
  draw : DefAt K mg "_law_draw" sDraw ["_law_source_here", "_law_many"]
  pick : DefAt K mg "_law_pick" sPick ["_law_source_here", "_law_items"]
  plain : DefAt K mg "_law_plain" sPlain ["_law_source_here"]
  value : DefAt K mg "_law_value" sValue ["_law_source_here", "_law_deep"]
  bare : DefAt K mg "_law_bare" sBare ["_law_which"]
  made : DefAt K mg "_law_made" sMade ["_law_which", "_law_it"]
  byName : DefAt K mg "_law_made_by_name" sByName ["_law_which", "_law_it"]
  held : DefAt K mg "_law_held" sHeld ["_law_which", "_law_error"]
  marks : DefAt K mg "_law_marks" sMarks ["_law_error"]
  due : DefAt K mg "_law_due" sDue ["_law_which"]
  raised : DefAt K mg "_law_raised" sRaised ["_law_which", "_law_it", "_law_wide"]
  raise : DefAt K mg "_law_raise" sRaise ["_law_which", "_law_it"]
  source : DefAt K mg "_law_source" sSource ["_law_script"]
/-- from the data to the source that changes -/
theorem svs_enter {X : Cx} {st : Stmt} {rest : List Stmt} {ρ : En} {n : Nat} (h1 : SV X Zs () ρ st { nx := fun r _ => ∃ (ns : List Int) (z : Int), ns.length ≤ 60 ∧ r = ρ.set 1 (some (.lst [.lst (ns.map D.int), .int z, .int 0])), rt := fun _ _ => False }) (hl : ρ.length = n + 2)
    (h2 : ∀ a c z ns, ns.length ≤ 60 → SVs X (Src a c) ⟨ns, z, 0⟩ (none :: some (.ref a) :: List.replicate n none) rest { nx := fun _ _ => False, rt := fun d _ => d = .bl true }) :
    PSs X (st :: rest) (fun E σ H => Rep X.K Zs H σ ρ ∧ ∀ H', E.rt (.bl true) H') := by
  refine PSs.of (pss_cons h1 (PSs.any (p := fun i : Addr × Addr × Int × List Int => i.2.2.2.length ≤ 60) fun i hi => h2 i.1 i.2.1 i.2.2.1 i.2.2.2 hi)) fun E σ H ⟨r, e⟩ => ⟨r, trivial, ⟨fun σ' H' r' g' p e' j' t' => ?_, fun _ _ _ _ z => z.elim, fun _ _ _ _ z => z.elim, fun _ _ _ _ z => z.elim⟩⟩
  obtain ⟨ns, z, hn, rfl⟩ := p
  obtain ⟨v, hv, dv⟩ := t'.2 1 _ (List.getElem?_set_self (by omega))
  cases dv with
  | @lst a xs _ ha na lx =>
    cases lx with
    | cons d1 lx =>
      cases lx with
      | cons d2 lx =>
        cases lx with
        | cons d3 lx =>
          cases lx
          cases d2
          cases d3
          cases d1 with
          | @lst c ys _ hc nc ly =>
            obtain rfl := DtL.ints ly
            have ne : a ≠ c := fun z => by
              rw [z, hc] at ha
              cases ns with
              | nil => cases ha
              | cons m ms => cases ha
            refine ⟨(a, c, z, ns), hn, ⟨?_, fun i d hd => ?_⟩, ⟨ne, ha, hc⟩, ⟨fun _ _ _ _ z => z.elim, fun v H2 d g2 hd _ _ t2 => ?_, fun _ _ _ _ z => z.elim, fun _ _ _ _ z => z.elim⟩⟩
            · rw [t'.1, List.length_set, hl]
              simp
            · match i with
              | 0 => cases hd
              | 1 =>
                cases hd
                exact ⟨.ref a, hv, .ref a⟩
              | i + 2 =>
                rw [List.getElem?_cons_succ, List.getElem?_cons_succ, List.getElem?_replicate] at hd
                split at hd <;> cases hd
            · subst hd
              cases t2
              exact e H2
/-- two marks are alike -/
theorem pdL_bools : ∀ bs : List Bool, D.pdL (bs.map D.bl) = some (bs.map PyData.bool)
  | [] => by simp [D.pdL]
  | b :: bs => by
    rw [List.map_cons, D.pdL, pdL_bools bs]
    simp [D.pd]
theorem canLay_bools : ∀ bs : List Bool, PyData.canLayAll0 (bs.map PyData.bool) = true
  | [] => by simp [PyData.canLayAll0]
  | n :: ns => by simp [PyData.canLayAll0, PyData.canLay0, canLay_bools ns]
theorem depth_bools : ∀ bs : List Bool, PyData.depthAll (bs.map PyData.bool) = 0
  | [] => by simp [PyData.depthAll]
  | n :: ns => by simp [PyData.depthAll, PyData.depth, depth_bools ns]
def markP (i : Nat) : PyData := .tuple [.list (((List.range 17).map fun j => decide (j = i)).map PyData.bool), .list ([decide (i < 13), decide (i < 13)].map PyData.bool), .list ([!decide (i < 13), !decide (i < 13)].map PyData.bool)]
theorem mark_pd (i : Nat) : D.pd (markD i) = some (markP i) := by
  have e : marksD i = ((List.range 17).map fun j => decide (j = i)).map D.bl := by rw [List.map_map]; rfl
  have e1 : D.pd (.lst (marksD i)) = some (.list (((List.range 17).map fun j => decide (j = i)).map PyData.bool)) := by rw [e, D.pd, pdL_bools]; rfl
  have e2 : ∀ b : Bool, D.pd (.lst [.bl b, .bl b]) = some (.list ([b, b].map PyData.bool)) := fun b => by
    have h := pdL_bools [b, b]
    rw [D.pd, show ([.bl b, .bl b] : List D) = [b, b].map D.bl from rfl, h]
    rfl
  unfold markD markP
  rw [D.pd, D.pdL, e1, D.pdL, e2, D.pdL, e2, D.pdL]
  rfl
theorem mark_lay (i : Nat) : (markP i).canLay0 = true := by
  unfold markP
  simp only [PyData.canLay0, PyData.canLayAll0, canLay_bools, Bool.and_self]
theorem mark_cmp (i : Nat) : cmpOk (markD i) ∧ eqD (markD i) (markD i) = true := by
  refine ⟨⟨markP i, mark_pd i, ?_⟩, ?_⟩
  · unfold SeqAt.shaped
    rw [mark_lay]
    unfold markP
    simp only [PyData.depth, PyData.depthAll, depth_bools]
    decide
  · unfold eqD
    rw [mark_pd]
    exact SeqAt.eqv_refl _ (mark_lay i)
section
variable {P : Program} {w : World} {K : PySem.W.Frag} {mg : Str → Option Value} {base : Heap} {f : Addr} {fd : FuncData} {cA : Nat → Addr} {tA uA : Addr}
def spLaw (K : PySem.W.Frag) : Sp := fun vs H Q _ => ∃ (a : Addr) (ns : List Int), vs = [.ref a] ∧ SqL K H a (ns.map V.int) ∧ ∀ H', Q (.bl true) H'
section
variable {X : Cx} {T : Sys Dr} {q : Dr} {ρ : En} {e e1 e2 : Expr} {d : D} {p pos : Pos} {k i : Nat}
theorem Errs.inj (E : Errs P K mg cA tA uA) {i j : Nat} (hi : i < 17) (hj : j < 17) (h : cA j = cA i) : j = i := by
  have h1 := E.isi i j hi hj
  have h2 := E.isi i i hi hi
  rw [h, h2] at h1
  have h3 := Option.some.inj h1
  rw [decide_eq_true rfl] at h3
  exact of_decide_eq_true h3.symm
theorem isErr_inj {C C' : Addr} (h : IsErr C d) (h' : IsErr C' d) : C = C' := by
  rcases h with rfl | ⟨fs, rfl⟩ <;> rcases h' with h | ⟨fs', h⟩ <;> cases h <;> rfl
/-- marks(e) -/
theorem ev_marks (E : Tx X.prog X.K X.mg cA tA uA) (hr : RG k X.A) (hk : 1 ≤ k) (h : EVd X T q ρ e d) (hd : IsErr (cA i) d) (hi : i < 17) (hg : Gl X "_law_marks" := by rfl) (he : starEach [e] X.env = (false, eval e X.env) :: starEach [] X.env := by rfl) : EVd X T q ρ (.Call (.Name "_law_marks" p) [e] [] pos) (markD i) := by
  obtain ⟨f, fd, F, A⟩ := E.marks
  exact ev_call A ((ok_marks E.er E.bl F).mono hk) hr (ea_cons h ea_nil he) rfl ⟨i, d, rfl, hi, hd⟩ (fun d' g' ⟨j, b, e1, h1, h2, h3, h4⟩ => by
    cases e1
    obtain rfl := E.er.inj hi h1 (isErr_inj h2 hd)
    exact ⟨h3, h4⟩) hg (by decide) he rfl
theorem nat_of {i j : Nat} (h : D.int (i : Int) = D.int (j : Int)) : i = j := by
  have := D.int.inj h
  omega
/-- due(e) -/
theorem ev_due (E : Tx X.prog X.K X.mg cA tA uA) (hr : RG k X.A) (hk : 1 ≤ k) (h : EVd X T q ρ e (.int i)) (hi : i < 17) (hg : Gl X "_law_due" := by rfl) (he : starEach [e] X.env = (false, eval e X.env) :: starEach [] X.env := by rfl) : EVd X T q ρ (.Call (.Name "_law_due" p) [e] [] pos) (markD i) := by
  obtain ⟨f, fd, F, A⟩ := E.due
  exact ev_call A ((ok_due E.bl F).mono hk) hr (ea_cons h ea_nil he) rfl ⟨i, rfl, hi⟩ (fun d' g' ⟨j, e1, h1, h2⟩ => by
    obtain rfl := nat_of (List.cons.inj e1).1
    exact ⟨h1, h2⟩) hg (by decide) he rfl
theorem ev_bare (E : Tx X.prog X.K X.mg cA tA uA) (hr : RG k X.A) (hk : 1 ≤ k) (h : EVd X T q ρ e (.int i)) (hi : i < 8) (hg : Gl X "_law_bare" := by rfl) (he : starEach [e] X.env = (false, eval e X.env) :: starEach [] X.env := by rfl) : EVd X T q ρ (.Call (.Name "_law_bare" p) [e] [] pos) (.err0 (cA i)) := by
  obtain ⟨f, fd, F, A⟩ := E.bare
  exact ev_call A ((ok_bare E.er F).mono hk) hr (ea_cons h ea_nil he) rfl ⟨i, rfl, hi⟩ (fun d' g' ⟨j, e1, h1, h2⟩ => by
    obtain rfl := nat_of (List.cons.inj e1).1
    exact ⟨h1, h2⟩) hg (by decide) he rfl
theorem ev_made (E : Tx X.prog X.K X.mg cA tA uA) (hr : RG k X.A) (hk : 1 ≤ k) (h1 : EVd X T q ρ e1 (.int i)) (h2 : EVd X T q ρ e2 d) (h8 : 8 ≤ i) (hi : i < 17) (hg : Gl X "_law_made" := by rfl) (he : starEach [e1, e2] X.env = (false, eval e1 X.env) :: starEach [e2] X.env := by rfl) (he2 : starEach [e2] X.env = (false, eval e2 X.env) :: starEach [] X.env := by rfl)
    (hpl : (backTo pos (starEach [e2] X.env)).any (·.1) = false := by rfl) : EVd X T q ρ (.Call (.Name "_law_made" p) [e1, e2] [] pos) (.err (cA i) [(fldOf i, d)]) := by
  obtain ⟨f, fd, F, A⟩ := E.made
  exact ev_call A ((ok_made E.er F).mono hk) hr (ea_cons h1 (ea_cons h2 ea_nil he2) he) rfl ⟨i, d, rfl, h8, hi⟩ (fun d' g' ⟨j, v, e1, h1, h2⟩ => by
    obtain rfl := nat_of (List.cons.inj e1).1
    cases (List.cons.inj (List.cons.inj e1).2).1
    exact ⟨h1, h2⟩) hg (by decide) he hpl
theorem ev_byName (E : Tx X.prog X.K X.mg cA tA uA) (hr : RG k X.A) (hk : 1 ≤ k) (h1 : EVd X T q ρ e1 (.int i)) (h2 : EVd X T q ρ e2 d) (h8 : 8 ≤ i) (hi : i < 17) (hg : Gl X "_law_made_by_name" := by rfl) (he : starEach [e1, e2] X.env = (false, eval e1 X.env) :: starEach [e2] X.env := by rfl) (he2 : starEach [e2] X.env = (false, eval e2 X.env) :: starEach [] X.env := by rfl)
    (hpl : (backTo pos (starEach [e2] X.env)).any (·.1) = false := by rfl) : EVd X T q ρ (.Call (.Name "_law_made_by_name" p) [e1, e2] [] pos) (.err (cA i) [(fldOf i, d)]) := by
  obtain ⟨f, fd, F, A⟩ := E.byName
  exact ev_call A ((ok_made_by_name E.er F).mono hk) hr (ea_cons h1 (ea_cons h2 ea_nil he2) he) rfl ⟨i, d, rfl, h8, hi⟩ (fun d' g' ⟨j, v, e1, h1, h2⟩ => by
    obtain rfl := nat_of (List.cons.inj e1).1
    cases (List.cons.inj (List.cons.inj e1).2).1
    exact ⟨h1, h2⟩) hg (by decide) he hpl
theorem ev_held (E : Tx X.prog X.K X.mg cA tA uA) (hr : RG k X.A) (hk : 1 ≤ k) (h1 : EVd X T q ρ e1 (.int i)) (h2 : EVd X T q ρ e2 (.err (cA i) [(fldOf i, d)])) (h8 : 8 ≤ i) (hi : i < 17) (hg : Gl X "_law_held" := by rfl) (he : starEach [e1, e2] X.env = (false, eval e1 X.env) :: starEach [e2] X.env := by rfl) (he2 : starEach [e2] X.env = (false, eval e2 X.env) :: starEach [] X.env := by rfl)
    (hpl : (backTo pos (starEach [e2] X.env)).any (·.1) = false := by rfl) : EVd X T q ρ (.Call (.Name "_law_held" p) [e1, e2] [] pos) d := by
  obtain ⟨f, fd, F, A⟩ := E.held
  exact ev_call A ((ok_held E.er F).mono hk) hr (ea_cons h1 (ea_cons h2 ea_nil he2) he) rfl ⟨i, d, rfl, h8, hi⟩ (fun d' g' ⟨b, C, x, e1, h2⟩ => by
    cases e1
    exact ⟨rfl, h2⟩) hg (by decide) he hpl
end
theorem ok_law (E : Tx P K mg cA tA uA) (F : Fun K "law" "law" sLaw f fd) : FnG P w K mg base CX0 8 f fd ["_law_script"] (spLaw K) := by
  refine fnG_of (k := 7) F scLaw (fun vs H Q E h => ?_) fun cdv A outer s H vs Q E' hr h => ?_
  · obtain ⟨a, ns, rfl, _⟩ := h
    rfl
  obtain ⟨a, ns, rfl, hq, hQ⟩ := h
  obtain ⟨fS, fdS, FS, AS⟩ := E.source
  obtain ⟨fV, fdV, FV, AV⟩ := E.value
  obtain ⟨fR, fdR, FR, AR⟩ := E.raised
  have hu : (CxN P w K mg base nLaw "law" sLaw f cdv A outer s H E').A.units + 64 < cLine := by
    have := hr.room.un
    show (A.deeper (envOfC "law" (defScope sLaw) s.heap.objs.size f cdv)).units + 64 < cLine
    omega
  refine ⟨_, PSs.nox (svs_enter (n := 6) (ρ := startE nLaw [.fz (ns.map D.int)]) (sv_set2 1 (P := fun d _ => ∃ z : Int, d = .lst [.lst ((ns.take 60).map D.int), .int z, .int 0]) (ev_call AS ((ok_source E.bl FS).mono (by decide)) hr (ea_cons (ev_var 0 rfl) ea_nil) rfl ⟨ns, rfl⟩ (fun d g' ⟨ns', z, e, h1, h2⟩ => ⟨z, ?_⟩)) (fun d g' ⟨z, hd⟩ => ⟨ns.take 60, z, ?_, by rw [hd]⟩) scLaw.nd) rfl fun sa sc z ms hms => ?_), ?_, fun H' => hQ H'⟩
  · have h3 : ns.map D.int = ns'.map D.int := by
      simp only [List.cons.injEq, D.fz.injEq, and_true] at e
      exact e
    rw [h1, List.map_take, ← h3, ← List.map_take]
  · rw [List.length_take]
    omega
  · have ok0 : DOk (12 * vB 3) ⟨ms, z, 0⟩ := ⟨hms, Int.le_refl _, by show (0 : Int) + ((12 * vB 3 : Nat) : Int) < 2 ^ 40; decide⟩
    generalize hq0 : (⟨ms, z, 0⟩ : Dr) = q at ok0 ⊢
    clear hq0
    have ne : ∀ i : Nat, (!eqD (markD i) (markD i)) = false := fun i => by rw [(mark_cmp i).2]; rfl
    -- the errors without a parameter
    refine sv_cons (N1 := fun r g => ∃ y : Option D, r = [none, some (.ref sa), y, none, none, none, none, none] ∧ q = g) (sv_for (gt := gName 2) (f := fN 2) (vs := [2]) (Q' := Iss q (rngD 0 8)) (fun _ _ r g => ∃ y : Option D, r = [none, some (.ref sa), y, none, none, none, none, none] ∧ q = g) PassesOwn.never rfl (id_range ev_int (by decide) (by decide) E.bl.range) (pg_name scLaw.nd rfl (Or.inl rfl)) (tg_name 2)
      (fun ds g1 h => ⟨none, rfl, h.2.symm⟩) (fun ds g0 i d r1 g1 h1 h2 h3 => ?_) (fun ds g0 r1 g1 h1 h2 => h2)) fun r g h => ?_
    · obtain ⟨rfl, _⟩ := h1
      obtain ⟨y, rfl, rfl⟩ := h3
      obtain ⟨hi, rfl⟩ := rngD_get h2
      have e0 : (0 : Int) + ((i : Nat) : Int) = (i : Nat) := by omega
      rw [e0]
      refine ⟨_, rfl, sv_last (sv_ifd (et_cmp (ev_marks (i := i) E hr (by decide) (ev_bare (i := i) E hr (by decide) (ev_var 2 rfl) hi) (.inl rfl) (by omega)) (ev_due (i := i) E hr (by decide) (ev_var 2 rfl) (by omega)) (opD_ne hu (mark_cmp i).1 (mark_cmp i).1)) (fun hk => ?_) (fun _ => sv_nil ⟨_, rfl, rfl⟩))⟩
      rw [ne] at hk
      cases hk
    obtain ⟨y, rfl, rfl⟩ := h
    -- the turns
    refine sv_cons (N1 := fun r g => True) (sv_for (gt := gName 3) (f := fN 3) (vs := [3]) (Q' := Iss q (rngD 0 12)) (fun ds n r g => n ≤ 12 ∧ DOk ((12 - n) * vB 3) g ∧ ∃ y2 y3 y4 y5 y6 y7 : Option D, r = [none, some (.ref sa), y2, y3, y4, y5, y6, y7]) PassesOwn.never rfl (id_range ev_int (by decide) (by decide) E.bl.range) (pg_name scLaw.nd rfl (Or.inl rfl)) (tg_name 3)
      (fun ds g1 h => ⟨Nat.zero_le _, h.2 ▸ ok0, _, _, _, _, _, _, rfl⟩) (fun ds g0 n d r1 g1 h1 h2 h3 => ?_) (fun ds g0 r1 g1 h1 h2 => trivial)) fun r g h => sv_last (sv_retd ev_bl rfl)
    obtain ⟨rfl, _⟩ := h1
    obtain ⟨hn, okn, y2, y3, y4, y5, y6, y7, rfl⟩ := h3
    obtain ⟨hn2, rfl⟩ := rngD_get h2
    have eN : (12 - n) * vB 3 = vB 3 + (12 - (n + 1)) * vB 3 := by
      have : 12 - n = (12 - (n + 1)) + 1 := by omega
      rw [this, Nat.succ_mul]
      omega
    rw [eN] at okn
    refine ⟨_, rfl, ?_⟩
    refine sv_cons (N1 := fun r g => ∃ d, r = [none, some (.ref sa), y2, some (.int (0 + (n : Nat))), some d, y5, y6, y7] ∧ Shows (vL 3) 7 d ∧ DOk ((12 - (n + 1)) * vB 3) g) (sv_set2 4 (P := fun d g' => Shows (vL 3) 7 d ∧ Nx (vB 3) g1 g') (ev_call AV (ok_value E.bl E.draw E.pick E.plain FV AV 3 (Src sa sc) (Sys.Sub.refl _)) hr (ea_cons (ev_var 1 rfl) (ea_cons ev_int ea_nil)) rfl ⟨rfl, okn.mono (by omega)⟩ (fun d g' z => z)) (fun d g' ⟨z1, z2⟩ => ⟨d, rfl, z1, okn.next z2⟩) scLaw.nd) fun r g h => ?_
    obtain ⟨d, rfl, hd, okm⟩ := h
    obtain ⟨pd, pd1, pd2, pd3, pd4⟩ := hd.ex
    have okR : ReprOk (CxN P w K mg base nLaw "law" sLaw f cdv A outer s H E') pd := ⟨pd2, Nat.le_trans pd3 (by rw [sizeLine_eq]; decide), by
      have := hr.room.un
      show (A.deeper (envOfC "law" (defScope sLaw) s.heap.objs.size f cdv)).units + (pd.depth + 1) < cLine
      omega⟩
    have it : ∀ {ρ : En} {p1 p2 p3 : Pos}, ρ[4]? = some (some d) → EVd (CxN P w K mg base nLaw "law" sLaw f cdv A outer s H E') (Src sa sc) g ρ (.Call (.Name "repr" p1) [.Name "_law_it" p2] [] p3) (.str pd.shown) := fun {ρ p1 p2 p3} h => ev_callB (ea_cons (ev_var 4 h) ea_nil) (callD_repr hr.gd pd1 okR) E.bl.repr (by decide +kernel)
    refine sv_cons (N1 := fun r g' => r = [none, some (.ref sa), y2, some (.int (0 + (n : Nat))), some d, some (.str pd.shown), y6, y7] ∧ g = g') (sv_set 5 (it rfl) ⟨rfl, rfl⟩ scLaw.nd) fun r g' h => ?_
    obtain ⟨rfl, rfl⟩ := h
    -- the errors with a parameter
    refine sv_cons (N1 := fun r g' => ∃ y2 y6 : Option D, r = [none, some (.ref sa), y2, some (.int (0 + (n : Nat))), some d, some (.str pd.shown), y6, y7] ∧ g = g') (sv_for (gt := gName 2) (f := fN 2) (vs := [2]) (Q' := Iss g (rngD 8 9)) (fun _ _ r g' => ∃ y2 y6 : Option D, r = [none, some (.ref sa), y2, some (.int (0 + (n : Nat))), some d, some (.str pd.shown), y6, y7] ∧ g = g') PassesOwn.never rfl (id_rangeAB (m := 8) (n := 17) ev_int ev_int (by decide) (by decide) (by decide) (by decide) E.bl.range) (pg_name scLaw.nd rfl (Or.inl rfl)) (tg_name 2)
      (fun ds g1 h => ⟨_, _, rfl, h.2.symm⟩) (fun ds g0 i' dd r1 g1 h1 h2 h3 => ?_) (fun ds g0 r1 g1 h1 h2 => h2)) fun r g' h => ?_
    · obtain ⟨rfl, _⟩ := h1
      obtain ⟨w2, w6, rfl, rfl⟩ := h3
      obtain ⟨hi', rfl⟩ := rngD_get h2
      obtain ⟨i, hi⟩ : ∃ i : Nat, i = 8 + i' := ⟨_, rfl⟩
      have e0 : (8 : Int) + ((i' : Nat) : Int) = (i : Nat) := by omega
      rw [e0]
      have h8 : 8 ≤ i := by omega
      have h17 : i < 17 := by omega
      refine ⟨_, rfl, sv_last (sv_for (gt := gName 6) (f := fN 6) (vs := [6]) (Q' := Iss g [.err (cA i) [(fldOf i, d)], .err (cA i) [(fldOf i, d)]]) (fun _ _ r g' => ∃ y6 : Option D, r = [none, some (.ref sa), some (.int (i : Nat)), some (.int (0 + (n : Nat))), some d, some (.str pd.shown), y6, y7] ∧ g = g') PassesOwn.never rfl
        (id_tup (ev_tup (ea_cons (ev_made (i := i) E hr (by decide) (ev_var 2 rfl) (ev_var 4 rfl) h8 h17) (ea_cons (ev_byName (i := i) E hr (by decide) (ev_var 2 rfl) (ev_var 4 rfl) h8 h17) ea_nil)) (by rw [sizeLine_eq]; show 2 ≤ 16777216; decide))) (pg_name scLaw.nd rfl (Or.inl rfl)) (tg_name 6)
        (fun ds g1 h => ⟨_, rfl, h.2.symm⟩) (fun ds g0 j dd r1 g1 h1 h2 h3 => ?_) (fun ds g0 r1 g1 h1 ⟨u6, h3, h4⟩ => ⟨_, u6, h3, h4⟩))⟩
      obtain ⟨rfl, _⟩ := h1
      obtain ⟨u6, rfl, rfl⟩ := h3
      have ed : dd = .err (cA i) [(fldOf i, d)] := by
        match j with
        | 0 => exact (Option.some.inj h2).symm
        | 1 => exact (Option.some.inj h2).symm
        | j + 2 => cases h2
      subst ed
      refine ⟨_, rfl, sv_last (sv_ifd (et_bool (ew_ord (et_cmp (ev_marks (i := i) E hr (by decide) (ev_var 6 rfl) (.inr ⟨_, rfl⟩) h17) (ev_due (i := i) E hr (by decide) (ev_var 2 rfl) h17) (opD_ne hu (mark_cmp i).1 (mark_cmp i).1)) (fun _ => ew_or1 (et_cmp (ev_callB (ea_cons (ev_held (i := i) E hr (by decide) (ev_var 2 rfl) (ev_var 6 rfl) h8 h17) ea_nil) (callD_repr hr.gd pd1 okR) E.bl.repr (by decide +kernel)) (ev_var 5 rfl) opD_neS)))) (fun hk => ?_) (fun _ => sv_nil ⟨_, rfl, rfl⟩))⟩
      rw [ne] at hk
      simp at hk
    obtain ⟨v2, v6, rfl, rfl⟩ := h
    -- raised and caught
    refine sv_cons (N1 := fun r g' => ∃ y2 y7 : Option D, r = [none, some (.ref sa), y2, some (.int (0 + (n : Nat))), some d, some (.str pd.shown), v6, y7] ∧ g = g') (sv_for (gt := gTup K 2 (gCons (gName 2) (gCons (gName 7) gNil))) (f := fN2 2 7) (vs := [2, 7]) (Q' := Iss g [.tup [.int 8, .str ""], .tup [.int 11, .str "turn"], .tup [.int 14, .str ""], .tup [.int 15, .str "unknown"], .tup [.int 4, .str "turn"], .tup [.int 7, .str "turn"]]) (fun _ _ r g' => ∃ y2 y7 : Option D, r = [none, some (.ref sa), y2, some (.int (0 + (n : Nat))), some d, some (.str pd.shown), v6, y7] ∧ g = g') PassesOwn.never rfl
      (id_tup (ev_tup (ea_cons (ev_tup (ea_cons ev_int (ea_cons ev_str ea_nil)) (by rw [sizeLine_eq]; show 2 ≤ 16777216; decide)) (ea_cons (ev_tup (ea_cons ev_int (ea_cons ev_str ea_nil)) (by rw [sizeLine_eq]; show 2 ≤ 16777216; decide)) (ea_cons (ev_tup (ea_cons ev_int (ea_cons ev_str ea_nil)) (by rw [sizeLine_eq]; show 2 ≤ 16777216; decide)) (ea_cons (ev_tup (ea_cons ev_int (ea_cons ev_str ea_nil)) (by rw [sizeLine_eq]; show 2 ≤ 16777216; decide)) (ea_cons (ev_tup (ea_cons ev_int (ea_cons ev_str ea_nil)) (by rw [sizeLine_eq]; show 2 ≤ 16777216; decide)) (ea_cons (ev_tup (ea_cons ev_int (ea_cons ev_str ea_nil)) (by rw [sizeLine_eq]; show 2 ≤ 16777216; decide)) ea_nil)))))) (by rw [sizeLine_eq]; show 6 ≤ 16777216; decide))) (pg_tup rfl (pgs_cons (pg_name scLaw.nd rfl (Or.inl rfl)) (pgs_cons (pg_name scLaw.nd rfl (Or.inl rfl)) pgs_nil))) (tg_pair 2 7)
      (fun ds g1 h => ⟨_, _, rfl, h.2.symm⟩) (fun ds g0 j dd r1 g1 h1 h2 h3 => ?_) (fun ds g0 r1 g1 h1 h2 => h2)) fun r g' h => ?_
    · obtain ⟨rfl, _⟩ := h1
      obtain ⟨w2, w7, rfl, rfl⟩ := h3
      have key : ∃ (i : Nat) (x : Str), dd = .tup [.int (i : Nat), .str x] ∧ raisesI i ∧ (¬ (i = 8 ∨ i = 14) → x = foundOf i) := by
        match j with
        | 0 => exact ⟨8, "", (Option.some.inj h2).symm, .inl rfl, fun h => absurd (.inl rfl) h⟩
        | 1 => exact ⟨11, "turn", (Option.some.inj h2).symm, .inr (.inl rfl), fun h => by decide +kernel⟩
        | 2 => exact ⟨14, "", (Option.some.inj h2).symm, .inr (.inr (.inl rfl)), fun h => absurd (.inr rfl) h⟩
        | 3 => exact ⟨15, "unknown", (Option.some.inj h2).symm, .inr (.inr (.inr (.inl rfl))), fun h => by decide +kernel⟩
        | 4 => exact ⟨4, "turn", (Option.some.inj h2).symm, .inr (.inr (.inr (.inr (.inl rfl)))), fun h => by decide +kernel⟩
        | 5 => exact ⟨7, "turn", (Option.some.inj h2).symm, .inr (.inr (.inr (.inr (.inr rfl)))), fun h => by decide +kernel⟩
        | j + 6 => cases h2
      obtain ⟨i, x, rfl, hi, hx⟩ := key
      exact ⟨_, rfl, sv_last (sv_ifd (et_notd (et_vald (k := true) (ev_call AR ((ok_raised (L := vL 3) (n := 7) E.er E.bl E.raise FR (by decide) (by decide)).mono (by decide)) hr (ea_cons (ev_var 2 rfl) (ea_cons (ev_var 4 rfl) (ea_cons (ev_var 7 rfl) ea_nil))) rfl ⟨i, d, x, rfl, hi, hd, hx⟩ (fun d' g' z => z)))) (fun hk => nomatch hk) (fun _ => sv_nil ⟨_, _, rfl, rfl⟩))⟩
    obtain ⟨x2, x7, rfl, rfl⟩ := h
    refine sv_last (sv_ifd (et_cmp (it rfl) (ev_var 5 rfl) opD_neS) (fun hk => ?_) (fun _ => sv_nil ⟨hn2, okm, _, _, _, _, _, _, rfl⟩))
    simp at hk
  · exact rep_start (.cons (.fz (hq.imp (fun r => ⟨r, fun z => z⟩) id) (DtL.of_ints ns)) .nil)
end
end WT
set_option Elab.async false
set_option linter.all false
set_option autoImplicit false
set_option maxRecDepth 100000
set_option maxHeartbeats 4000000
namespace WT
open PySem L2 PyProof.Rows
section
variable {P : Program} {K : PySem.W.Frag} {mg : Str → Option Value} {h : Heap} {C b : Addr} {bm bmB : List Value} {Bn newId B initId : String} {x : Str} {fld : Option Str}
/-- where a class stands, its order -/
def ClsAt (K : PySem.W.Frag) (C : Addr) (bm : List Value) (newId : String) : Prop := ∃ nm q N bs sn sub ab col dd k0 k1 k2 k3 k5, K.lookup C = some (excClassObj nm q C N bs bm true sn sub ab col dd k0 k1 k2 k3 k5 newId)
theorem ClsAt.cls (c : ClsAt K C bm newId) : ∃ cd, PySem.W.clsIn K C = some cd ∧ cd.mro = .ref C :: bm ∧ cd.hasDict = true := by
  obtain ⟨nm, q, N, bs, sn, sub, ab, col, dd, k0, k1, k2, k3, k5, h⟩ := c
  refine ⟨{ name := nm, bases := bs, mro := .ref C :: bm, ns := N, qualname := q, hasDict := true, slotNames := sn, subclasses := sub, abstract := ab, collection := col, hasDel := false }, ?_, rfl, rfl⟩
  unfold PySem.W.clsIn
  rw [h] <;> rfl
theorem ClsAt.sub (c : ClsAt K C bm newId) (v : Value) : PySem.W.subIn K (.ref C) v = some ((Value.ref C :: bm).contains v) := by
  obtain ⟨cd, h1, h2, _⟩ := c.cls
  show PySem.W.mroIn K C v = _
  unfold PySem.W.mroIn
  rw [h1, Option.bind_some, h2, if_neg (by simp)]
theorem ClsAt.ty (c : ClsAt K C bm newId) : PySem.W.typeIn K (.ref C) = some (.type "type") := by
  obtain ⟨nm, q, N, bs, sn, sub, ab, col, dd, k0, k1, k2, k3, k5, h⟩ := c
  show (K.lookup C).map (·.cls) = _
  rw [h]
  rfl
theorem ClsAt.hd (c : ClsAt K C bm newId) : PySem.W.hasDictIn K C = true := by
  obtain ⟨cd, h1, _, h3⟩ := c.cls
  unfold PySem.W.hasDictIn
  rw [h1]
  exact h3
theorem ClsAt.kitR {C' : Addr} {bm' : List Value} {newId' : String} (c : ClsAt K C bm newId) (c' : ClsAt K C' bm' newId') : PySem.W.kitCls K (.ref C) (.ref C') = some ((Value.ref C :: bm).contains (.ref C')) := by
  obtain ⟨cd, h1, _⟩ := c'.cls
  show (if ((PySem.W.clsIn K C').isSome && PySem.W.typeIn K (.ref C') == some (.type "type")) = true then PySem.W.subIn K (.ref C) (.ref C') else none) = _
  rw [h1, c'.ty, if_pos (by rfl)]
  exact c.sub _
theorem ClsAt.kitT (c : ClsAt K C bm newId) {n : String} (h : PySem.W.kitMeta n = true) : PySem.W.kitOne K (.ref C) (.type n) = some ((Value.ref C :: bm).contains (.type n)) := by
  show (if (Value.ref C == Value.type n) = true then some true else PySem.W.kitCls K (.ref C) (.type n)) = _
  rw [if_neg (by simp)]
  show (if PySem.W.kitMeta n = true then PySem.W.subIn K (.ref C) (.type n) else none) = _
  rw [if_pos h]
  exact c.sub _
theorem ClsAt.kit {C' : Addr} {bm' : List Value} {newId' : String} (c : ClsAt K C bm newId) (c' : ClsAt K C' bm' newId') : PySem.W.kitOne K (.ref C) (.ref C') = some ((Value.ref C :: bm).contains (.ref C')) := by
  show (if (Value.ref C == Value.ref C') = true then some true else PySem.W.kitCls K (.ref C) (.ref C')) = _
  by_cases e : C = C'
  · subst e
    rw [if_pos (by simp)]
    simp
  · rw [if_neg (by simpa using e)]
    exact c.kitR c'
theorem ClsAt.exm {C' : Addr} {bm' : List Value} {newId' : String} (c : ClsAt K C bm newId) (c' : ClsAt K C' bm' newId') (h : (Value.ref C' :: bm').contains (.type "BaseException") = true) : PySem.W.exmOne K (.ref C) (.ref C') = some ((Value.ref C :: bm).contains (.ref C')) := by
  have e : (PySem.W.subIn K (.ref C') (.type "BaseException") == some true) = true := by rw [c'.sub, h]; rfl
  unfold PySem.W.exmOne
  rw [if_pos e]
  exact c.kitR c'
/-- what is known of all: the built-in parts -/
structure XAll (P : Program) (K : PySem.W.Frag) (mg : Str → Option Value) : Prop where
  third : PySem.W.nsIn K cStatics "thirdparty.any" = some none
  top : (P.main.scope.names.lookup ("super" : Str)).isSome = false
  sup : mg "super" = none
  hn : PySem.W.specialIn K (.builtin "object.__class__") "__get__" = some (some (.builtin "getset_descriptor.__get__"))
  ht : PySem.W.takesIn K (.builtin "object.__class__") = some true
/-- the two kinds -/
structure XKin (Bn newId B initId : String) (bmB : List Value) : Prop where
  kd : XKind Bn newId B initId bmB
  mro : ∀ C b : Addr, XMro Bn C (.ref b :: bmB)
  tail : ∀ b : Addr, PySem.W.excTail bmB (.ref b :: bmB) = true
  hB : ∀ C b : Addr, (Value.ref C :: .ref b :: bmB).contains (.type B) = true
  hE : ∀ C b : Addr, (Value.ref C :: .ref b :: bmB).contains (.type "BaseException") = true
  hO : ∀ C b : Addr, (Value.ref C :: .ref b :: bmB).contains (.type "object") = true
theorem xkin_val : XKin "ValueError" "ValueError.__new__" "ValueError" "ValueError.__init__" valChain := ⟨xkind_val, fun _ _ => ⟨rfl, rfl, rfl⟩, fun _ => rfl, fun _ _ => rfl, fun _ _ => rfl, fun _ _ => rfl⟩
theorem xkin_key : XKin "LookupError" "LookupError.__new__" "KeyError" "KeyError.__init__" keyChain := ⟨xkind_key, fun _ _ => ⟨rfl, rfl, rfl⟩, fun _ => rfl, fun _ _ => rfl, fun _ _ => rfl, fun _ _ => rfl⟩
/-- a class of errors as the top has left it -/
structure XRaw (P : Program) (K : PySem.W.Frag) (mg : Str → Option Value) (newId : String) (bmB : List Value) (x : Str) (C b : Addr) (fld : Option Str) : Prop where
  er : XErr P K mg x C fld
  at_ : ClsAt K C (.ref b :: bmB) newId
  ask : ExcC K C
  no : ∀ f, fld = some f → PySem.W.findIn K (.ref C) f = some none
theorem along_of {nb : String} (cb : ClsAt K b bmB nb) {v : Option Value} {n : Str} (h : PySem.W.findIn K (.ref b) n = some v) : PySem.W.alongIn K n (.ref b :: bmB) = some v := by
  obtain ⟨nm, q, N, bs, sn, sub, ab, col, dd, k0, k1, k2, k3, k5, e⟩ := cb
  unfold PySem.W.findIn at h
  dsimp only at h
  rw [e] at h
  exact h
def p0 : Pos := ⟨0, 0, 0, 0⟩
theorem raw_mk {nb : String} {nm q : Str} {N : Addr} {bs : List Value} {sn : List Str} {sub : List Value} {ab : Bool} {col : Option Bool} {dd : Option Addr} {k0 k1 k2 k3 k5 : Option Value} {fI cda cc : Addr} {od : Option Addr} {p : XPos} {text qual : Str} {kV doc pm : Value} {an : Option Addr} {ct : Value} {osl : Array (Option Value)}
    {ccl : Value} {cdd : Option Addr} {vs : Array Value} {ccs : Array (Option Value)} {file : Str} {tf : Tok} {cl : Value} {cld : Option Addr} {csl : Array (Option Value)}
    (X : K.In h) (G : h.Ns mainGlobals mg) (A : XAll P K mg) (kn : XKin Bn newId B initId bmB) (cb : ClsAt K b bmB nb) (ib : PySem.W.findIn K (.ref b) "__init__" = some (some (.builtin initId))) (hF : ∀ f, fld = some f → XFld f) (okF : ∀ f, fld = some f → ("super" == f) = false ∧ ("__class__" == f) = false ∧ ("self" == f) = false ∧ ((f : Str) == "self") = false ∧ (f == ("__debug__" : Str)) = false)
    (db : (x == ("__debug__" : Str)) = false) (lp : (p.p2.endLine == p.p4.line) = true)
    (ns : PySem.W.nsIn K mainGlobals x = some (some (.ref C))) (xL : K.lookup C = some (excClassObj nm q C N bs (.ref b :: bmB) true sn sub ab col dd k0 k1 k2 k3 k5 newId)) (iC : PySem.W.findIn K (.ref C) "__init__" = some (some (.ref fI)))
    (l : K.lookup fI = some ⟨.type "function", od, .func (PySem.W.ksFn "__init__" qual (xArgs p fld) (xBody p text fld) (xScope fld) .none kV doc pm an (.ref cda) ct cc), osl⟩) (c : PySem.W.codeIn K (.ref cda) qual = true) (lc : K.lookup cda = some ⟨ccl, cdd, .fields vs, ccs⟩) (lv : vs[2]? = some (.str file tf)) (lfile : ((P.main.file : Str) == file) = true)
    (lcell : K.lookup cc = some ⟨cl, cld, .cell (some (.ref C)), csl⟩) (kp : PySem.W.keepIn K (.ref C) = true) (sa : PySem.W.findIn K (.ref C) "__setattr__" = some (some (.builtin "object.__setattr__"))) (ga : PySem.W.findIn K (.ref C) "__getattribute__" = some (some (.builtin "BaseException.__getattribute__")))
    (gg : PySem.W.findIn K (.ref C) "__getattr__" = some none) (ca : PySem.W.findIn K (.ref C) "__class__" = some (some (.builtin "object.__class__"))) (nf : ∀ f, fld = some f → PySem.W.findIn K (.ref C) f = some none) : XRaw P K mg newId bmB x C b fld := by
  have at_ : ClsAt K C (.ref b :: bmB) newId := ⟨nm, q, N, bs, sn, sub, ab, col, dd, k0, k1, k2, k3, k5, xL⟩
  refine ⟨⟨⟨Bn, newId, B, initId, bmB, fI, ?_⟩, hF, A.sup, PySem.W.mg_of X G ns, kp, db⟩, at_, ?_, nf⟩
  · exact { kd := kn.kd, cls := ⟨nm, q, N, bs, _, sn, sub, ab, col, dd, k0, k1, k2, k3, k5, xL, kn.mro C b, kn.tail b, along_of cb ib⟩, iC := iC, tI := by show (K.lookup fI).map (·.cls) = _; rw [l]; rfl, sB := by rw [at_.sub, kn.hB], third := A.third, sa := sa, noF := nf,
            fn := ⟨_, od, p, text, qual, kV, doc, pm, an, cda, cc, ct, osl, ccl, cdd, vs, ccs, file, tf, cl, cld, csl, l, c, lc, lv, lfile, lcell, lp⟩, top := A.top, okF := okF }
  · refine ⟨ga, gg, by rw [at_.sub, kn.hE], at_.hd, ca, A.hn, A.ht, ?_⟩
    have := at_.sub (.type "object")
    rw [kn.hO] at this
    exact this
end
theorem errs_mk {P : Program} {K : PySem.W.Frag} {mg : Str → Option Value} {h : Heap} {C0 C1 C2 C3 C4 C5 C6 C7 C8 C9 C10 C11 C12 C13 C14 C15 C16 tA uA : Addr} (X : K.In h) (G : h.Ns mainGlobals mg) {nt nu : String} (ct : ClsAt K tA valChain nt) (cu : ClsAt K uA keyChain nu) (gT : PySem.W.nsIn K mainGlobals "TurnError" = some (some (.ref tA))) (gU : PySem.W.nsIn K mainGlobals "Unknown" = some (some (.ref uA)))
    (r0 : XRaw P K mg "ValueError.__new__" valChain "InvalidTable" C0 tA none)
    (r1 : XRaw P K mg "ValueError.__new__" valChain "InvalidStore" C1 tA none)
    (r2 : XRaw P K mg "ValueError.__new__" valChain "InvalidQuestion" C2 tA none)
    (r3 : XRaw P K mg "ValueError.__new__" valChain "InvalidForm" C3 tA none)
    (r4 : XRaw P K mg "ValueError.__new__" valChain "InvalidText" C4 tA none)
    (r5 : XRaw P K mg "ValueError.__new__" valChain "InvalidCommand" C5 tA none)
    (r6 : XRaw P K mg "ValueError.__new__" valChain "InvalidShape" C6 tA none)
    (r7 : XRaw P K mg "ValueError.__new__" valChain "Full" C7 tA none)
    (r8 : XRaw P K mg "ValueError.__new__" valChain "InvalidChange" C8 tA (some "change"))
    (r9 : XRaw P K mg "ValueError.__new__" valChain "NameTaken" C9 tA (some "name"))
    (r10 : XRaw P K mg "ValueError.__new__" valChain "Broken" C10 tA (some "number"))
    (r11 : XRaw P K mg "ValueError.__new__" valChain "Barred" C11 tA (some "numbers"))
    (r12 : XRaw P K mg "ValueError.__new__" valChain "NoOrder" C12 tA (some "tree"))
    (r13 : XRaw P K mg "LookupError.__new__" keyChain "UnknownTable" C13 uA (some "name"))
    (r14 : XRaw P K mg "LookupError.__new__" keyChain "UnknownRow" C14 uA (some "row"))
    (r15 : XRaw P K mg "LookupError.__new__" keyChain "UnknownNumber" C15 uA (some "number"))
    (r16 : XRaw P K mg "LookupError.__new__" keyChain "UnknownReplica" C16 uA (some "name"))
    (nd : ([C0, C1, C2, C3, C4, C5, C6, C7, C8, C9, C10, C11, C12, C13, C14, C15, C16] ++ [tA, uA]).Nodup) : ∃ cA : Nat → Addr, Errs P K mg cA tA uA := by
  have kT : ∀ i, i < 17 → ClsAt K (([C0, C1, C2, C3, C4, C5, C6, C7, C8, C9, C10, C11, C12, C13, C14, C15, C16] : List Addr).getD i 0) (if i < 13 then .ref tA :: valChain else .ref uA :: keyChain) (if i < 13 then "ValueError.__new__" else "LookupError.__new__") := by
    intro i hi
    match i, hi with
    | 0, _ => exact r0.at_
    | 1, _ => exact r1.at_
    | 2, _ => exact r2.at_
    | 3, _ => exact r3.at_
    | 4, _ => exact r4.at_
    | 5, _ => exact r5.at_
    | 6, _ => exact r6.at_
    | 7, _ => exact r7.at_
    | 8, _ => exact r8.at_
    | 9, _ => exact r9.at_
    | 10, _ => exact r10.at_
    | 11, _ => exact r11.at_
    | 12, _ => exact r12.at_
    | 13, _ => exact r13.at_
    | 14, _ => exact r14.at_
    | 15, _ => exact r15.at_
    | 16, _ => exact r16.at_
    | i + 17, h => omega
  have kA : ∀ i, i < 17 → ExcC K (([C0, C1, C2, C3, C4, C5, C6, C7, C8, C9, C10, C11, C12, C13, C14, C15, C16] : List Addr).getD i 0) := by
    intro i hi
    match i, hi with
    | 0, _ => exact r0.ask
    | 1, _ => exact r1.ask
    | 2, _ => exact r2.ask
    | 3, _ => exact r3.ask
    | 4, _ => exact r4.ask
    | 5, _ => exact r5.ask
    | 6, _ => exact r6.ask
    | 7, _ => exact r7.ask
    | 8, _ => exact r8.ask
    | 9, _ => exact r9.ask
    | 10, _ => exact r10.ask
    | 11, _ => exact r11.ask
    | 12, _ => exact r12.ask
    | 13, _ => exact r13.ask
    | 14, _ => exact r14.ask
    | 15, _ => exact r15.ask
    | 16, _ => exact r16.ask
    | i + 17, h => omega
  have gd : ∀ i (hi : i < ([C0, C1, C2, C3, C4, C5, C6, C7, C8, C9, C10, C11, C12, C13, C14, C15, C16] : List Addr).length), ([C0, C1, C2, C3, C4, C5, C6, C7, C8, C9, C10, C11, C12, C13, C14, C15, C16] : List Addr).getD i 0 = ([C0, C1, C2, C3, C4, C5, C6, C7, C8, C9, C10, C11, C12, C13, C14, C15, C16] : List Addr)[i] := fun i hi => by rw [List.getD_eq_getElem?_getD, List.getElem?_eq_getElem hi]; rfl
  have inj : ∀ i j, i < 17 → j < 17 → ([C0, C1, C2, C3, C4, C5, C6, C7, C8, C9, C10, C11, C12, C13, C14, C15, C16] : List Addr).getD j 0 = ([C0, C1, C2, C3, C4, C5, C6, C7, C8, C9, C10, C11, C12, C13, C14, C15, C16] : List Addr).getD i 0 → j = i := by
    intro i j hi hj e
    have n1 := (List.nodup_append.mp nd).1
    rw [gd j (by simpa using hj), gd i (by simpa using hi)] at e
    have pw := List.pairwise_iff_getElem.mp n1
    rcases Nat.lt_trichotomy i j with q | q | q
    · exact absurd e.symm (pw i j _ _ q)
    · exact q.symm
    · exact absurd e (pw j i _ _ q)
  have nt : ∀ i, i < 17 → ([C0, C1, C2, C3, C4, C5, C6, C7, C8, C9, C10, C11, C12, C13, C14, C15, C16] : List Addr).getD i 0 ≠ tA ∧ ([C0, C1, C2, C3, C4, C5, C6, C7, C8, C9, C10, C11, C12, C13, C14, C15, C16] : List Addr).getD i 0 ≠ uA := by
    intro i hi
    have n2 := (List.nodup_append.mp nd).2.2
    rw [gd i (by simpa using hi)]
    exact ⟨n2 _ (List.getElem_mem _) _ (by simp), n2 _ (List.getElem_mem _) _ (by simp)⟩
  have ntu : tA ≠ uA := by
    have n3 := (List.nodup_append.mp nd).2.1
    simpa using n3
  have mem : ∀ i (v : Value), i < 17 → (Value.ref (([C0, C1, C2, C3, C4, C5, C6, C7, C8, C9, C10, C11, C12, C13, C14, C15, C16] : List Addr).getD i 0) :: (if i < 13 then Value.ref tA :: valChain else Value.ref uA :: keyChain)).contains v = (decide (v = .ref (([C0, C1, C2, C3, C4, C5, C6, C7, C8, C9, C10, C11, C12, C13, C14, C15, C16] : List Addr).getD i 0)) || (if i < 13 then (decide (v = .ref tA) || valChain.contains v) else (decide (v = .ref uA) || keyChain.contains v))) := by
    intro i v hi
    rw [List.contains_cons]
    have e1 : ∀ a : Value, (v == a) = decide (v = a) := fun a => by
      by_cases q : v = a
      · subst q
        simp
      · rw [decide_eq_false q]
        exact beq_eq_false_iff_ne.mpr q
    rw [e1]
    split <;> rw [List.contains_cons, e1]
  have rv : ∀ a : Addr, valChain.contains (Value.ref a) = false := fun _ => rfl
  have rk : ∀ a : Addr, keyChain.contains (Value.ref a) = false := fun _ => rfl
  refine ⟨fun i => ([C0, C1, C2, C3, C4, C5, C6, C7, C8, C9, C10, C11, C12, C13, C14, C15, C16] : List Addr).getD i 0, ?_⟩
  exact {
    e0 := r0.er
    e1 := r1.er
    e2 := r2.er
    e3 := r3.er
    e4 := r4.er
    e5 := r5.er
    e6 := r6.er
    e7 := r7.er
    e8 := r8.er
    e9 := r9.er
    e10 := r10.er
    e11 := r11.er
    e12 := r12.er
    e13 := r13.er
    e14 := r14.er
    e15 := r15.er
    e16 := r16.er
    gT := PySem.W.mg_of X G gT
    gU := PySem.W.mg_of X G gU
    ask := kA
    isi := fun i j hi hj => by
      rw [(kT i hi).kit (kT j hj), mem i _ hi]
      refine congrArg some ?_
      by_cases e : j = i
      · subst e
        simp
      · have ne := fun z => e (inj i j hi hj z)
        rw [decide_eq_false e]
        simp only [Value.ref.injEq, ne, (nt j hj).1, (nt j hj).2, rv, rk, decide_false, Bool.false_or, ite_self]
        rw [decide_eq_false ne]
        rfl
    isT := fun i hi => by
      rw [(kT i hi).kit ct, mem i _ hi]
      refine congrArg some ?_
      simp only [Value.ref.injEq, Ne.symm (nt i hi).1, ntu, rv, rk, decide_false, decide_true, Bool.false_or, Bool.true_or]
      split <;> simp_all
    isV := fun i hi => by
      rw [(kT i hi).kitT (by decide +kernel), mem i _ hi]
      refine congrArg some ?_
      have e1 : valChain.contains (Value.type "ValueError") = true := by decide +kernel
      have e2 : keyChain.contains (Value.type "ValueError") = false := by decide +kernel
      rw [e1, e2]
      split <;> simp_all
    isU := fun i hi => by
      rw [(kT i hi).kit cu, mem i _ hi]
      refine congrArg some ?_
      simp only [Value.ref.injEq, Ne.symm (nt i hi).2, Ne.symm ntu, rv, rk, decide_false, decide_true, Bool.false_or, Bool.true_or]
      split <;> simp_all
    isK := fun i hi => by
      rw [(kT i hi).kitT (by decide +kernel), mem i _ hi]
      refine congrArg some ?_
      have e1 : valChain.contains (Value.type "KeyError") = false := by decide +kernel
      have e2 : keyChain.contains (Value.type "KeyError") = true := by decide +kernel
      rw [e1, e2]
      split <;> simp_all
    no := fun i h8 hi => by
      match i, h8, hi with
      | 8, _, _ => exact r8.no _ rfl
      | 9, _, _ => exact r9.no _ rfl
      | 10, _, _ => exact r10.no _ rfl
      | 11, _, _ => exact r11.no _ rfl
      | 12, _, _ => exact r12.no _ rfl
      | 13, _, _ => exact r13.no _ rfl
      | 14, _, _ => exact r14.no _ rfl
      | 15, _, _ => exact r15.no _ rfl
      | 16, _, _ => exact r16.no _ rfl
      | i + 17, _, h => omega
    sub := fun i hi => (kA i hi).hs
    ty := fun i hi => (kT i hi).ty
    ex8 := fun i hi => by
      have e := (kT i hi).exm (kT 8 (by decide)) (by rfl)
      rw [mem i _ hi] at e
      refine e.trans (congrArg some ?_)
      by_cases q : i = 8
      · subst q
        simp
      · have ne := fun z => q (inj i 8 hi (by decide) z).symm
        rw [decide_eq_false q]
        simp only [Value.ref.injEq, ne, (nt 8 (by decide)).1, (nt 8 (by decide)).2, rv, rk, decide_false, Bool.false_or, ite_self]
        rw [decide_eq_false ne]
        rfl
    ex14 := fun i hi => by
      have e := (kT i hi).exm (kT 14 (by decide)) (by rfl)
      rw [mem i _ hi] at e
      refine e.trans (congrArg some ?_)
      by_cases q : i = 14
      · subst q
        simp
      · have ne := fun z => q (inj i 14 hi (by decide) z).symm
        rw [decide_eq_false q]
        simp only [Value.ref.injEq, ne, (nt 14 (by decide)).1, (nt 14 (by decide)).2, rv, rk, decide_false, Bool.false_or, ite_self]
        rw [decide_eq_false ne]
        rfl
    exT := fun i hi => by
      have e := (kT i hi).exm ct (by rfl)
      rw [mem i _ hi] at e
      refine e.trans (congrArg some ?_)
      simp only [Value.ref.injEq, Ne.symm (nt i hi).1, ntu, rv, rk, decide_false, decide_true, Bool.false_or, Bool.true_or]
      split <;> simp_all
    exU := fun i hi => by
      have e := (kT i hi).exm cu (by rfl)
      rw [mem i _ hi] at e
      refine e.trans (congrArg some ?_)
      simp only [Value.ref.injEq, Ne.symm (nt i hi).2, Ne.symm ntu, rv, rk, decide_false, decide_true, Bool.false_or, Bool.true_or]
      split <;> simp_all }
end WT
set_option Elab.async false
set_option linter.all false
set_option autoImplicit false
set_option maxRecDepth 100000
set_option maxHeartbeats 4000000
namespace WT
open PySem L2 PyProof.Rows
theorem def_mk {K : PySem.W.Frag} {mg : Str → Option Value} {h : Heap} {x : Str} {st : Stmt} {ps : List Str} {f : Addr} {oc : Value} {od an : Option Addr} {osl : Array (Option Value)} {kV doc pm cdv ct : Value} (X : K.In h) (G : h.Ns mainGlobals mg) (a : PySem.W.nsIn K mainGlobals x = some (some (.ref f)))
    (l : K.lookup f = some ⟨oc, od, .func (PySem.W.fnOf x x (defArgs st) (defBody st) (defScope st) .none kV doc pm an cdv ct), osl⟩) (c : PySem.W.codeIn K cdv x = true) (k : PySem.W.keepIn K (.ref f) = true)
    (hb : ∀ (kV doc pm : Value) (an : Option Addr) (cdv ct : Value) (us : List Value), us.length = ps.length → bindArgs (PySem.W.fnOf x x (defArgs st) (defBody st) (defScope st) .none kV doc pm an cdv ct) ⟨us, []⟩ = pure (ps.zip us)) : DefAt K mg x st ps :=
  ⟨f, _, fun_mk (st := st) l c k, PySem.W.mg_of X G a, k, (fun_mk (st := st) l c k).binds hb⟩
theorem cls_mk {K : PySem.W.Frag} {C : Addr} {bm : List Value} {newId : String} {nm q : Str} {N : Addr} {bs : List Value} {sn : List Str} {sub : List Value} {ab : Bool} {col : Option Bool} {dd : Option Addr} {k0 k1 k2 k3 k5 : Option Value} (h : K.lookup C = some (excClassObj nm q C N bs bm true sn sub ab col dd k0 k1 k2 k3 k5 newId)) : ClsAt K C bm newId := ⟨nm, q, N, bs, sn, sub, ab, col, dd, k0, k1, k2, k3, k5, h⟩
theorem xall_mk {P : Program} {K : PySem.W.Frag} {mg : Str → Option Value} {h : Heap} (X : K.In h) (G : h.Ns mainGlobals mg) (a1 : PySem.W.nsIn K cStatics "thirdparty.any" = some none) (a2 : (P.main.scope.names.lookup ("super" : Str)).isSome = false) (a3 : PySem.W.nsIn K mainGlobals "super" = some none)
    (a4 : PySem.W.specialIn K (.builtin "object.__class__") "__get__" = some (some (.builtin "getset_descriptor.__get__"))) (a5 : PySem.W.takesIn K (.builtin "object.__class__") = some true) : XAll P K mg := ⟨a1, a2, PySem.W.mg_none_of X G a3, a4, a5⟩
theorem all_mk {P : Program} {w : World} {K : PySem.W.Frag} {mg : Str → Option Value} {h : Heap} {fa f : Addr} {tA uA : Addr} (X : K.In h) (G : h.Ns mainGlobals mg) (hfa : mg "law" = some (.ref fa)) {od an : Option Addr} {osl : Array (Option Value)} {oc kV doc pm cdv ct : Value}
    (E : ∃ cA, Errs P K mg cA tA uA) (B : Blt mg)
    (d_draw : DefAt K mg "_law_draw" sDraw ["_law_source_here", "_law_many"])
    (d_pick : DefAt K mg "_law_pick" sPick ["_law_source_here", "_law_items"])
    (d_plain : DefAt K mg "_law_plain" sPlain ["_law_source_here"])
    (d_value : DefAt K mg "_law_value" sValue ["_law_source_here", "_law_deep"])
    (d_bare : DefAt K mg "_law_bare" sBare ["_law_which"])
    (d_made : DefAt K mg "_law_made" sMade ["_law_which", "_law_it"])
    (d_byName : DefAt K mg "_law_made_by_name" sByName ["_law_which", "_law_it"])
    (d_held : DefAt K mg "_law_held" sHeld ["_law_which", "_law_error"])
    (d_marks : DefAt K mg "_law_marks" sMarks ["_law_error"])
    (d_due : DefAt K mg "_law_due" sDue ["_law_which"])
    (d_raised : DefAt K mg "_law_raised" sRaised ["_law_which", "_law_it", "_law_wide"])
    (d_raise : DefAt K mg "_law_raise" sRaise ["_law_which", "_law_it"])
    (d_source : DefAt K mg "_law_source" sSource ["_law_script"])
    (a : PySem.W.nsIn K mainGlobals "law" = some (some (.ref f))) (l : K.lookup f = some ⟨oc, od, .func (PySem.W.fnOf "law" "law" (defArgs sLaw) (defBody sLaw) (defScope sLaw) .none kV doc pm an cdv ct), osl⟩) (c : PySem.W.codeIn K cdv "law" = true) (k : PySem.W.keepIn K (.ref f) = true) :
    ∃ fd : FuncData, (∀ (s : Shared) (u : Value), BindsTo s fd ⟨[u], []⟩ [("_law_script", u)]) ∧ ∀ base : Heap, K.In base → base.Ns mainGlobals mg → FnG P w K mg base CX0 8 fa fd ["_law_script"] (spLaw K) := by
  have e := hfa.symm.trans (PySem.W.mg_of X G a)
  cases e
  obtain ⟨cA, Er⟩ := E
  have T : Tx P K mg cA tA uA := ⟨Er, B, d_draw, d_pick, d_plain, d_value, d_bare, d_made, d_byName, d_held, d_marks, d_due, d_raised, d_raise, d_source⟩
  exact ⟨_, fun s u => .of_eq rfl, fun base kb _ => ok_law T (fun_mk (st := sLaw) l c k)⟩
theorem walk {l : PySem.W.OpenLaw} {q : Program} {loose : List Str} {XP : (Str → Option Value) → Heap → Prop} {YP : World → Heap → Prop} {d : DefRec} {K : Params → PySem.W.Frag} (hn : l.most = some 63) (hdf : d.params.defaults = []) (hY : ∀ (w : World) (h : Heap), YP w h → (K w.params).In h)
    (F : ∀ (w : World) (mg : Str → Option Value) (fa : Addr) (h : Heap), (K w.params).In h → h.Ns mainGlobals mg → mg d.name = some (.ref fa) →
      ∃ fd : FuncData, (∀ (s : Shared) (u : Value), BindsTo s fd ⟨[u], []⟩ [("_law_script", u)]) ∧ ∀ base : Heap, (K w.params).In base → base.Ns mainGlobals mg → FnG l.prog w (K w.params) mg base CX0 8 fa fd ["_law_script"] (spLaw (K w.params))) :
    PySem.W.WalkO q loose XP YP l.row.toRowW d [] (fun f vs => PySem.call f vs) :=
  walk_G (n := 63) (k := 8) (x := "_law_script") (sp := fun w => spLaw (K w.params)) hn (by decide) hdf ⟨⟨rfl, by decide, by decide⟩, rfl⟩ hY F (fun w H a ns hl hO hS => ⟨a, ns, rfl, hS, fun _ => rfl⟩)
end WT
set_option Elab.async false
set_option linter.all false
set_option maxRecDepth 100000
open PySem PySem.W PyProof.Rows
set_option maxRecDepth 100000 in
set_option maxHeartbeats 0 in
theorem PySem.Challenge.cw_whatturns_k01_errors_holds : PySem.Challenge.rw_whatturns_k01_errors.Holds := by
  w_on; o_law; k_head; (case hw => w_witness2)
  k_fill
  refine WT.walk (l := PySem.Challenge.rw_whatturns_k01_errors) rfl rfl (fun w h Y => PySem.W.kIn_of Y) ?F
  case F =>
    intro w mg fa h KX G hmg
    have A := WT.xall_mk (P := PySem.Challenge.rw_whatturns_k01_errors.prog) KX G (by k_is) (by decide +kernel) (by k_is) (by k_is) (by k_is)
    have B : WT.Blt mg := by
      refine' ⟨PySem.W.mg_none_of KX G ?b1, PySem.W.mg_none_of KX G ?b2, PySem.W.mg_none_of KX G ?b3, PySem.W.mg_none_of KX G ?b4, PySem.W.mg_none_of KX G ?b5, PySem.W.mg_none_of KX G ?b6, PySem.W.mg_none_of KX G ?b7, PySem.W.mg_none_of KX G ?b8⟩
      (case b1 => k_is); (case b2 => k_is); (case b3 => k_is); (case b4 => k_is); (case b5 => k_is); (case b6 => k_is); (case b7 => k_is); (case b8 => k_is)
    refine' WT.all_mk KX G hmg (WT.errs_mk KX G (WT.cls_mk ?lT) (WT.cls_mk ?lU) ?gT ?gU ?r0 ?r1 ?r2 ?r3 ?r4 ?r5 ?r6 ?r7 ?r8 ?r9 ?r10 ?r11 ?r12 ?r13 ?r14 ?r15 ?r16 ?nd) B ?d_draw ?d_pick ?d_plain ?d_value ?d_bare ?d_made ?d_byName ?d_held ?d_marks ?d_due ?d_raised ?d_raise ?d_source ?a ?l ?c ?k
    (case gT => k_is); (case gU => k_is); (case lT => k_is); (case lU => k_is)
    case r0 =>
      refine' WT.raw_mk (p := WT.XPos.mk ⟨6, 17, 6, 21⟩ WT.p0 ⟨7, 8, 7, 13⟩ ⟨7, 8, 7, 15⟩ ⟨7, 8, 7, 24⟩ ⟨7, 25, 7, 60⟩ ⟨7, 8, 7, 61⟩ ⟨7, 8, 7, 61⟩ WT.p0 WT.p0 WT.p0 WT.p0) (text := "the arguments do not make a table") (qual := "InvalidTable.__init__") KX G A WT.xkin_val (WT.cls_mk ?lB_0) ?iB_0 (fun f e => nomatch e) (fun f e => nomatch e) (by decide) ?lp_0 ?ns_0 ?xL_0 ?iC_0 ?l_0 ?c_0 ?lc_0 ?lv_0 ?lfile_0 ?lcell_0 ?kp_0 ?sa_0 ?ga_0 ?gg_0 ?ca_0 ?nf_0
      (case ns_0 => k_is); (case xL_0 => k_is); (case lB_0 => k_is); (case iB_0 => k_is); (case iC_0 => k_is); (case l_0 => k_is); (case c_0 => k_is); (case lc_0 => k_is); (case lv_0 => rfl); (case lfile_0 => decide +kernel); (case lcell_0 => k_is); (case lp_0 => rfl)
      (case kp_0 => k_is); (case sa_0 => k_is); (case ga_0 => k_is); (case gg_0 => k_is); (case ca_0 => k_is); (case nf_0 => (intro f e; cases e))
    case r1 =>
      refine' WT.raw_mk (p := WT.XPos.mk ⟨10, 17, 10, 21⟩ WT.p0 ⟨11, 8, 11, 13⟩ ⟨11, 8, 11, 15⟩ ⟨11, 8, 11, 24⟩ ⟨11, 25, 11, 81⟩ ⟨11, 8, 11, 82⟩ ⟨11, 8, 11, 82⟩ WT.p0 WT.p0 WT.p0 WT.p0) (text := "a store holds one to three tables with different names") (qual := "InvalidStore.__init__") KX G A WT.xkin_val (WT.cls_mk ?lB_1) ?iB_1 (fun f e => nomatch e) (fun f e => nomatch e) (by decide) ?lp_1 ?ns_1 ?xL_1 ?iC_1 ?l_1 ?c_1 ?lc_1 ?lv_1 ?lfile_1 ?lcell_1 ?kp_1 ?sa_1 ?ga_1 ?gg_1 ?ca_1 ?nf_1
      (case ns_1 => k_is); (case xL_1 => k_is); (case lB_1 => k_is); (case iB_1 => k_is); (case iC_1 => k_is); (case l_1 => k_is); (case c_1 => k_is); (case lc_1 => k_is); (case lv_1 => rfl); (case lfile_1 => decide +kernel); (case lcell_1 => k_is); (case lp_1 => rfl)
      (case kp_1 => k_is); (case sa_1 => k_is); (case ga_1 => k_is); (case gg_1 => k_is); (case ca_1 => k_is); (case nf_1 => (intro f e; cases e))
    case r2 =>
      refine' WT.raw_mk (p := WT.XPos.mk ⟨19, 17, 19, 21⟩ WT.p0 ⟨20, 8, 20, 13⟩ ⟨20, 8, 20, 15⟩ ⟨20, 8, 20, 24⟩ ⟨20, 25, 20, 52⟩ ⟨20, 8, 20, 53⟩ ⟨20, 8, 20, 53⟩ WT.p0 WT.p0 WT.p0 WT.p0) (text := "the question does not fit") (qual := "InvalidQuestion.__init__") KX G A WT.xkin_val (WT.cls_mk ?lB_2) ?iB_2 (fun f e => nomatch e) (fun f e => nomatch e) (by decide) ?lp_2 ?ns_2 ?xL_2 ?iC_2 ?l_2 ?c_2 ?lc_2 ?lv_2 ?lfile_2 ?lcell_2 ?kp_2 ?sa_2 ?ga_2 ?gg_2 ?ca_2 ?nf_2
      (case ns_2 => k_is); (case xL_2 => k_is); (case lB_2 => k_is); (case iB_2 => k_is); (case iC_2 => k_is); (case l_2 => k_is); (case c_2 => k_is); (case lc_2 => k_is); (case lv_2 => rfl); (case lfile_2 => decide +kernel); (case lcell_2 => k_is); (case lp_2 => rfl)
      (case kp_2 => k_is); (case sa_2 => k_is); (case ga_2 => k_is); (case gg_2 => k_is); (case ca_2 => k_is); (case nf_2 => (intro f e; cases e))
    case r3 =>
      refine' WT.raw_mk (p := WT.XPos.mk ⟨23, 17, 23, 21⟩ WT.p0 ⟨24, 8, 24, 13⟩ ⟨24, 8, 24, 15⟩ ⟨24, 8, 24, 24⟩ ⟨24, 25, 24, 59⟩ ⟨24, 8, 24, 60⟩ ⟨24, 8, 24, 60⟩ WT.p0 WT.p0 WT.p0 WT.p0) (text := "the arguments do not make a form") (qual := "InvalidForm.__init__") KX G A WT.xkin_val (WT.cls_mk ?lB_3) ?iB_3 (fun f e => nomatch e) (fun f e => nomatch e) (by decide) ?lp_3 ?ns_3 ?xL_3 ?iC_3 ?l_3 ?c_3 ?lc_3 ?lv_3 ?lfile_3 ?lcell_3 ?kp_3 ?sa_3 ?ga_3 ?gg_3 ?ca_3 ?nf_3
      (case ns_3 => k_is); (case xL_3 => k_is); (case lB_3 => k_is); (case iB_3 => k_is); (case iC_3 => k_is); (case l_3 => k_is); (case c_3 => k_is); (case lc_3 => k_is); (case lv_3 => rfl); (case lfile_3 => decide +kernel); (case lcell_3 => k_is); (case lp_3 => rfl)
      (case kp_3 => k_is); (case sa_3 => k_is); (case ga_3 => k_is); (case gg_3 => k_is); (case ca_3 => k_is); (case nf_3 => (intro f e; cases e))
    case r4 =>
      refine' WT.raw_mk (p := WT.XPos.mk ⟨27, 17, 27, 21⟩ WT.p0 ⟨28, 8, 28, 13⟩ ⟨28, 8, 28, 15⟩ ⟨28, 8, 28, 24⟩ ⟨28, 25, 28, 55⟩ ⟨28, 8, 28, 56⟩ ⟨28, 8, 28, 56⟩ WT.p0 WT.p0 WT.p0 WT.p0) (text := "the value is not such a text") (qual := "InvalidText.__init__") KX G A WT.xkin_val (WT.cls_mk ?lB_4) ?iB_4 (fun f e => nomatch e) (fun f e => nomatch e) (by decide) ?lp_4 ?ns_4 ?xL_4 ?iC_4 ?l_4 ?c_4 ?lc_4 ?lv_4 ?lfile_4 ?lcell_4 ?kp_4 ?sa_4 ?ga_4 ?gg_4 ?ca_4 ?nf_4
      (case ns_4 => k_is); (case xL_4 => k_is); (case lB_4 => k_is); (case iB_4 => k_is); (case iC_4 => k_is); (case l_4 => k_is); (case c_4 => k_is); (case lc_4 => k_is); (case lv_4 => rfl); (case lfile_4 => decide +kernel); (case lcell_4 => k_is); (case lp_4 => rfl)
      (case kp_4 => k_is); (case sa_4 => k_is); (case ga_4 => k_is); (case gg_4 => k_is); (case ca_4 => k_is); (case nf_4 => (intro f e; cases e))
    case r5 =>
      refine' WT.raw_mk (p := WT.XPos.mk ⟨31, 17, 31, 21⟩ WT.p0 ⟨32, 8, 32, 13⟩ ⟨32, 8, 32, 15⟩ ⟨32, 8, 32, 24⟩ ⟨32, 25, 32, 53⟩ ⟨32, 8, 32, 54⟩ ⟨32, 8, 32, 54⟩ WT.p0 WT.p0 WT.p0 WT.p0) (text := "the value is not a command") (qual := "InvalidCommand.__init__") KX G A WT.xkin_val (WT.cls_mk ?lB_5) ?iB_5 (fun f e => nomatch e) (fun f e => nomatch e) (by decide) ?lp_5 ?ns_5 ?xL_5 ?iC_5 ?l_5 ?c_5 ?lc_5 ?lv_5 ?lfile_5 ?lcell_5 ?kp_5 ?sa_5 ?ga_5 ?gg_5 ?ca_5 ?nf_5
      (case ns_5 => k_is); (case xL_5 => k_is); (case lB_5 => k_is); (case iB_5 => k_is); (case iC_5 => k_is); (case l_5 => k_is); (case c_5 => k_is); (case lc_5 => k_is); (case lv_5 => rfl); (case lfile_5 => decide +kernel); (case lcell_5 => k_is); (case lp_5 => rfl)
      (case kp_5 => k_is); (case sa_5 => k_is); (case ga_5 => k_is); (case gg_5 => k_is); (case ca_5 => k_is); (case nf_5 => (intro f e; cases e))
    case r6 =>
      refine' WT.raw_mk (p := WT.XPos.mk ⟨35, 17, 35, 21⟩ WT.p0 ⟨36, 8, 36, 13⟩ ⟨36, 8, 36, 15⟩ ⟨36, 8, 36, 24⟩ ⟨36, 25, 36, 77⟩ ⟨36, 8, 36, 78⟩ ⟨36, 8, 36, 78⟩ WT.p0 WT.p0 WT.p0 WT.p0) (text := "the value is not a shape or bounds of these tables") (qual := "InvalidShape.__init__") KX G A WT.xkin_val (WT.cls_mk ?lB_6) ?iB_6 (fun f e => nomatch e) (fun f e => nomatch e) (by decide) ?lp_6 ?ns_6 ?xL_6 ?iC_6 ?l_6 ?c_6 ?lc_6 ?lv_6 ?lfile_6 ?lcell_6 ?kp_6 ?sa_6 ?ga_6 ?gg_6 ?ca_6 ?nf_6
      (case ns_6 => k_is); (case xL_6 => k_is); (case lB_6 => k_is); (case iB_6 => k_is); (case iC_6 => k_is); (case l_6 => k_is); (case c_6 => k_is); (case lc_6 => k_is); (case lv_6 => rfl); (case lfile_6 => decide +kernel); (case lcell_6 => k_is); (case lp_6 => rfl)
      (case kp_6 => k_is); (case sa_6 => k_is); (case ga_6 => k_is); (case gg_6 => k_is); (case ca_6 => k_is); (case nf_6 => (intro f e; cases e))
    case r7 =>
      refine' WT.raw_mk (p := WT.XPos.mk ⟨39, 17, 39, 21⟩ WT.p0 ⟨40, 8, 40, 13⟩ ⟨40, 8, 40, 15⟩ ⟨40, 8, 40, 24⟩ ⟨40, 25, 40, 59⟩ ⟨40, 8, 40, 60⟩ ⟨40, 8, 40, 60⟩ WT.p0 WT.p0 WT.p0 WT.p0) (text := "there is no room for another one") (qual := "Full.__init__") KX G A WT.xkin_val (WT.cls_mk ?lB_7) ?iB_7 (fun f e => nomatch e) (fun f e => nomatch e) (by decide) ?lp_7 ?ns_7 ?xL_7 ?iC_7 ?l_7 ?c_7 ?lc_7 ?lv_7 ?lfile_7 ?lcell_7 ?kp_7 ?sa_7 ?ga_7 ?gg_7 ?ca_7 ?nf_7
      (case ns_7 => k_is); (case xL_7 => k_is); (case lB_7 => k_is); (case iB_7 => k_is); (case iC_7 => k_is); (case l_7 => k_is); (case c_7 => k_is); (case lc_7 => k_is); (case lv_7 => rfl); (case lfile_7 => decide +kernel); (case lcell_7 => k_is); (case lp_7 => rfl)
      (case kp_7 => k_is); (case sa_7 => k_is); (case ga_7 => k_is); (case gg_7 => k_is); (case ca_7 => k_is); (case nf_7 => (intro f e; cases e))
    case r8 =>
      refine' WT.raw_mk (p := WT.XPos.mk ⟨14, 17, 14, 21⟩ ⟨14, 23, 14, 29⟩ ⟨15, 8, 15, 13⟩ ⟨15, 8, 15, 15⟩ ⟨15, 8, 15, 24⟩ ⟨15, 25, 15, 66⟩ ⟨15, 8, 15, 67⟩ ⟨15, 8, 15, 67⟩ ⟨16, 8, 16, 12⟩ ⟨16, 8, 16, 19⟩ ⟨16, 22, 16, 28⟩ ⟨16, 8, 16, 28⟩) (text := "the value is not a change of the tables") (qual := "InvalidChange.__init__") KX G A WT.xkin_val (WT.cls_mk ?lB_8) ?iB_8 (fun f e => by cases e; exact WT.fld_change) (fun f e => by cases e; exact ⟨by decide +kernel, by decide +kernel, by decide +kernel, by decide +kernel, by decide +kernel⟩) (by decide) ?lp_8 ?ns_8 ?xL_8 ?iC_8 ?l_8 ?c_8 ?lc_8 ?lv_8 ?lfile_8 ?lcell_8 ?kp_8 ?sa_8 ?ga_8 ?gg_8 ?ca_8 ?nf_8
      (case ns_8 => k_is); (case xL_8 => k_is); (case lB_8 => k_is); (case iB_8 => k_is); (case iC_8 => k_is); (case l_8 => k_is); (case c_8 => k_is); (case lc_8 => k_is); (case lv_8 => rfl); (case lfile_8 => decide +kernel); (case lcell_8 => k_is); (case lp_8 => rfl)
      (case kp_8 => k_is); (case sa_8 => k_is); (case ga_8 => k_is); (case gg_8 => k_is); (case ca_8 => k_is); (case nf_8 => (intro f e; cases e; k_is))
    case r9 =>
      refine' WT.raw_mk (p := WT.XPos.mk ⟨43, 17, 43, 21⟩ ⟨43, 23, 43, 27⟩ ⟨44, 8, 44, 13⟩ ⟨44, 8, 44, 15⟩ ⟨44, 8, 44, 24⟩ ⟨44, 25, 44, 68⟩ ⟨44, 8, 44, 69⟩ ⟨44, 8, 44, 69⟩ ⟨45, 8, 45, 12⟩ ⟨45, 8, 45, 17⟩ ⟨45, 20, 45, 24⟩ ⟨45, 8, 45, 24⟩) (text := "there is already a replica with this name") (qual := "NameTaken.__init__") KX G A WT.xkin_val (WT.cls_mk ?lB_9) ?iB_9 (fun f e => by cases e; exact WT.fld_name) (fun f e => by cases e; exact ⟨by decide +kernel, by decide +kernel, by decide +kernel, by decide +kernel, by decide +kernel⟩) (by decide) ?lp_9 ?ns_9 ?xL_9 ?iC_9 ?l_9 ?c_9 ?lc_9 ?lv_9 ?lfile_9 ?lcell_9 ?kp_9 ?sa_9 ?ga_9 ?gg_9 ?ca_9 ?nf_9
      (case ns_9 => k_is); (case xL_9 => k_is); (case lB_9 => k_is); (case iB_9 => k_is); (case iC_9 => k_is); (case l_9 => k_is); (case c_9 => k_is); (case lc_9 => k_is); (case lv_9 => rfl); (case lfile_9 => decide +kernel); (case lcell_9 => k_is); (case lp_9 => rfl)
      (case kp_9 => k_is); (case sa_9 => k_is); (case ga_9 => k_is); (case gg_9 => k_is); (case ca_9 => k_is); (case nf_9 => (intro f e; cases e; k_is))
    case r10 =>
      refine' WT.raw_mk (p := WT.XPos.mk ⟨48, 17, 48, 21⟩ ⟨48, 23, 48, 29⟩ ⟨49, 8, 49, 13⟩ ⟨49, 8, 49, 15⟩ ⟨49, 8, 49, 24⟩ ⟨49, 25, 49, 68⟩ ⟨49, 8, 49, 69⟩ ⟨49, 8, 49, 69⟩ ⟨50, 8, 50, 12⟩ ⟨50, 8, 50, 19⟩ ⟨50, 22, 50, 28⟩ ⟨50, 8, 50, 28⟩) (text := "the constraint has an answer in the store") (qual := "Broken.__init__") KX G A WT.xkin_val (WT.cls_mk ?lB_10) ?iB_10 (fun f e => by cases e; exact WT.fld_number) (fun f e => by cases e; exact ⟨by decide +kernel, by decide +kernel, by decide +kernel, by decide +kernel, by decide +kernel⟩) (by decide) ?lp_10 ?ns_10 ?xL_10 ?iC_10 ?l_10 ?c_10 ?lc_10 ?lv_10 ?lfile_10 ?lcell_10 ?kp_10 ?sa_10 ?ga_10 ?gg_10 ?ca_10 ?nf_10
      (case ns_10 => k_is); (case xL_10 => k_is); (case lB_10 => k_is); (case iB_10 => k_is); (case iC_10 => k_is); (case l_10 => k_is); (case c_10 => k_is); (case lc_10 => k_is); (case lv_10 => rfl); (case lfile_10 => decide +kernel); (case lcell_10 => k_is); (case lp_10 => rfl)
      (case kp_10 => k_is); (case sa_10 => k_is); (case ga_10 => k_is); (case gg_10 => k_is); (case ca_10 => k_is); (case nf_10 => (intro f e; cases e; k_is))
    case r11 =>
      refine' WT.raw_mk (p := WT.XPos.mk ⟨53, 17, 53, 21⟩ ⟨53, 23, 53, 30⟩ ⟨54, 8, 54, 13⟩ ⟨54, 8, 54, 15⟩ ⟨54, 8, 54, 24⟩ ⟨54, 25, 54, 53⟩ ⟨54, 8, 54, 54⟩ ⟨54, 8, 54, 54⟩ ⟨55, 8, 55, 12⟩ ⟨55, 8, 55, 20⟩ ⟨55, 23, 55, 30⟩ ⟨55, 8, 55, 30⟩) (text := "constraints bar the change") (qual := "Barred.__init__") KX G A WT.xkin_val (WT.cls_mk ?lB_11) ?iB_11 (fun f e => by cases e; exact WT.fld_numbers) (fun f e => by cases e; exact ⟨by decide +kernel, by decide +kernel, by decide +kernel, by decide +kernel, by decide +kernel⟩) (by decide) ?lp_11 ?ns_11 ?xL_11 ?iC_11 ?l_11 ?c_11 ?lc_11 ?lv_11 ?lfile_11 ?lcell_11 ?kp_11 ?sa_11 ?ga_11 ?gg_11 ?ca_11 ?nf_11
      (case ns_11 => k_is); (case xL_11 => k_is); (case lB_11 => k_is); (case iB_11 => k_is); (case iC_11 => k_is); (case l_11 => k_is); (case c_11 => k_is); (case lc_11 => k_is); (case lv_11 => rfl); (case lfile_11 => decide +kernel); (case lcell_11 => k_is); (case lp_11 => rfl)
      (case kp_11 => k_is); (case sa_11 => k_is); (case ga_11 => k_is); (case gg_11 => k_is); (case ca_11 => k_is); (case nf_11 => (intro f e; cases e; k_is))
    case r12 =>
      refine' WT.raw_mk (p := WT.XPos.mk ⟨58, 17, 58, 21⟩ ⟨58, 23, 58, 27⟩ ⟨59, 8, 59, 13⟩ ⟨59, 8, 59, 15⟩ ⟨59, 8, 59, 24⟩ ⟨59, 25, 59, 60⟩ ⟨59, 8, 59, 61⟩ ⟨59, 8, 59, 61⟩ ⟨60, 8, 60, 12⟩ ⟨60, 8, 60, 17⟩ ⟨60, 20, 60, 24⟩ ⟨60, 8, 60, 24⟩) (text := "no order of the sessions is right") (qual := "NoOrder.__init__") KX G A WT.xkin_val (WT.cls_mk ?lB_12) ?iB_12 (fun f e => by cases e; exact WT.fld_tree) (fun f e => by cases e; exact ⟨by decide +kernel, by decide +kernel, by decide +kernel, by decide +kernel, by decide +kernel⟩) (by decide) ?lp_12 ?ns_12 ?xL_12 ?iC_12 ?l_12 ?c_12 ?lc_12 ?lv_12 ?lfile_12 ?lcell_12 ?kp_12 ?sa_12 ?ga_12 ?gg_12 ?ca_12 ?nf_12
      (case ns_12 => k_is); (case xL_12 => k_is); (case lB_12 => k_is); (case iB_12 => k_is); (case iC_12 => k_is); (case l_12 => k_is); (case c_12 => k_is); (case lc_12 => k_is); (case lv_12 => rfl); (case lfile_12 => decide +kernel); (case lcell_12 => k_is); (case lp_12 => rfl)
      (case kp_12 => k_is); (case sa_12 => k_is); (case ga_12 => k_is); (case gg_12 => k_is); (case ca_12 => k_is); (case nf_12 => (intro f e; cases e; k_is))
    case r13 =>
      refine' WT.raw_mk (p := WT.XPos.mk ⟨65, 17, 65, 21⟩ ⟨65, 23, 65, 27⟩ ⟨66, 8, 66, 13⟩ ⟨66, 8, 66, 15⟩ ⟨66, 8, 66, 24⟩ ⟨66, 25, 66, 59⟩ ⟨66, 8, 66, 60⟩ ⟨66, 8, 66, 60⟩ ⟨67, 8, 67, 12⟩ ⟨67, 8, 67, 17⟩ ⟨67, 20, 67, 24⟩ ⟨67, 8, 67, 24⟩) (text := "there is no table with this name") (qual := "UnknownTable.__init__") KX G A WT.xkin_key (WT.cls_mk ?lB_13) ?iB_13 (fun f e => by cases e; exact WT.fld_name) (fun f e => by cases e; exact ⟨by decide +kernel, by decide +kernel, by decide +kernel, by decide +kernel, by decide +kernel⟩) (by decide) ?lp_13 ?ns_13 ?xL_13 ?iC_13 ?l_13 ?c_13 ?lc_13 ?lv_13 ?lfile_13 ?lcell_13 ?kp_13 ?sa_13 ?ga_13 ?gg_13 ?ca_13 ?nf_13
      (case ns_13 => k_is); (case xL_13 => k_is); (case lB_13 => k_is); (case iB_13 => k_is); (case iC_13 => k_is); (case l_13 => k_is); (case c_13 => k_is); (case lc_13 => k_is); (case lv_13 => rfl); (case lfile_13 => decide +kernel); (case lcell_13 => k_is); (case lp_13 => rfl)
      (case kp_13 => k_is); (case sa_13 => k_is); (case ga_13 => k_is); (case gg_13 => k_is); (case ca_13 => k_is); (case nf_13 => (intro f e; cases e; k_is))
    case r14 =>
      refine' WT.raw_mk (p := WT.XPos.mk ⟨70, 17, 70, 21⟩ ⟨70, 23, 70, 26⟩ ⟨71, 8, 71, 13⟩ ⟨71, 8, 71, 15⟩ ⟨71, 8, 71, 24⟩ ⟨71, 25, 71, 47⟩ ⟨71, 8, 71, 48⟩ ⟨71, 8, 71, 48⟩ ⟨72, 8, 72, 12⟩ ⟨72, 8, 72, 16⟩ ⟨72, 19, 72, 22⟩ ⟨72, 8, 72, 22⟩) (text := "the row is not there") (qual := "UnknownRow.__init__") KX G A WT.xkin_key (WT.cls_mk ?lB_14) ?iB_14 (fun f e => by cases e; exact WT.fld_row) (fun f e => by cases e; exact ⟨by decide +kernel, by decide +kernel, by decide +kernel, by decide +kernel, by decide +kernel⟩) (by decide) ?lp_14 ?ns_14 ?xL_14 ?iC_14 ?l_14 ?c_14 ?lc_14 ?lv_14 ?lfile_14 ?lcell_14 ?kp_14 ?sa_14 ?ga_14 ?gg_14 ?ca_14 ?nf_14
      (case ns_14 => k_is); (case xL_14 => k_is); (case lB_14 => k_is); (case iB_14 => k_is); (case iC_14 => k_is); (case l_14 => k_is); (case c_14 => k_is); (case lc_14 => k_is); (case lv_14 => rfl); (case lfile_14 => decide +kernel); (case lcell_14 => k_is); (case lp_14 => rfl)
      (case kp_14 => k_is); (case sa_14 => k_is); (case ga_14 => k_is); (case gg_14 => k_is); (case ca_14 => k_is); (case nf_14 => (intro f e; cases e; k_is))
    case r15 =>
      refine' WT.raw_mk (p := WT.XPos.mk ⟨75, 17, 75, 21⟩ ⟨75, 23, 75, 29⟩ ⟨76, 8, 76, 13⟩ ⟨76, 8, 76, 15⟩ ⟨76, 8, 76, 24⟩ ⟨76, 25, 76, 63⟩ ⟨76, 8, 76, 64⟩ ⟨76, 8, 76, 64⟩ ⟨77, 8, 77, 12⟩ ⟨77, 8, 77, 19⟩ ⟨77, 22, 77, 28⟩ ⟨77, 8, 77, 28⟩) (text := "no standing question has this number") (qual := "UnknownNumber.__init__") KX G A WT.xkin_key (WT.cls_mk ?lB_15) ?iB_15 (fun f e => by cases e; exact WT.fld_number) (fun f e => by cases e; exact ⟨by decide +kernel, by decide +kernel, by decide +kernel, by decide +kernel, by decide +kernel⟩) (by decide) ?lp_15 ?ns_15 ?xL_15 ?iC_15 ?l_15 ?c_15 ?lc_15 ?lv_15 ?lfile_15 ?lcell_15 ?kp_15 ?sa_15 ?ga_15 ?gg_15 ?ca_15 ?nf_15
      (case ns_15 => k_is); (case xL_15 => k_is); (case lB_15 => k_is); (case iB_15 => k_is); (case iC_15 => k_is); (case l_15 => k_is); (case c_15 => k_is); (case lc_15 => k_is); (case lv_15 => rfl); (case lfile_15 => decide +kernel); (case lcell_15 => k_is); (case lp_15 => rfl)
      (case kp_15 => k_is); (case sa_15 => k_is); (case ga_15 => k_is); (case gg_15 => k_is); (case ca_15 => k_is); (case nf_15 => (intro f e; cases e; k_is))
    case r16 =>
      refine' WT.raw_mk (p := WT.XPos.mk ⟨80, 17, 80, 21⟩ ⟨80, 23, 80, 27⟩ ⟨81, 8, 81, 13⟩ ⟨81, 8, 81, 15⟩ ⟨81, 8, 81, 24⟩ ⟨81, 25, 81, 61⟩ ⟨81, 8, 81, 62⟩ ⟨81, 8, 81, 62⟩ ⟨82, 8, 82, 12⟩ ⟨82, 8, 82, 17⟩ ⟨82, 20, 82, 24⟩ ⟨82, 8, 82, 24⟩) (text := "there is no replica with this name") (qual := "UnknownReplica.__init__") KX G A WT.xkin_key (WT.cls_mk ?lB_16) ?iB_16 (fun f e => by cases e; exact WT.fld_name) (fun f e => by cases e; exact ⟨by decide +kernel, by decide +kernel, by decide +kernel, by decide +kernel, by decide +kernel⟩) (by decide) ?lp_16 ?ns_16 ?xL_16 ?iC_16 ?l_16 ?c_16 ?lc_16 ?lv_16 ?lfile_16 ?lcell_16 ?kp_16 ?sa_16 ?ga_16 ?gg_16 ?ca_16 ?nf_16
      (case ns_16 => k_is); (case xL_16 => k_is); (case lB_16 => k_is); (case iB_16 => k_is); (case iC_16 => k_is); (case l_16 => k_is); (case c_16 => k_is); (case lc_16 => k_is); (case lv_16 => rfl); (case lfile_16 => decide +kernel); (case lcell_16 => k_is); (case lp_16 => rfl)
      (case kp_16 => k_is); (case sa_16 => k_is); (case ga_16 => k_is); (case gg_16 => k_is); (case ca_16 => k_is); (case nf_16 => (intro f e; cases e; k_is))
    case nd => decide
    case d_draw =>
      refine' WT.def_mk KX G ?a_draw ?l_draw ?c_draw ?k_draw (fun _ _ _ _ _ _ us hl => match us, hl with | [_, _], _ => rfl)
      (case a_draw => k_is); (case l_draw => k_is); (case c_draw => k_is); (case k_draw => k_is)
    case d_pick =>
      refine' WT.def_mk KX G ?a_pick ?l_pick ?c_pick ?k_pick (fun _ _ _ _ _ _ us hl => match us, hl with | [_, _], _ => rfl)
      (case a_pick => k_is); (case l_pick => k_is); (case c_pick => k_is); (case k_pick => k_is)
    case d_plain =>
      refine' WT.def_mk KX G ?a_plain ?l_plain ?c_plain ?k_plain (fun _ _ _ _ _ _ us hl => match us, hl with | [_], _ => rfl)
      (case a_plain => k_is); (case l_plain => k_is); (case c_plain => k_is); (case k_plain => k_is)
    case d_value =>
      refine' WT.def_mk KX G ?a_value ?l_value ?c_value ?k_value (fun _ _ _ _ _ _ us hl => match us, hl with | [_, _], _ => rfl)
      (case a_value => k_is); (case l_value => k_is); (case c_value => k_is); (case k_value => k_is)
    case d_bare =>
      refine' WT.def_mk KX G ?a_bare ?l_bare ?c_bare ?k_bare (fun _ _ _ _ _ _ us hl => match us, hl with | [_], _ => rfl)
      (case a_bare => k_is); (case l_bare => k_is); (case c_bare => k_is); (case k_bare => k_is)
    case d_made =>
      refine' WT.def_mk KX G ?a_made ?l_made ?c_made ?k_made (fun _ _ _ _ _ _ us hl => match us, hl with | [_, _], _ => rfl)
      (case a_made => k_is); (case l_made => k_is); (case c_made => k_is); (case k_made => k_is)
    case d_byName =>
      refine' WT.def_mk KX G ?a_byName ?l_byName ?c_byName ?k_byName (fun _ _ _ _ _ _ us hl => match us, hl with | [_, _], _ => rfl)
      (case a_byName => k_is); (case l_byName => k_is); (case c_byName => k_is); (case k_byName => k_is)
    case d_held =>
      refine' WT.def_mk KX G ?a_held ?l_held ?c_held ?k_held (fun _ _ _ _ _ _ us hl => match us, hl with | [_, _], _ => rfl)
      (case a_held => k_is); (case l_held => k_is); (case c_held => k_is); (case k_held => k_is)
    case d_marks =>
      refine' WT.def_mk KX G ?a_marks ?l_marks ?c_marks ?k_marks (fun _ _ _ _ _ _ us hl => match us, hl with | [_], _ => rfl)
      (case a_marks => k_is); (case l_marks => k_is); (case c_marks => k_is); (case k_marks => k_is)
    case d_due =>
      refine' WT.def_mk KX G ?a_due ?l_due ?c_due ?k_due (fun _ _ _ _ _ _ us hl => match us, hl with | [_], _ => rfl)
      (case a_due => k_is); (case l_due => k_is); (case c_due => k_is); (case k_due => k_is)
    case d_raised =>
      refine' WT.def_mk KX G ?a_raised ?l_raised ?c_raised ?k_raised (fun _ _ _ _ _ _ us hl => match us, hl with | [_, _, _], _ => rfl)
      (case a_raised => k_is); (case l_raised => k_is); (case c_raised => k_is); (case k_raised => k_is)
    case d_raise =>
      refine' WT.def_mk KX G ?a_raise ?l_raise ?c_raise ?k_raise (fun _ _ _ _ _ _ us hl => match us, hl with | [_, _], _ => rfl)
      (case a_raise => k_is); (case l_raise => k_is); (case c_raise => k_is); (case k_raise => k_is)
    case d_source =>
      refine' WT.def_mk KX G ?a_source ?l_source ?c_source ?k_source (fun _ _ _ _ _ _ us hl => match us, hl with | [_], _ => rfl)
      (case a_source => k_is); (case l_source => k_is); (case c_source => k_is); (case k_source => k_is)
    (case a => k_is); (case l => k_is); (case c => k_is); (case k => k_is)
#print axioms PySem.Challenge.cw_whatturns_k01_errors_holds
