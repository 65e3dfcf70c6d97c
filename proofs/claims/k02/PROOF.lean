import PyProof.Rows.All
import Wide.All
import OpenK.AllK
import Wide.FinOn
import HandS.ForMost
import HandS.ForExc
import HandS.ExcInit
import KE.KExcSuper
import KE.KExcPX
import HandS.More
import HandS.Walk
import HandS.Zip
import HandS.Rev
import HandS.IsInst
import HandS.Deep
import HandS.TupAny
import HandS.Conv
import HandS.Codes
import HandS.Property
import HandS.ExcIs
import HandS.ExcField
import KE.KExcIs
import HandS.Style
import PyProof.SeqIndex
import HandS.OwnEq
import KE.DataEq
import PySem.Challenge.RW_whatturns_k02_tables_rows_and_clashes
import HandS.Text
set_option Elab.async false
set_option linter.all false
set_option autoImplicit false
set_option maxRecDepth 100000
set_option maxHeartbeats 4000000
namespace WT
open PySem PyProof.Rows
/-! ### repr of data: only a dict must not be the module list -/
mutual
inductive RdN (h : Heap) : Value → PyData → Prop
  | non : RdN h .none .none
  | bl (b : Bool) : RdN h (.bool b) (.bool b)
  | int (i : Int) (t : Tok) : RdN h (.int i t) (.int i)
  | str (x : Str) (t : Tok) : RdN h (.str x t) (.str x)
  | lst {a : Addr} {o : Obj} {vs : Array Value} {n : Nat} {xs : List PyData} (h1 : h.get? a = some o) (h2 : o.cls = .type "list") (h3 : o.data = .seq vs n) (h4 : RdNs h vs.toList xs) : RdN h (.ref a) (.list xs)
  | tup {a : Addr} {o : Obj} {vs : Array Value} {n : Nat} {xs : List PyData} (h1 : h.get? a = some o) (h2 : o.cls = .type "tuple") (h3 : o.data = .seq vs n) (h4 : RdNs h vs.toList xs) : RdN h (.ref a) (.tuple xs)
  | dct {a : Addr} {o : Obj} {es : Array DictEntry} {n : Nat} {kvs : List (PyData × PyData)} (h1 : h.get? a = some o) (h2 : o.cls = .type "dict") (h3 : o.data = .dict es n) (h4 : RdNs h (es.toList.map (·.key)) (kvs.map (·.1))) (h5 : RdNs h (es.toList.map (·.val)) (kvs.map (·.2))) (h6 : (a == sysModules) = false) : RdN h (.ref a) (.dict kvs)
inductive RdNs (h : Heap) : List Value → List PyData → Prop
  | nil : RdNs h [] []
  | cons {v : Value} {vs : List Value} {d : PyData} {ds : List PyData} (r : RdN h v d) (rs : RdNs h vs ds) : RdNs h (v :: vs) (d :: ds)
end
section
variable {h : Heap}
mutual
theorem RdN.of : ∀ {v : Value} {d : PyData} {as : List Addr}, Reads h v d as → (∀ a ∈ as, (∃ o vs n, h.get? a = some o ∧ o.data = .seq vs n) ∨ (a == sysModules) = false) → RdN h v d
  | _, _, _, .none, _ => .non
  | _, _, _, .bool b, _ => .bl b
  | _, _, _, .int i t, _ => .int i t
  | _, _, _, .str x t, _ => .str x t
  | _, _, _, .list h1 h2 h3 h4, c => .lst h1 h2 h3 (RdNs.of h4 fun b hb => c b (List.mem_cons_of_mem _ hb))
  | _, _, _, .tuple h1 h2 h3 h4, c => .tup h1 h2 h3 (RdNs.of h4 c)
  | _, _, _, .dict (a := a) h1 h2 h3 h4 h5, c => .dct h1 h2 h3 (RdNs.of h4 fun b hb => c b (List.mem_append_left _ (List.mem_cons_of_mem _ hb))) (RdNs.of h5 fun b hb => c b (List.mem_append_right _ hb)) (by
      rcases c a (List.mem_append_left _ List.mem_cons_self) with ⟨o, vs, n, e1, e2⟩ | q
      · rw [h1] at e1
        cases e1
        rw [h3] at e2
        cases e2
      · exact q)
theorem RdNs.of : ∀ {v : List Value} {d : List PyData} {as : List Addr}, ReadsAll h v d as → (∀ a ∈ as, (∃ o vs n, h.get? a = some o ∧ o.data = .seq vs n) ∨ (a == sysModules) = false) → RdNs h v d
  | _, _, _, .nil, _ => .nil
  | _, _, _, .cons r rs, c => .cons (RdN.of r fun b hb => c b (List.mem_append_left _ hb)) (RdNs.of rs fun b hb => c b (List.mem_append_right _ hb))
end
mutual
theorem RdN.to : ∀ {v : Value} {d : PyData}, RdN h v d → ∃ as, Reads h v d as
  | _, _, .non => ⟨_, .none⟩
  | _, _, .bl b => ⟨_, .bool b⟩
  | _, _, .int i t => ⟨_, .int i t⟩
  | _, _, .str x t => ⟨_, .str x t⟩
  | _, _, .lst h1 h2 h3 h4 => let ⟨_, q⟩ := RdNs.to h4; ⟨_, .list h1 h2 h3 q⟩
  | _, _, .tup h1 h2 h3 h4 => let ⟨_, q⟩ := RdNs.to h4; ⟨_, .tuple h1 h2 h3 q⟩
  | _, _, .dct h1 h2 h3 h4 h5 _ => let ⟨_, q⟩ := RdNs.to h4; let ⟨_, q'⟩ := RdNs.to h5; ⟨_, .dict h1 h2 h3 q q'⟩
theorem RdNs.to : ∀ {v : List Value} {d : List PyData}, RdNs h v d → ∃ as, ReadsAll h v d as
  | _, _, .nil => ⟨_, .nil⟩
  | _, _, .cons r rs => let ⟨_, q⟩ := RdN.to r; let ⟨_, q'⟩ := RdNs.to rs; ⟨_, .cons q q'⟩
end
variable {prog : Program} {w : World}
mutual
/-- shown within other data -/
theorem RdN.under : ∀ {v : Value} {d : PyData}, RdN h v d → d.showable = true → d.shown.length ≤ sizeLine → ∃ bs, ReadAtMost h d.depth bs ∧ ReprK prog w bs h d.depth v d.shown
  | _, _, .non, _, _ => ⟨[], (fun _ z => nomatch z), by rw [PyData.shown]; exact .of_is ReprIs.none _ _ _⟩
  | _, _, .bl b, _, _ => ⟨[], (fun _ z => nomatch z), by rw [PyData.shown]; exact .of_is (ReprIs.bool b) _ _ _⟩
  | _, _, .int i t, s, _ => ⟨[], (fun _ z => nomatch z), by rw [PyData.shown]; exact .of_is (ReprIs.int t (by simpa [PyData.showable] using s)) _ _ _⟩
  | _, _, .str x t, _, z => ⟨[], (fun _ z => nomatch z), by rw [PyData.shown] at z ⊢; exact .of_is (ReprIs.str x t z) _ _ _⟩
  | _, _, .lst (a := a) (vs := vs) (xs := xs) h1 h2 h3 h4, s, z => by
    rw [PyData.shown] at z
    obtain ⟨bs, m, k⟩ := RdNs.under h4 (by simpa [PyData.showable] using s) fun t ht => Nat.le_trans (listText_mem_le ht) z
    obtain ⟨as, q⟩ := RdNs.to h4
    have r : Reads h (.ref a) (.list xs) _ := .list h1 h2 h3 q
    have na := not_mem_of_deeper r (by simp only [PyData.depth]; omega) m
    refine ⟨a :: bs, .cons r (by simp only [PyData.depth]; omega) m, ?_⟩
    rw [PyData.depth, PyData.shown]
    obtain ⟨l⟩ := vs
    cases l with
    | nil =>
      cases (show RdNs h [] xs from h4)
      rw [PyData.shownAll, listText_nil]
      exact ReprK.listEmpty h1 h2 h3
    | cons y l => exact ReprK.list h1 h2 h3 na (by simpa using k.length_eq) fun i u e => k.item i u (by simpa using e)
  | _, _, .tup (a := a) (vs := vs) (xs := xs) h1 h2 h3 h4, s, z => by
    rw [PyData.shown] at z
    obtain ⟨bs, m, k⟩ := RdNs.under h4 (by simpa [PyData.showable] using s) fun t ht => Nat.le_trans (tupleText_mem_le ht) z
    obtain ⟨as, q⟩ := RdNs.to h4
    have r : Reads h (.ref a) (.tuple xs) _ := .tuple h1 h2 h3 q
    refine ⟨a :: bs, .cons r (by simp only [PyData.depth]; omega) m, ?_⟩
    rw [PyData.depth, PyData.shown]
    exact ReprK.tuple h1 h2 h3 (not_mem_of_deeper r (by simp only [PyData.depth]; omega) m) k
  | _, _, .dct (a := a) (es := es) (kvs := kvs) h1 h2 h3 h4 h5 h6, s, z => by
    rw [PyData.shown] at z
    obtain ⟨s1, s2⟩ := PyData.showableKv_split kvs (by simpa [PyData.showable] using s)
    obtain ⟨b1, m1, k1⟩ := RdNs.under h4 s1 fun t ht => by
      obtain ⟨p, hp, hl⟩ := PyData.shownKv_key_le kvs t ht
      exact Nat.le_trans hl (Nat.le_trans (dictText_mem_le hp) z)
    obtain ⟨b2, m2, k2⟩ := RdNs.under h5 s2 fun t ht => by
      obtain ⟨p, hp, hl⟩ := PyData.shownKv_val_le kvs t ht
      exact Nat.le_trans hl (Nat.le_trans (dictText_mem_le hp) z)
    obtain ⟨as1, q1⟩ := RdNs.to h4
    obtain ⟨as2, q2⟩ := RdNs.to h5
    have r : Reads h (.ref a) (.dict kvs) _ := .dict h1 h2 h3 q1 q2
    have m : ReadAtMost h (PyData.depthKv kvs) (b1 ++ b2) := (m1.mono (PyData.depthAll_keys_le kvs)).append (m2.mono (PyData.depthAll_vals_le kvs))
    refine ⟨a :: (b1 ++ b2), .cons r (by simp only [PyData.depth]; omega) m, ?_⟩
    rw [PyData.depth, PyData.shown, PyData.shownKv_eq]
    exact ReprK.dict h1 h2 h3 h6 (not_mem_of_deeper r (by simp only [PyData.depth]; omega) m) (.of_two es.toList _ _ (k1.more_le (fun _ => List.mem_append_left _) (PyData.depthAll_keys_le kvs)) (k2.more_le (fun _ => List.mem_append_right _) (PyData.depthAll_vals_le kvs)))
theorem RdNs.under : ∀ {v : List Value} {d : List PyData}, RdNs h v d → PyData.showableAll d = true → (∀ t ∈ PyData.shownAll d, t.length ≤ sizeLine) → ∃ bs, ReadAtMost h (PyData.depthAll d) bs ∧ ReprAllK prog w bs h (PyData.depthAll d) v (PyData.shownAll d)
  | _, _, .nil, _, _ => ⟨[], (fun _ z => nomatch z), by rw [PyData.shownAll]; exact .nil⟩
  | _, _, .cons (d := d) (ds := ds) r rs, s, z => by
    have s' : d.showable = true ∧ PyData.showableAll ds = true := by simpa [PyData.showableAll] using s
    rw [PyData.shownAll] at z
    obtain ⟨b1, m1, k1⟩ := RdN.under r s'.1 (z _ List.mem_cons_self)
    obtain ⟨b2, m2, k2⟩ := RdNs.under rs s'.2 fun t ht => z t (List.mem_cons_of_mem _ ht)
    refine ⟨b1 ++ b2, (m1.mono ?_).append (m2.mono ?_), ?_⟩
    · rw [PyData.depthAll]
      exact Nat.le_max_left _ _
    · rw [PyData.depthAll]
      exact Nat.le_max_right _ _
    · rw [PyData.depthAll, PyData.shownAll]
      exact .cons ((k1.more fun _ => List.mem_append_left _).level_le (Nat.le_max_left _ _)) (k2.more_le (fun _ => List.mem_append_right _) (Nat.le_max_right _ _))
end
/-- repr(x), x a list, a tuple, a dict -/
theorem repr_N {A : Around} {E : Value → Shared → Prop} {s : Shared} {Q : Value → Shared → Prop} {a : Addr} {d : PyData} (r : RdN s.heap (.ref a) d) (hs : d.showable = true) (hg : A.guards = some []) (hu : A.units + (d.depth + 1) < cLine) (hsz : d.shown.length ≤ sizeLine)
    (hQ : ∀ h' u tk, (∀ b o, s.heap.get? b = some o → h'.get? b = some o) → Q (.str d.shown u) { s with heap := h', toks := tk }) : wpAny (model prog w) A (call (.builtin "repr") [.ref a]) Q E s := by
  obtain ⟨as, rd⟩ := RdN.to r
  have hu1 : A.in1.units + d.depth < cLine := by
    show A.units + 1 + d.depth < cLine
    omega
  cases r with
  | @lst _ o vs n xs h1 h2 h3 h4 =>
    rw [PyData.shown] at hsz
    obtain ⟨bs, m, k⟩ := RdNs.under (prog := prog) (w := w) h4 (by simpa [PyData.showable] using hs) fun t ht => Nat.le_trans (listText_mem_le ht) hsz
    have na := not_mem_of_deeper rd (by simp only [PyData.depth]; omega) m
    rw [PyData.depth] at hu1
    rw [PyData.shown] at hQ
    refine call_repr_slot (by omega) ⟨o, h1, h2⟩ F.slot_list_repr.toG ?_
    obtain ⟨l⟩ := vs
    cases l with
    | nil =>
      cases (show RdNs s.heap [] xs from h4)
      rw [PyData.shownAll, listText_nil] at hQ
      exact call_list_repr_empty ⟨o, h1, h2⟩ h1 h3 ⟨_, _, rfl, hQ s.heap _ _ fun _ _ e => e⟩
    | cons y l => exact call_list_reprK h1 h2 h3 na (by simpa using k.length_eq) (fun i u e => k.item i u (by simpa using e)) hg (fun b _ => Clear.nil b) hu1 (fun _ _ e => e) (fun h' u tk hk => ⟨_, _, rfl, hQ h' u tk hk⟩) hsz
  | @tup _ o vs n xs h1 h2 h3 h4 =>
    rw [PyData.shown] at hsz
    obtain ⟨bs, m, k⟩ := RdNs.under (prog := prog) (w := w) h4 (by simpa [PyData.showable] using hs) fun t ht => Nat.le_trans (tupleText_mem_le ht) hsz
    have na := not_mem_of_deeper rd (by simp only [PyData.depth]; omega) m
    rw [PyData.depth] at hu1
    rw [PyData.shown] at hQ
    exact call_repr_slot (by omega) ⟨o, h1, h2⟩ F.slot_tuple_repr (call_tuple_reprK h1 h2 h3 na k hg (fun b _ => Clear.nil b) hu1 (fun _ _ e => e) (fun h' u tk hk => ⟨_, _, rfl, hQ h' u tk hk⟩) hsz)
  | @dct _ o es n kvs h1 h2 h3 h4 h5 h6 =>
    rw [PyData.shown] at hsz
    obtain ⟨s1, s2⟩ := PyData.showableKv_split kvs (by simpa [PyData.showable] using hs)
    obtain ⟨b1, m1, k1⟩ := RdNs.under (prog := prog) (w := w) h4 s1 fun t ht => by
      obtain ⟨p, hp, hl⟩ := PyData.shownKv_key_le kvs t ht
      exact Nat.le_trans hl (Nat.le_trans (dictText_mem_le hp) hsz)
    obtain ⟨b2, m2, k2⟩ := RdNs.under (prog := prog) (w := w) h5 s2 fun t ht => by
      obtain ⟨p, hp, hl⟩ := PyData.shownKv_val_le kvs t ht
      exact Nat.le_trans hl (Nat.le_trans (dictText_mem_le hp) hsz)
    have m : ReadAtMost s.heap (PyData.depthKv kvs) (b1 ++ b2) := (m1.mono (PyData.depthAll_keys_le kvs)).append (m2.mono (PyData.depthAll_vals_le kvs))
    have na := not_mem_of_deeper rd (by simp only [PyData.depth]; omega) m
    rw [PyData.depth] at hu1
    rw [PyData.shown, PyData.shownKv_eq] at hQ
    exact call_repr_slot (by omega) ⟨o, h1, h2⟩ F.slot_dict_repr (call_dict_reprK h1 h2 h3 h6 na (.of_two es.toList _ _ (k1.more_le (fun _ => List.mem_append_left _) (PyData.depthAll_keys_le kvs)) (k2.more_le (fun _ => List.mem_append_right _) (PyData.depthAll_vals_le kvs))) hg (fun b _ => Clear.nil b) hu1 (fun _ _ e => e) (fun h' u tk hk => ⟨_, _, rfl, hQ h' u tk hk⟩) (by rw [← PyData.shownKv_eq]; exact hsz))
end
end WT
set_option Elab.async false
set_option linter.all false
set_option autoImplicit false
set_option maxRecDepth 100000
set_option maxHeartbeats 4000000
namespace WT
open PySem PySem.W PySem.Calls PyProof.Rows PySem.HandSPX
abbrev keyChain : List Value := [.type "KeyError", .type "LookupError", .type "Exception", .type "BaseException", .type "object"]
abbrev valChain : List Value := [.type "ValueError", .type "Exception", .type "BaseException", .type "object"]
section
variable {prog : Program} {w : World} {A : Around} {E : Value → Shared → Prop} {R : Result → Shared → Prop} {h : Heap} {g : Array GenState} {d : Drawn} {t : Nat} {os : OsState}
variable {nm q : Str} {C N : Addr} {bs bm bmB : List Value} {hdct : Bool} {sn : List Str} {sub : List Value} {ab : Bool} {col : Option Bool} {dd : Option Addr} {k0 k1 k2 k3 k5 : Option Value} {B newId initId : String} {kw : List (Str × Value)}
/-- what is asked of the class's order -/
structure XMro (B : String) (C : Addr) (bm : List Value) : Prop where
  b : (Value.ref C :: bm).contains (.type B) = true
  a : (Value.ref C :: bm).contains (.type "AttributeError") = false
  n : (Value.ref C :: bm).contains (.type "NameError") = false
/-- no keyword, or one -/
def Few (kw : List (Str × Value)) : Prop := kw = [] ∨ ∃ k v, kw = [(k, v)]
theorem x_check_new (F : ExcBaseFacts B newId initId bmB) (o : XMro B C bm) (fw : Few kw) {M : Model} {rest : List Value} {Q : Unit → Shared → Prop}
    (hC : h.get? C = some (excClassObj nm q C N bs bm hdct sn sub ab col dd k0 k1 k2 k3 k5 newId)) (hq : Q () ⟨h, g, d, t, os⟩) : wpAny M A (checkBuiltinCall newId ⟨.ref C :: rest, kw⟩) Q E ⟨h, g, d, t, os⟩ := by
  have ob := o.b
  have star := F.noStar
  rcases fw with rfl | ⟨k, v, rfl⟩
  all_goals
    simp only [checkBuiltinCall, F.newKind, F.newSplit, F.newRow]
    repeat (first
      | refine wpAny_loadPart_at hC ?_
      | (refine wpAny_isSubtype_exc hC ?_; rw [ob])
      | refine wpAny_staticBase_exc hC ?_
      | refine wpAny_madeBy_exc hC ?_
      | simp only [bne_self_eq_false, Bool.false_eq_true, if_false]
      | wp_step)
    exact hq
theorem x_check_call (fw : Few kw) {M : Model} {rest : List Value} {Q : Unit → Shared → Prop} (hC : h.get? C = some (excClassObj nm q C N bs bm hdct sn sub ab col dd k0 k1 k2 k3 k5 newId))
    (hq : Q () ⟨h, g, d, t, os⟩) : wpAny M A (checkBuiltinCall "type.__call__" ⟨.ref C :: rest, kw⟩) Q E ⟨h, g, d, t, os⟩ := by
  have sb := tc_sub
  have ty : (⟨h, g, d, t, os⟩ : Shared).TypeIs (.ref C) "type" := ⟨_, hC, rfl⟩
  rcases fw with rfl | ⟨k, v, rfl⟩
  all_goals
    simp only [checkBuiltinCall, tc_kind, tc_split]
    repeat (any_goals (first
      | assumption
      | with_reducible refine wpAny_loadPart_at hC ?_
      | with_reducible refine wpAny_onRaise ?_
      | with_reducible refine wpAny_map ?_
      | wp_step))
theorem x_new (F : ExcBaseFacts B newId initId bmB) (o : XMro B C bm) (fw : Few kw) {rest : List Value} (hC : h.get? C = some (excClassObj nm q C N bs bm hdct sn sub ab col dd k0 k1 k2 k3 k5 newId)) (hrest : rest.length ≤ sizeLine)
    (hq : R (.ok (.ret (.ref (h.objs.size + 1)))) ⟨(h.push (kdv_tup rest)).push (excO C h.objs.size), g, d, t, os⟩) : codeAny (model prog w) A (.builtin newId ⟨.ref C :: rest, kw⟩) R ⟨h, g, d, t, os⟩ := by
  have en := F.ends
  have ob := o.b
  have oa := o.a
  have on := o.n
  rcases fw with rfl | ⟨k, v, rfl⟩
  all_goals
    refine codeAny_builtinAt F.entry ?_
    unfold Builtin.«BaseException.__new__»
    refine PySem.wpAt_bind ?_
    show PySem.wpAt _ _ _ (stack >>= _) _ _ _
    refine PySem.wpAt_bind (PySem.wpAt_stack fun p below => PySem.wpAt_of_wpAny ?_)
    wp_walk
    refine PySem.wpAt_of_wpAny ?_
    rw [F.owner]
    repeat (first
      | with_reducible refine wpAny_madeHere_exc F.canon hC ?_
      | with_reducible refine wpAny_loadPart_at hC ?_
      | (with_reducible refine wpAny_isSubtype_exc hC ?_; first | rw [ob] | rw [oa] | rw [on])
      | wp_step)
    show R _ _
    rw [Heap.size_push]
    exact hq
theorem x_type_call (F : ExcBaseFacts B newId initId bmB) (o : XMro B C bm) (fw : Few kw) {rest : List Value} {fI : Addr} {Q : Fin → Shared → Prop} (hC : h.get? C = some (excClassObj nm q C N bs bm hdct sn sub ab col dd k0 k1 k2 k3 k5 newId)) (hrest : rest.length ≤ sizeLine)
    (hi : Looks (model prog w) h (typeLookup (.ref C) "__init__") (some (.ref fI))) (hb : ∀ self, Looks (model prog w) h (bindSpecial (.ref fI) self) (.ref fI, [self]))
    (hq : codeAny (model prog w) A (.call (.ref fI) ⟨.ref (h.objs.size + 1) :: rest, kw⟩) (fun r s' => match r with | .ok (.ret v) => v = .none ∧ Q (.done (.ret (.ref (h.objs.size + 1)))) s' | .ok _ => False | .error e => E e s') ⟨(h.push (kdv_tup rest)).push (excO C h.objs.size), g, d, t, os⟩) :
    wpAny (model prog w) A (Builtin.«type.__call__» ⟨.ref C :: rest, kw⟩) Q E ⟨h, g, d, t, os⟩ := by
  repeat (first | with_reducible refine wpAny_loadPart_at hC ?_ | with_reducible refine wpAny_madeBy_exc hC ?_ | wp_step)
  refine codeAny_call_builtin_code (Code.quiet_builtin _ F.quiet) (x_check_new F o fw hC (x_new F o fw hC hrest ?_))
  show wpAny _ _ _ _ _ _
  have keep : ∀ b u, h.get? b = some u → ((h.push (kdv_tup rest)).push (excO C h.objs.size)).get? b = some u := fun b u e => Heap.get?_push_of_some _ (Heap.get?_push_of_some _ e)
  have hC1 := keep _ _ hC
  have got : ((h.push (kdv_tup rest)).push (excO C h.objs.size)).get? (h.objs.size + 1) = some (excO C h.objs.size) := by heap_get
  have own : (Value.ref C :: bm).contains (.ref C) = true := by simp
  have i1 := hi.keeps keep
  have b1 := (hb (.ref (h.objs.size + 1))).keeps keep
  unfold isInstance
  repeat (first | with_reducible refine wpAny_loadPart_at got ?_ | (with_reducible refine wpAny_isSubtype_exc hC1 ?_; rw [own]) | wp_step)
  show wpAny _ _ (typeLookup (.ref C) _) _ _ _
  refine i1.at (wpAny_holding (wpAny_bind (b1.at (wpAny_bind (wpAny_call (codeAny_mono hq fun r s' z => ?_))))))
  rcases r with e | (v | _ | _ | _) <;> first | exact z | exact z.elim | skip
  obtain ⟨rfl, z⟩ := z
  first
    | exact wpAny_pure (wpAny_pure z)
    | (wp_walk; exact z)
/-- C(..), an exception class of the program with an own __init__ -/
theorem x_call (F : ExcBaseFacts B newId initId bmB) (o : XMro B C bm) (fw : Few kw) {rest : List Value} {fI : Addr} (hC : h.get? C = some (excClassObj nm q C N bs bm hdct sn sub ab col dd k0 k1 k2 k3 k5 newId)) (hrest : rest.length ≤ sizeLine)
    (hi : Looks (model prog w) h (typeLookup (.ref C) "__init__") (some (.ref fI))) (hb : ∀ self, Looks (model prog w) h (bindSpecial (.ref fI) self) (.ref fI, [self]))
    (hq : codeAny (model prog w) (A.under (.builtin "type.__call__" ⟨.ref C :: rest, kw⟩)) (.call (.ref fI) ⟨.ref (h.objs.size + 1) :: rest, kw⟩) (InitBack (h.objs.size + 1) R) ⟨(h.push (kdv_tup rest)).push (excO C h.objs.size), g, d, t, os⟩) :
    codeAny (model prog w) A (.call (.ref C) ⟨rest, kw⟩) R ⟨h, g, d, t, os⟩ := by
  have f1 := tc_lookup
  have f2 := tc_bind (.ref C)
  have ty : (⟨h, g, d, t, os⟩ : Shared).TypeIs (.ref C) "type" := ⟨_, hC, rfl⟩
  refine codeAny_of_tree ?_
  show wpAny _ _ (callAny (.ref C) _) _ _ _
  repeat (any_goals (first | assumption | with_reducible refine wpAny_loadPart_at hC ?_ | wp_step))
  refine ⟨rfl, codeAny_call_builtin_at (Code.quiet_builtin _ (by decide +kernel)) entry_typeCall (x_check_call fw hC (x_type_call F o fw hC hrest hi hb (codeAny_mono hq fun r s' z => ?_)))⟩
  rcases r with e | (v | _ | _ | _) <;> exact z
end
end WT
set_option Elab.async false
set_option linter.all false
set_option autoImplicit false
set_option maxRecDepth 100000
set_option maxHeartbeats 4000000
namespace WT
open PySem PySem.W PySem.Calls PyProof.Rows PySem.HandSPX Builtin Builtin.ObjectAttr
/-! ### the text of an error's __init__: super().__init__('..'), and perhaps self.f = f -/
structure XPos where
  a0 : Pos
  a1 : Pos
  p0 : Pos
  p1 : Pos
  p2 : Pos
  p3 : Pos
  p4 : Pos
  p5 : Pos
  q1 : Pos
  q2 : Pos
  q3 : Pos
  q4 : Pos
def xArgs (p : XPos) : Option Str → Arguments
  | none => { posonlyargs := [], args := [{ arg := "self", annotation := none, pos := p.a0 }], vararg := none, kwonlyargs := [], kw_defaults := [], kwarg := none, defaults := [] }
  | some f => { posonlyargs := [], args := [{ arg := "self", annotation := none, pos := p.a0 }, { arg := f, annotation := none, pos := p.a1 }], vararg := none, kwonlyargs := [], kw_defaults := [], kwarg := none, defaults := [] }
def xSuper (p : XPos) (text : Str) : Stmt := .Expr (.Call (.Attribute (.Call (.Name "super" p.p0) [] [] p.p1) "__init__" p.p2) [.Constant (.str text) 0 p.p3] [] p.p4) p.p5
def xBody (p : XPos) (text : Str) : Option Str → List Stmt
  | none => [xSuper p text]
  | some f => [xSuper p text, .Assign [.Attribute (.Name "self" p.q1) f p.q2] (.Name f p.q3) p.q4]
def xScope : Option Str → Scope
  | none => { kind := .function, names := [(PySem.Str.ofString "self", .local), (PySem.Str.ofString "__class__", .free), (PySem.Str.ofString "super", .globalImplicit)], isGenerator := false, isCoroutine := false, more := [] }
  | some f => { kind := .function, names := [(PySem.Str.ofString "self", .local), (f, .local), (PySem.Str.ofString "__class__", .free), (PySem.Str.ofString "super", .globalImplicit)], isGenerator := false, isCoroutine := false, more := [] }
section
variable {prog : Program} {w : World} {A : Around} {E : Value → Shared → Prop} {R : Result → Shared → Prop} {K : Frag} {B newId initId : String} {bmB : List Value}
/-- a built-in __init__ of errors -/
structure XInit (B initId : String) : Prop where
  kind : builtinKind initId = some .slot
  row : Manifest.signature? initId = some ⟨.positional, "*", B, .self, [⟨"args", .varPos, false⟩]⟩
  entry : entryFor table initId = some Builtin.«BaseException.__init__»
  plain : plainId initId = true
  star : (B != "*") = true
theorem xinit_val : XInit "ValueError" "ValueError.__init__" := ⟨by kernel_rfl, by kernel_rfl, PySem.F.excBase_ValueError.initEntry, PySem.F.excBase_ValueError.init.plain, by decide +kernel⟩
theorem xinit_key : XInit "KeyError" "KeyError.__init__" := ⟨by kernel_rfl, by kernel_rfl, (entryFor_alias (id' := "BaseException.__init__")) (by rw [fastTable_eq_tree]; kernel_rfl) (by first | rfl | decide +kernel) (by decide +kernel) (by rw [fastTable_eq_tree]; kernel_rfl), by decide +kernel, by decide +kernel⟩
theorem kxs_key : KxsFacts "KeyError" "KeyError.__init__" := ⟨by show builtinType _ = _; rw [builtinType_eq_fast]; kernel_rfl, by first | kernel_rfl | rfl⟩
theorem store_key : StoreFacts "KeyError" keyChain "object.__setattr__" "object" :=
  { mro := by kernel_rfl, slot := (.of (owner := "object") (n := "__setattr__") (by rw [typeLookup_type, builtinLookup_eq_fast]; kernel_rfl) (by decide +kernel) (by decide +kernel) (by decide +kernel) (by first | exact .inl (by decide +kernel) | exact .inr (by decide +kernel)) (by rw [isSubtype_type]; kernel_rfl)),
    entry := PySem.F.entry_object_sa, kind := by decide +kernel, split := by decide +kernel, hasOwner := by decide +kernel, args := (fun a b c => by unfold argsOk; kernel_rfl), passes := fun self => by kernel_rfl }
/-- the two kinds of errors of the program: below ValueError, below KeyError -/
structure XKind (Bn newId B initId : String) (bmB : List Value) : Prop where
  FB : ∃ i' l', ExcBaseFacts Bn newId i' l'
  XI : XInit B initId
  KF : KxsFacts B initId
  SF : StoreFacts B bmB "object.__setattr__" "object"
theorem xkind_val : XKind "ValueError" "ValueError.__new__" "ValueError" "ValueError.__init__" valChain := ⟨⟨_, _, PySem.F.excBase_ValueError⟩, xinit_val, kxs_ValueError, PySem.F.store_ValueError⟩
theorem xkind_key : XKind "LookupError" "LookupError.__new__" "KeyError" "KeyError.__init__" keyChain := ⟨⟨_, _, PySem.F.excBase_LookupError⟩, xinit_key, kxs_key, store_key⟩
/-- what the written part says of an error's class C, its __init__ at fI -/
structure XCls (prog : Program) (K : Frag) (Bn newId B initId : String) (bmB : List Value) (C fI : Addr) (fld : Option Str) : Prop where
  kd : XKind Bn newId B initId bmB
  cls : ∃ nm q N bs bm sn sub ab col dd k0 k1 k2 k3 k5, K.lookup C = some (excClassObj nm q C N bs bm true sn sub ab col dd k0 k1 k2 k3 k5 newId) ∧ XMro Bn C bm ∧ excTail bmB bm = true ∧ alongIn K "__init__" bm = some (some (.builtin initId))
  iC : findIn K (.ref C) "__init__" = some (some (.ref fI))
  tI : typeIn K (.ref fI) = some (.type "function")
  sB : subIn K (.ref C) (.type B) = some true
  third : nsIn K cStatics "thirdparty.any" = some none
  sa : findIn K (.ref C) "__setattr__" = some (some (.builtin "object.__setattr__"))
  noF : ∀ f, fld = some f → findIn K (.ref C) f = some none
  fn : ∃ (oc : Value) (od : Option Addr) (p : XPos) (text qual : Str) (kV doc pm : Value) (an : Option Addr) (cda cc : Addr) (ct : Value) (osl : Array (Option Value)) (ccl : Value) (cdd : Option Addr) (vs : Array Value) (ccs : Array (Option Value)) (file : Str) (tf : Tok) (cl : Value) (cld : Option Addr) (csl : Array (Option Value)),
    K.lookup fI = some ⟨oc, od, .func (ksFn "__init__" qual (xArgs p fld) (xBody p text fld) (xScope fld) .none kV doc pm an (.ref cda) ct cc), osl⟩ ∧ codeIn K (.ref cda) qual = true ∧
    K.lookup cda = some ⟨ccl, cdd, .fields vs, ccs⟩ ∧ vs[2]? = some (.str file tf) ∧ ((prog.main.file : Str) == file) = true ∧ K.lookup cc = some ⟨cl, cld, .cell (some (.ref C)), csl⟩ ∧ (p.p2.endLine == p.p4.line) = true
  top : (prog.main.scope.names.lookup ("super" : Str)).isSome = false
  okF : ∀ f, fld = some f → ("super" == f) = false ∧ ("__class__" == f) = false ∧ ("self" == f) = false ∧ ((f : Str) == "self") = false ∧ (f == ("__debug__" : Str)) = false
/-- an error as it stands -/
abbrev exNew (C t1 : Addr) (dx : Option Addr) : Obj := { cls := .ref C, dict := dx, data := .fields #[.ref t1, .none, .none, .none, .bool false, .none] }
/-- the globals that matter: super is the built-in -/
structure XGl (h : Heap) : Prop where
  ex : ∃ mg mb, h.Ns mainGlobals mg ∧ mg "super" = none ∧ h.Ns builtinsNs mb ∧ mb "super" = some (.type "super")
theorem x_bound {h : Heap} {g : Array GenState} {d : Drawn} {t : Nat} {os : OsState} {M : Model} {nm q : Str} {C N e : Addr} {oe : Obj} {bs bm : List Value} {hdct : Bool} {sn : List Str} {sub : List Value} {ab : Bool} {col : Option Bool} {dd : Option Addr} {k0 k1 k2 k3 k5 : Option Value} {rest : List Value} {Q : Unit → Shared → Prop} {B initId newId : String}
    (XI : XInit B initId) (hC : h.get? C = some (excClassObj nm q C N bs bm hdct sn sub ab col dd k0 k1 k2 k3 k5 newId)) (he : h.get? e = some oe) (hcls : oe.cls = .ref C) (hq : Q () ⟨h, g, d, t, os⟩) : wpAny M A (checkBoundCall initId ⟨.ref e :: rest, []⟩) Q E ⟨h, g, d, t, os⟩ := by
  have star := XI.star
  simp only [checkBoundCall, XI.kind, XI.row]
  repeat (first
    | (with_reducible refine wpAny_loadPart_at he ?_; rw [hcls])
    | with_reducible refine wpAny_loadPart_at hC ?_
    | wp_step)
  refine wpAny_onRaise ?_
  have nice : ∀ (a b : String) (n : Nat), Bind.check ⟨.positional, "*", B, .self, [⟨"args", .varPos, false⟩]⟩ a b n (List.map (fun y => y.fst) ({ pos := Value.ref e :: rest } : Args).kw) = pure () := fun a b n => check_star_args _ _ _ _ _ _
  rw [nice]
  exact wpAny_pure hq
variable {Bn : String}
theorem call_form {o : Expr} {name : Str} {apos pos cp : Pos} {env : Env} {x : Str} (hp : (apos.endLine == pos.line) = true) (ho : ∀ a b, o ≠ .Name a b) : eval (.Call (.Attribute o name apos) [.Constant (.str x) 0 cp] [] pos) env = (do
    let ov ← attributeBase o name env (eval o env)
    standAt apos.atName
    let (f, first) ← holding [ov] (getMethod ov name (do return (← importBound o env).getD true))
    callWith pos f first (backTo pos (starEach [.Constant (.str x) 0 cp] env)) []) := by
  have few : methodCallForm 1 (backTo pos (starEach [.Constant (.str x) 0 cp] env)) [] = true := by rfl
  have ps : methodCallPos true o env apos pos = pure pos := by
    unfold methodCallPos
    rw [hp]
    rfl
  show (do
    let ov ← attributeBase o name env (eval o env)
    standAt apos.atName
    methodCall o name apos pos env ov 1 (backTo pos (starEach [.Constant (.str x) 0 cp] env)) []) = _
  unfold methodCall
  simp only [few, ps, calleeOf, if_true, pure_bind]
/-- super().__init__('..'): the args laid anew, nothing else -/
theorem x_super {s : Shared} {C fI x t0 L cda cc : Addr} {fld : Option Str} {p : XPos} {text qual : Str} {m : Str → Option Value} {body : List Stmt} {Q : Flow → Shared → Prop} {oc : Value} {od : Option Addr} {kV doc pm : Value} {an : Option Addr} {ct : Value} {osl : Array (Option Value)}
    {ccl : Value} {cdd : Option Addr} {vs : Array Value} {ccs : Array (Option Value)} {file : Str} {tf : Tok} {cl : Value} {cld : Option Addr} {csl : Array (Option Value)}
    (T : XCls prog K Bn newId B initId bmB C fI fld) (X : K.In s.heap) (Gl : XGl s.heap) (hx : s.heap.get? x = some (exNew C t0 none)) (hnx : x ≠ L) (hn : s.heap.Ns L m) (hself : m "self" = some (.ref x))
    (lf : K.lookup fI = some ⟨oc, od, .func (ksFn "__init__" qual (xArgs p fld) (xBody p text fld) (xScope fld) .none kV doc pm an (.ref cda) ct cc), osl⟩) (lc : K.lookup cda = some ⟨ccl, cdd, .fields vs, ccs⟩) (lv : vs[2]? = some (.str file tf)) (lfile : ((prog.main.file : Str) == file) = true)
    (lcell : K.lookup cc = some ⟨cl, cld, .cell (some (.ref C)), csl⟩) (lp : (p.p2.endLine == p.p4.line) = true)
    (h : ∀ h' tk t1, (∀ b o, b ≠ x → s.heap.get? b = some o → h'.get? b = some o) → h'.get? x = some (exNew C t1 none) → Q .next { s with heap := h', toks := tk }) :
    PySem.wpAt (model prog w) A (.func body (ksEnv qual (xScope fld) L fI (.ref cda) cc)) (exec (xSuper p text) (ksEnv qual (xScope fld) L fI (.ref cda) cc)) Q E s := by
  obtain ⟨nm, q, N, bs, bm, sn, sub, ab, col, dd, k0, k1, k2, k3, k5, hC, om, ot, oi⟩ := T.cls
  obtain ⟨mg, mb, hg, hmg, hbl, hmb⟩ := Gl.ex
  have hcl : clsIn K C = some { name := nm, bases := bs, mro := .ref C :: bm, ns := N, qualname := q, hasDict := true, slotNames := sn, subclasses := sub, abstract := ab, collection := col, hasDel := false } := by unfold clsIn; rw [hC] <;> rfl
  have hks : (xScope fld).names.lookup ("super" : Str) = some .globalImplicit := by
    cases fld with
    | none => rfl
    | some f =>
      obtain ⟨o1, o2, o3, _⟩ := T.okF f rfl
      show List.lookup ("super" : Str) [(PySem.Str.ofString "self", NameKind.local), (f, .local), (PySem.Str.ofString "__class__", .free), (PySem.Str.ofString "super", .globalImplicit)] = _
      rw [List.lookup_cons, show (("super" : Str) == PySem.Str.ofString "self") = false by decide +kernel, List.lookup_cons, o1]
      rfl
  have hkc : (xScope fld).names.lookup ("__class__" : Str) = some .free := by
    cases fld with
    | none => rfl
    | some f =>
      obtain ⟨o1, o2, o3, _⟩ := T.okF f rfl
      show List.lookup ("__class__" : Str) [(PySem.Str.ofString "self", NameKind.local), (f, .local), (PySem.Str.ofString "__class__", .free), (PySem.Str.ofString "super", .globalImplicit)] = _
      rw [List.lookup_cons, show (("__class__" : Str) == PySem.Str.ofString "self") = false by decide +kernel, List.lookup_cons, o2]
      rfl
  have hka : (xScope fld).names.lookup ("self" : Str) = some .local := by cases fld <;> rfl
  have hk : (xScope fld).kind = .function := by cases fld <;> rfl
  have hp : ((xArgs p fld).posonlyargs ++ (xArgs p fld).args).head? = some { arg := "self", annotation := none, pos := p.a0 } := by cases fld <;> rfl
  have hI : InstAt s.heap x (exNew C t0 none) C none := ⟨hx, rfl, rfl, trivial⟩
  have hB : Looks (model prog w) s.heap (isInstance (.ref x) (.type B)) true := hI.type.andThen (looks_subIn X T.sB)
  refine ks_wpAt_Expr_any (hi := by unfold interactive; rw [show (ksEnv qual (xScope fld) L fI (.ref cda) cc).scope.kind = .function from hk]; rfl) (hs := by rfl) (ks_wpAt_MethodCall (he := call_form lp fun _ _ => Expr.noConfusion) ?_)
  refine ks_wpAt_super_base (env := ksEnv qual (xScope fld) L fI (.ref cda) cc) hks hkc (by decide +kernel) rfl (X _ _ lf) rfl hp rfl (X _ _ lc) rfl lv lfile T.top ?_
  refine ks_loadName_global hk hks (loadGlobal_builtin (env := ksEnv qual (xScope fld) L fI (.ref cda) cc) hg hmg hbl hmb ⟨rfl, ?_⟩)
  refine wpAny_loadName_free hk hkc rfl ⟨_, X _ _ lcell, rfl⟩ ?_
  refine wpAny_loadName_local hk hka hn hself ?_
  refine ks_wpAny_isType_cls (X _ _ hC) rfl ⟨rfl, ?_⟩
  obtain ⟨hp0, g, d, t, os⟩ := s
  refine ks_wpAny_call_super (X _ _ hC) rfl hx rfl (fun c e => nomatch e) ?_ (fun h1 e1 kk => ?_)
  · exact looks_mroIn X (by unfold mroIn; rw [hcl, Option.bind_some, if_neg (by simp)]; simp)
  have X1 : K.In h1 := X.keeps kk
  refine kxs_getMethod T.kd.KF e1 (looks_opaque X1 T.third) (l₀ := .ref C :: bm) ?_ rfl X1 (by rw [show ((Value.ref C :: bm).dropWhile (· != .ref C)).drop 1 = bm by simp [List.dropWhile_cons]]; exact oi) (hB.keeps kk) (ks_ne X hI hcl) (by decide +kernel) ?_
  · exact fun A Q E s k q => wpAny_bind ((looks_clsIn X1 hcl) A _ E s k (wpAny_pure q))
  have got : (h1.push (kxs_mw initId x)).get? h1.objs.size = some (kxs_mw initId x) := Heap.get?_push_at rfl rfl
  have k2 : ∀ b o, hp0.get? b = some o → (h1.push (kxs_mw initId x)).get? b = some o := fun b o e => Heap.get?_push_of_some _ (kk b o e)
  show wpAny _ _ (callWith p.p4 (.ref h1.objs.size) [] (backTo p.p4 (starEach (Expr.Constant (.str text) 0 p.p3 :: []) (ksEnv qual (xScope fld) L fI (.ref cda) cc))) []) _ _ _
  refine kxs_callWith (i := initId) (x := x) (by rfl) ?_
  refine evalArgs_plain ?_
  refine Calls.spliced_cons (Calls.Constant_str (k := 0) (pos := p.p3) (Calls.spliced_nil ⟨got, ?_⟩))
  -- the call of the wrapper
  refine wpAny_call (codeAny_of_tree ?_)
  show wpAny _ A.in1 (callAny (.ref h1.objs.size) ⟨[.str text (t + 1)], []⟩) _ _ _
  simp only [callAny]
  refine wpAny_bind (wpAny_load got ?_)
  simp only [kxs_mw, show (Value.type "method-wrapper" == Value.type "method" || Value.type "method-wrapper" == Value.type "builtin_function_or_method" || Value.type "method-wrapper" == Value.type "method-wrapper") = true by decide, if_true]
  refine KFB.if_so (by decide) ?_
  refine wpAny_bind (x_bound T.kd.XI (k2 _ _ (X _ _ hC)) (k2 _ _ hx) rfl ?_)
  refine wpAny_bind (wpAny_pure (wpAny_pure ?_))
  refine ⟨plainId_quiet T.kd.XI.plain _, codeAny_builtin T.kd.XI.entry ?_⟩
  refine exc_init_tree (cls := .ref C) (t0 := t0) (dv := none) (c2 := .none) (c3 := .none) (b4 := .bool false) (k2 _ _ hx) (by rw [sizeLine_eq]; show 1 ≤ 16777216; decide) fun h' ka kx kt => ?_
  exact h h' _ _ (fun b o hb e => ka b o hb (k2 b o e)) kx
/-- self.f = v on an error that has no attribute yet -/
theorem x_store {hp : Heap} {g : Array GenState} {d : Drawn} {t : Nat} {os : OsState} {name : Str} {tk : Tok} {v : Value} {x C t1 : Addr} {cd : ClassData} (SF : StoreFacts B bmB "object.__setattr__" "object")
    (X : K.In hp) (hx : hp.get? x = some (exNew C t1 none)) (hcd : clsIn K C = some cd) (hm : ∃ bm, cd.mro = .ref C :: bm ∧ excTail bmB bm = true) (hh : cd.hasDict = true) (ha : findIn K (.ref C) name = some none)
    (hq : ∀ h' tk' dx, (∀ b o, b ≠ x → hp.get? b = some o → h'.get? b = some o) → hp.objs.size ≤ dx → dx ≠ x → h'.get? x = some (exNew C t1 (some dx)) → h'.Ns1 dx (fun y => if y = name then some v else none) → R (.ok (.ret .none)) ⟨h', g, d, tk', os⟩) :
    codeAny (model prog w) A (.call (.builtin "object.__setattr__") ⟨[.ref x, .str name tk, v], []⟩) R ⟨hp, g, d, t, os⟩ := by
  have I : InstAt hp x (exNew C t1 none) C none := ⟨hx, rfl, rfl, trivial⟩
  obtain ⟨bm, hmr, htl⟩ := hm
  have SO := PySem.F.store_object
  have ne : x ≠ hp.objs.size := Nat.ne_of_lt (Heap.lt_size hx)
  have hob : cd.mro.contains (.type "object") = true := by
    rw [hmr, List.contains_cons, excTail_contains "object" bm htl, SF.hasOwner, Bool.or_true]
  have hne : cd.mro.isEmpty = false := by rw [hmr]; rfl
  have isO : Looks (model prog w) hp (isInstance (.ref x) (.type "object")) true := I.type.andThen (looks_mroIn X (by unfold mroIn; rw [hcd, Option.bind_some, hne, hob]; rfl))
  have lm : Looks (model prog w) hp (mroOf (.ref C)) cd.mro := (looks_clsIn X hcd).andThen .now
  have l3 : Looks (model prog w) hp (storeTaker? none) none := .now
  have lc : Looks (model prog w) hp (classData C) cd := looks_clsIn X hcd
  have pass : refuseLoop (.ref x) "__setattr__" cd.mro = pure () := by
    rw [hmr, refuseLoop_ref]
    exact excTail_pass _ (SF.passes _) bm htl
  refine codeAny_call_builtin SO.slot.plain SO.entry (check_slot SO.kind SO.split isO (SO.args (.ref x) (.str name tk) v) ?_)
  rw [osa_eq, refuse_eq]
  refine wpAny_bind (wpAny_bind (I.type.at (wpAny_bind (lm.at ?_))))
  rw [pass]
  refine wpAny_pure (wpAny_bind (I.type.at (wpAny_bind ((looks_findIn X ha).at (wpAny_bind (l3.at ?_))))))
  show wpAny _ _ (storeInOwnDict (.ref x) (.ref C) (.str name tk) name v false) _ _ _
  obtain ⟨nm, bs, mro, ns, qn, hd, sn, sb, ab, col, del⟩ := cd
  dsimp only at hh
  subst hh
  unfold storeInOwnDict ownDictForStores
  repeat (first
    | with_reducible refine store_in_new ?_ ?_
    | with_reducible refine wpAny_loadPart_at hx ?_
    | with_reducible refine lc.at ?_
    | wp_step)
  · exact ⟨_, #[], _, (Heap.get?_update_ne _ _ _ _ ne.symm).trans (Heap.get?_push_at rfl rfl), rfl, fun e he => absurd he (by simp), fun _ => rfl⟩
  · intro h' tk' hn' hs
    have hx1 : (hp.push { cls := .type "dict", data := .dict #[] }).get? x = some (exNew C t1 none) := Heap.get?_push_of_some _ hx
    refine hq h' tk' hp.objs.size (fun b o hb ho => ?_) (Nat.le_refl _) ne.symm ?_ hn'
    · exact (hs.2 b (Nat.ne_of_lt (Heap.lt_size ho))).trans ((Heap.get?_update_ne _ _ _ _ hb).trans (Heap.get?_push_of_some _ ho))
    · exact (hs.2 x ne).trans (Heap.get?_update_self _ hx1 rfl)
end
end WT
set_option Elab.async false
set_option linter.all false
set_option autoImplicit false
set_option maxRecDepth 100000
set_option maxHeartbeats 4000000
namespace WT
open PySem PySem.W PySem.Calls PyProof.Rows PySem.HandSPX
section
variable {prog : Program} {w : World} {A : Around} {E : Value → Shared → Prop} {R : Result → Shared → Prop} {K : Frag} {Bn B newId initId : String} {bmB : List Value} {C fI : Addr}
/-- how an __init__ with one parameter binds -/
def xFd (p : XPos) (text qual : Str) (kV doc pm : Value) (an : Option Addr) (cda : Addr) (ct : Value) (cc : Addr) (fld : Option Str) : FuncData := ksFn "__init__" qual (xArgs p fld) (xBody p text fld) (xScope fld) .none kV doc pm an (.ref cda) ct cc
/-- the arguments behind self, and what the fields are told -/
inductive XArg : Option Str → List Value → List (Str × Value) → Option Value → Prop
  | non : XArg none [] [] none
  | pos {f : Str} {v : Value} : XArg (some f) [v] [] (some v)
  | kw {f : Str} {v : Value} : XArg (some f) [] [(f, v)] (some v)
def xBinds (x : Addr) : Option Str → Option Value → List (Str × Value)
  | some f, some v => [("self", .ref x), (f, v)]
  | _, _ => [("self", .ref x)]
/-- what a field's name must be -/
structure XFld (f : Str) : Prop where
  pos : ∀ p text qual kV doc pm an cda ct cc x v, bindArgs (xFd p text qual kV doc pm an cda ct cc (some f)) ⟨[.ref x, v], []⟩ = pure (xBinds x (some f) (some v))
  kw : ∀ p text qual kV doc pm an cda ct cc x v, bindArgs (xFd p text qual kV doc pm an cda ct cc (some f)) ⟨[.ref x], [(f, v)]⟩ = pure (xBinds x (some f) (some v))
  loc : ∀ y ∈ xBinds 0 (some f) (some .none), (xScope (some f)).names.lookup y.1 = some .local
theorem fld_change : XFld "change" := ⟨fun _ _ _ _ _ _ _ _ _ _ _ _ => rfl, fun _ _ _ _ _ _ _ _ _ _ _ _ => rfl, by decide +kernel⟩
theorem fld_name : XFld "name" := ⟨fun _ _ _ _ _ _ _ _ _ _ _ _ => rfl, fun _ _ _ _ _ _ _ _ _ _ _ _ => rfl, by decide +kernel⟩
theorem fld_number : XFld "number" := ⟨fun _ _ _ _ _ _ _ _ _ _ _ _ => rfl, fun _ _ _ _ _ _ _ _ _ _ _ _ => rfl, by decide +kernel⟩
theorem fld_numbers : XFld "numbers" := ⟨fun _ _ _ _ _ _ _ _ _ _ _ _ => rfl, fun _ _ _ _ _ _ _ _ _ _ _ _ => rfl, by decide +kernel⟩
theorem fld_tree : XFld "tree" := ⟨fun _ _ _ _ _ _ _ _ _ _ _ _ => rfl, fun _ _ _ _ _ _ _ _ _ _ _ _ => rfl, by decide +kernel⟩
theorem fld_row : XFld "row" := ⟨fun _ _ _ _ _ _ _ _ _ _ _ _ => rfl, fun _ _ _ _ _ _ _ _ _ _ _ _ => rfl, by decide +kernel⟩
theorem bind_none {p : XPos} {text qual : Str} {kV doc pm : Value} {an : Option Addr} {cda : Addr} {ct : Value} {cc x : Addr} : bindArgs (xFd p text qual kV doc pm an cda ct cc none) ⟨[.ref x], []⟩ = pure (xBinds x none none) := rfl
/-- self.f = f -/
theorem x_tail {s : Shared} {h₀ h' : Heap} {tk : Nat} {x t0 t1 cda cc : Addr} {f : Str} {v : Value} {p : XPos} {qual : Str} {body : List Stmt} {Q : Flow → Shared → Prop} {nm q : Str} {N : Addr} {bs bm : List Value} {sn : List Str} {sub : List Value} {ab : Bool} {col : Option Bool} {dd : Option Addr} {k0 k1 k2 k3 k5 : Option Value}
    (T : XCls prog K Bn newId B initId bmB C fI (some f)) (hF : ∀ f', some f = some f' → XFld f') (X0 : K.In h₀) (hk : ∀ b o, s.heap.get? b = some o → h₀.get? b = some o) (nxL : x ≠ s.heap.objs.size) (hxK : ∀ o, K.lookup x ≠ some o)
    (hC : K.lookup C = some (excClassObj nm q C N bs bm true sn sub ab col dd k0 k1 k2 k3 k5 newId)) (ot : excTail bmB bm = true) (hx : s.heap.get? x = some (exNew C t0 none))
    (hnL : ∀ {h' : Heap}, (∀ b o, b ≠ x → h₀.get? b = some o → h'.get? b = some o) → h'.Ns s.heap.objs.size (fun y => (xBinds x (some f) (some v)).reverse.lookup y))
    (ka : ∀ b o, b ≠ x → h₀.get? b = some o → h'.get? b = some o) (kx : h'.get? x = some (exNew C t1 none))
    (h : ∀ h2 tk2 d, (∀ b o, b ≠ x → s.heap.get? b = some o → h2.get? b = some o) → h2.get? x = some (exNew C t1 (some d)) → s.heap.objs.size ≤ d → h2.Ns1 d (fun y => if y = f then some v else none) → Q .next { s with heap := h2, toks := tk2 }) :
    PySem.wpAt (model prog w) A (.func body (ksEnv qual (xScope (some f)) s.heap.objs.size fI (.ref cda) cc)) (execs [.Assign [.Attribute (.Name "self" p.q1) f p.q2] (.Name f p.q3) p.q4] (ksEnv qual (xScope (some f)) s.heap.objs.size fI (.ref cda) cc)) Q E { s with heap := h', toks := tk } := by
  obtain ⟨o1, o2, o3, o4, o5⟩ := T.okF f rfl
  have hcl : clsIn K C = some { name := nm, bases := bs, mro := .ref C :: bm, ns := N, qualname := q, hasDict := true, slotNames := sn, subclasses := sub, abstract := ab, collection := col, hasDel := false } := by unfold clsIn; rw [hC] <;> rfl
  have X1 : K.In h' := fun b o e => ka b o (fun z => hxK o (z ▸ e)) (X0 _ _ e)
  have n1 := hnL ka
  have hlf : (xScope (some f)).names.lookup f = some .local := (hF f rfl).loc (f, .none) (by simp [xBinds])
  have lkf : (fun y => (xBinds x (some f) (some v)).reverse.lookup y) f = some v := by
    show List.lookup f [(f, v), (_, _)] = _
    rw [List.lookup_cons, show (f == f) = true by simp]
  have lks : (fun y => (xBinds x (some f) (some v)).reverse.lookup y) "self" = some (.ref x) := by
    show List.lookup ("self" : Str) [(f, v), (_, _)] = _
    rw [List.lookup_cons, show (("self" : Str) == f) = false from o3]
    rfl
  refine ks_wpAt_execs_cons (ks_wpAt_Assign_Attr (PySem.wpAt_of_wpAny (wpAny_Name (wpAny_loadName_local rfl hlf n1 lkf (wpAny_Name (wpAny_loadName_local rfl rfl n1 lks ?_))) o5)))
  refine set_plain X1 (ox := exNew C t1 none) (od := none) ⟨kx, rfl, rfl, trivial⟩ T.sa ?_
  refine x_store T.kd.SF X1 kx hcl ⟨bm, rfl, ot⟩ rfl (T.noF f rfl) fun h2 tk2 dx k1 k2 k3 k4 k5 => ?_
  refine PySem.wpAt_of_wpAny (wpAny_execs_nil (h h2 tk2 dx (fun b o hb e => k1 b o hb (ka b o hb (hk b o e))) k4 (Nat.le_trans ?_ k2) k5))
  obtain ⟨oL, es, ep, e1, _⟩ := n1
  exact Nat.le_of_lt (Heap.lt_size e1)
/-- the call of an error's __init__ -/
theorem x_init {s : Shared} {x t0 : Addr} {fld : Option Str} {rest : List Value} {kw : List (Str × Value)} {ov : Option Value} (T : XCls prog K Bn newId B initId bmB C fI fld) (hF : ∀ f, fld = some f → XFld f) (hroom : A.depth < recursionLimit)
    (X : K.In s.heap) (Gl : XGl s.heap) (hlim : s.heap.NoLimit) (hxK : ∀ o, K.lookup x ≠ some o) (hx : s.heap.get? x = some (exNew C t0 none)) (ha : XArg fld rest kw ov)
    (h : ∀ h' tk t1 dx, (∀ b o, b ≠ x → s.heap.get? b = some o → h'.get? b = some o) → h'.get? x = some (exNew C t1 dx) →
      (match fld, ov with | some f, some v => ∃ d, dx = some d ∧ s.heap.objs.size ≤ d ∧ h'.Ns1 d (fun y => if y = f then some v else none) | _, _ => dx = none) → R (.ok (.ret .none)) { s with heap := h', toks := tk }) :
    codeAny (model prog w) A (.call (.ref fI) ⟨.ref x :: rest, kw⟩) R s := by
  obtain ⟨oc, od, p, text, qual, kV, doc, pm, an, cda, cc, ct, osl, ccl, cdd, vs, ccs, file, tf, cl, cld, csl, lf, lcd, lc, lv, lfile, lcell, lp⟩ := T.fn
  obtain ⟨nm, q, N, bs, bm, sn, sub, ab, col, dd, k0, k1, k2, k3, k5, hC, om, ot, oi⟩ := id T.cls
  have hcl : clsIn K C = some { name := nm, bases := bs, mro := .ref C :: bm, ns := N, qualname := q, hasDict := true, slotNames := sn, subclasses := sub, abstract := ab, collection := col, hasDel := false } := by unfold clsIn; rw [hC] <;> rfl
  have hbind : bindArgs (xFd p text qual kV doc pm an cda ct cc fld) ⟨.ref x :: rest, kw⟩ = pure (xBinds x fld ov) := by
    cases ha with
    | non => exact bind_none
    | pos => exact (hF _ rfl).pos _ _ _ _ _ _ _ _ _ _ _ _
    | kw => exact (hF _ rfl).kw _ _ _ _ _ _ _ _ _ _ _ _
  have hloc : ∀ y ∈ xBinds x fld ov, (xScope fld).names.lookup y.1 = some .local := by
    cases ha with
    | non => intro y hy; simp only [xBinds, List.mem_singleton] at hy; subst hy; rfl
    | pos => intro y hy; have z := (hF _ rfl).loc; simp only [xBinds, List.mem_cons, List.not_mem_nil, or_false, forall_eq_or_imp, forall_eq] at z hy; rcases hy with rfl | rfl <;> first | exact z.1 | exact z.2
    | kw => intro y hy; have z := (hF _ rfl).loc; simp only [xBinds, List.mem_cons, List.not_mem_nil, or_false, forall_eq_or_imp, forall_eq] at z hy; rcases hy with rfl | rfl <;> first | exact z.1 | exact z.2
  have hcell : ∀ y ∈ (xScope fld).names, y.2 ≠ .cell := by
    cases fld with
    | none => decide
    | some f => intro y hy; simp only [xScope, List.mem_cons, List.not_mem_nil, or_false] at hy; rcases hy with rfl | rfl | rfl | rfl <;> exact fun z => nomatch z
  refine ks_codeAny_call_defAt (fd := xFd p text qual kV doc pm an cda ct cc fld) (body := xBody p text fld) (binds := xBinds x fld ov) hroom (X _ _ lf) rfl hlim (codeRec_of X lcd) rfl (BindsTo.of_eq hbind) hcell hloc (fun h₀ hns hk => ?_) (by cases fld <;> rfl) (by cases fld <;> rfl) (by cases fld <;> rfl)
  have hself : (fun y => (xBinds x fld ov).reverse.lookup y) "self" = some (.ref x) := by
    cases ha with
    | non => rfl
    | pos => obtain ⟨_, _, o3, _⟩ := T.okF _ rfl; show List.lookup ("self" : Str) [(_, _), (_, _)] = _; rw [List.lookup_cons, show (("self" : Str) == _) = false from o3]; rfl
    | kw => obtain ⟨_, _, o3, _⟩ := T.okF _ rfl; show List.lookup ("self" : Str) [(_, _), (_, _)] = _; rw [List.lookup_cons, show (("self" : Str) == _) = false from o3]; rfl
  have X0 : K.In h₀ := X.keeps hk
  have nxL : x ≠ s.heap.objs.size := Nat.ne_of_lt (Heap.lt_size hx)
  obtain ⟨mg, mb, hg, hmg, hbl, hmb⟩ := Gl.ex
  have Gl0 : XGl h₀ := ⟨mg, mb, hg.at fun o q => hk _ _ q, hmg, hbl.at fun o q => hk _ _ q, hmb⟩
  have hnL : ∀ {h' : Heap}, (∀ b o, b ≠ x → h₀.get? b = some o → h'.get? b = some o) → h'.Ns s.heap.objs.size (fun y => (xBinds x fld ov).reverse.lookup y) := fun {h'} ka => hns.at fun o q => ka _ _ nxL.symm q
  cases ha with
  | non =>
    refine ks_wpAt_execs_cons (x_super T X0 Gl0 (hk _ _ hx) nxL hns hself lf lc lv lfile lcell lp fun h' tk t1 ka kx => ?_)
    exact PySem.wpAt_of_wpAny (wpAny_execs_nil (h h' tk t1 none (fun b o hb e => ka b o hb (hk b o e)) kx rfl))
  | @pos f v =>
    refine ks_wpAt_execs_cons (x_super T X0 Gl0 (hk _ _ hx) nxL hns hself lf lc lv lfile lcell lp fun h' tk t1 ka kx => ?_)
    exact x_tail T hF X0 hk nxL hxK hC ot hx hnL ka kx fun h2 tk2 d z1 z2 z3 z4 => h h2 tk2 t1 (some d) z1 z2 ⟨d, rfl, z3, z4⟩
  | @kw f v =>
    refine ks_wpAt_execs_cons (x_super T X0 Gl0 (hk _ _ hx) nxL hns hself lf lc lv lfile lcell lp fun h' tk t1 ka kx => ?_)
    exact x_tail T hF X0 hk nxL hxK hC ot hx hnL ka kx fun h2 tk2 d z1 z2 z3 z4 => h h2 tk2 t1 (some d) z1 z2 ⟨d, rfl, z3, z4⟩
end
end WT
set_option Elab.async false
set_option linter.all false
set_option autoImplicit false
set_option maxRecDepth 100000
set_option maxHeartbeats 4000000
namespace WT
open PySem PySem.W PySem.Calls PyProof.Rows PySem.HandSPX
section
variable {prog : Program} {w : World} {A : Around} {E : Value → Shared → Prop} {R : Result → Shared → Prop} {K : Frag} {Bn B newId initId : String} {bmB : List Value} {C fI : Addr}
/-- an error of C at e, its attribute as told -/
def Made (h h' : Heap) (C e : Addr) (fld : Option Str) (ov : Option Value) : Prop :=
  (∀ b o, h.get? b = some o → h'.get? b = some o) ∧ h.objs.size ≤ e ∧ ∃ t1 dx, h'.get? e = some (exNew C t1 dx) ∧
    (match fld, ov with | some f, some v => ∃ d, dx = some d ∧ h.objs.size ≤ d ∧ d ≠ e ∧ h'.Ns1 d (fun y => if y = f then some v else none) | _, _ => dx = none)
theorem x_made {h : Heap} {g : Array GenState} {d : Drawn} {t : Nat} {os : OsState} {fld : Option Str} {rest : List Value} {kw : List (Str × Value)} {ov : Option Value} (T : XCls prog K Bn newId B initId bmB C fI fld) (hF : ∀ f, fld = some f → XFld f)
    (hroom : A.depth + 1 < recursionLimit) (X : K.In h) (Gl : XGl h) (hlim : h.NoLimit) (ha : XArg fld rest kw ov)
    (hq : ∀ h' tk e, Made h h' C e fld ov → R (.ok (.ret (.ref e))) ⟨h', g, d, tk, os⟩) : codeAny (model prog w) A (.call (.ref C) ⟨rest, kw⟩) R ⟨h, g, d, t, os⟩ := by
  obtain ⟨nm, q, N, bs, bm, sn, sub, ab, col, dd, k0, k1, k2, k3, k5, hC, om, ot, oi⟩ := T.cls
  obtain ⟨i', l', F⟩ := T.kd.FB
  have fw : Few kw := by cases ha <;> first | exact Or.inl rfl | exact Or.inr ⟨_, _, rfl⟩
  have hr : rest.length ≤ sizeLine := by rw [sizeLine_eq]; cases ha <;> simp
  have keep : ∀ b o, h.get? b = some o → ((h.push (kdv_tup rest)).push (excO C h.objs.size)).get? b = some o := fun b o e => Heap.get?_push_of_some _ (Heap.get?_push_of_some _ e)
  have got : ((h.push (kdv_tup rest)).push (excO C h.objs.size)).get? (h.objs.size + 1) = some (exNew C h.objs.size none) := by heap_get
  obtain ⟨mg, mb, hg, hmg, hbl, hmb⟩ := Gl.ex
  refine x_call F om fw (X _ _ hC) hr (looks_findIn X T.iC) (fun self => bind_fn X self T.tI) ?_
  refine x_init T hF ?_ (X.keeps keep) ⟨mg, mb, hg.at fun o q => keep _ _ q, hmg, hbl.at fun o q => keep _ _ q, hmb⟩ (hlim.keeps keep) (fun o z => ?_) got ha fun h' tk t1 dx ka kx kd => ⟨rfl, hq h' tk _ ⟨fun b o e => ka b o (Nat.ne_of_lt (Nat.lt_succ_of_lt (Heap.lt_size e))) (keep b o e), Nat.le_succ _, t1, dx, kx, ?_⟩⟩
  · exact hroom
  · exact absurd (Heap.lt_size (X _ _ z)) (Nat.not_lt.mpr (Nat.le_succ _))
  · cases ha with
    | non => exact kd
    | _ =>
      obtain ⟨d', e1, e2, e3⟩ := kd
      simp only [Heap.size_push] at e2
      exact ⟨d', e1, Nat.le_trans (Nat.le_add_right _ 2) e2, Nat.ne_of_gt e2, e3⟩
end
end WT
set_option Elab.async false
set_option linter.all false
set_option autoImplicit false
set_option maxRecDepth 100000
set_option maxHeartbeats 4000000
namespace WR
open PySem L2
/-- data: trees, without addresses. fz: a list that is read alone (the script, a constant of the module); obj: an instance that is never changed, by its class's name; loc: an object that may change, by its number; glo: a class or def of the module -/
inductive D where
  | non | bl (b : Bool) | int (i : Int) | str (x : Str)
  | tup (xs : List D) | pr (xs : List D) | lst (xs : List D) | fz (xs : List D) | dct (kvs : List (Key × D))
  | obj (c : Str) (fs : List (Str × D))
  | loc (l : Nat) | ty (n : String) | glo (x : Str)
/-- an object that may change -/
inductive IO where
  | lst (ds : List D) | dct (kvs : List (Key × D)) | obj (c : Str) (fs : List (Str × D))
abbrev IH := List IO
/-- how data lie: Z: addresses that no tree leans on; m: where the objects lie that may change -/
structure Wd where
  K : PySem.W.Frag
  mg : Str → Option Value
  Z : Addr → Prop
  m : List Addr
def KL (K : PySem.W.Frag) (a : Addr) (xs : List V) : Prop :=
  ∃ (o : Obj) (its : Array Value) (n : Nat), K.lookup a = some o ∧ o.cls = .type "list" ∧ o.dict = none ∧ o.data = .seq its n ∧ its.size ≤ sizeLine ∧ Vals xs its.toList
def KT (K : PySem.W.Frag) (a : Addr) (xs : List V) : Prop :=
  ∃ (o : Obj) (its : Array Value) (n : Nat), K.lookup a = some o ∧ o.cls = .type "tuple" ∧ o.dict = none ∧ o.data = .seq its n ∧ its.size ≤ sizeLine ∧ Vals xs its.toList
def MqL (w : Wd) (H : Hp) (a : Addr) (xs : List V) : Prop := (Rd H a (.lst xs) ∧ ¬ w.Z a) ∨ KL w.K a xs
/-- a tuple whose object has no dict of its own -/
def TN (H : Hp) (a : Addr) (xs : List V) : Prop := ∃ o : Obj, H a = some (.frz o (.tup xs)) ∧ o.dict = none
def MqT (w : Wd) (H : Hp) (a : Addr) (xs : List V) : Prop := (TN H a xs ∧ ¬ w.Z a) ∨ KT w.K a xs
theorem MqL.sq {w : Wd} {H : Hp} {a : Addr} {xs : List V} (h : MqL w H a xs) : SqL w.K H a xs := h.imp (·.1) id
theorem MqT.sq {w : Wd} {H : Hp} {a : Addr} {xs : List V} (h : MqT w H a xs) : SqT w.K H a xs := h.imp (fun ⟨⟨o, h, _⟩, _⟩ => .inr ⟨o, h⟩) fun ⟨o, its, n, h1, h2, _, h3⟩ => ⟨o, its, n, h1, h2, h3⟩
mutual
inductive Dt (w : Wd) (H : Hp) : V → D → Prop
  | non : Dt w H .non .non
  | bl (b : Bool) : Dt w H (.bl b) (.bl b)
  | int (i : Int) : Dt w H (.int i) (.int i)
  | str (x : Str) : Dt w H (.str x) (.str x)
  | lst {a : Addr} {xs : List V} {ds : List D} : H a = some (.lst xs) → ¬ w.Z a → DtL w H xs ds → Dt w H (.ref a) (.lst ds)
  | fz {a : Addr} {xs : List V} {ds : List D} : MqL w H a xs → DtL w H xs ds → Dt w H (.ref a) (.fz ds)
  | tup {a : Addr} {xs : List V} {ds : List D} : MqT w H a xs → DtL w H xs ds → Dt w H (.ref a) (.tup ds)
  | pr {a : Addr} {xs : List V} {ds : List D} : H a = some (.tup xs) → ¬ w.Z a → DtL w H xs ds → Dt w H (.ref a) (.pr ds)
  | dct {a : Addr} {xs : List (Key × V)} {ds : List (Key × D)} : H a = some (.dK xs) → ¬ w.Z a → DtK w H xs ds → Dt w H (.ref a) (.dct ds)
  | obj {a C dx : Addr} {c : Str} {xs : List (Str × V)} {ds : List (Str × D)} : w.mg c = some (.ref C) → H a = some (.ins C dx xs) → ¬ w.Z a → DtF w H xs ds → Dt w H (.ref a) (.obj c ds)
  | loc {a : Addr} {l : Nat} : w.m[l]? = some a → Dt w H (.ref a) (.loc l)
  | ty (n : String) : Dt w H (.ty n) (.ty n)
  | glo {a : Addr} {x : Str} : w.mg x = some (.ref a) → Dt w H (.ref a) (.glo x)
inductive DtL (w : Wd) (H : Hp) : List V → List D → Prop
  | nil : DtL w H [] []
  | cons {v : V} {vs : List V} {d : D} {ds : List D} : Dt w H v d → DtL w H vs ds → DtL w H (v :: vs) (d :: ds)
inductive DtK (w : Wd) (H : Hp) : List (Key × V) → List (Key × D) → Prop
  | nil : DtK w H [] []
  | cons {k : Key} {v : V} {vs : List (Key × V)} {d : D} {ds : List (Key × D)} : Dt w H v d → DtK w H vs ds → DtK w H ((k, v) :: vs) ((k, d) :: ds)
inductive DtF (w : Wd) (H : Hp) : List (Str × V) → List (Str × D) → Prop
  | nil : DtF w H [] []
  | cons {k : Str} {v : V} {vs : List (Str × V)} {d : D} {ds : List (Str × D)} : Dt w H v d → DtF w H vs ds → DtF w H ((k, v) :: vs) ((k, d) :: ds)
end
/-- a state from which data are carried over to another -/
structure To (w : Wd) (H : Hp) (w' : Wd) (H' : Hp) : Prop where
  K : w'.K = w.K
  mg : w'.mg = w.mg
  m : ∀ (l : Nat) (a : Addr), w.m[l]? = some a → w'.m[l]? = some a
  ext : ∀ a o, H a = some o → ¬ w.Z a → H' a = some o
  z : ∀ a, ¬ w.Z a → (∃ o, H a = some o) → ¬ w'.Z a
section
variable {w w' w2 : Wd} {H H' H2 : Hp}
theorem To.refl : To w H w H := ⟨rfl, rfl, fun _ _ h => h, fun _ _ h _ => h, fun _ n _ => n⟩
theorem To.trans (a : To w H w' H') (b : To w' H' w2 H2) : To w H w2 H2 :=
  ⟨b.K.trans a.K, b.mg.trans a.mg, fun l x h => b.m l x (a.m l x h), fun x o h n => b.ext x o (a.ext x o h n) (a.z x n ⟨o, h⟩), fun x n ⟨o, h⟩ => b.z x (a.z x n ⟨o, h⟩) ⟨o, a.ext x o h n⟩⟩
theorem rd_to {a : Addr} {u : HO} (t : To w H w' H') (n : ¬ w.Z a) (h : Rd H a u) : Rd H' a u := by
  rcases h with h | ⟨o, h⟩
  · exact .inl (t.ext _ _ h n)
  · exact .inr ⟨o, t.ext _ _ h n⟩
theorem rd_there {a : Addr} {u : HO} (h : Rd H a u) : ∃ o, H a = some o := h.elim (fun h => ⟨_, h⟩) fun ⟨o, h⟩ => ⟨_, h⟩
theorem MqL.to {a : Addr} {xs : List V} (t : To w H w' H') (h : MqL w H a xs) : MqL w' H' a xs := h.imp (fun ⟨r, n⟩ => ⟨rd_to t n r, t.z a n (rd_there r)⟩) fun k => t.K ▸ k
theorem MqT.to {a : Addr} {xs : List V} (t : To w H w' H') (h : MqT w H a xs) : MqT w' H' a xs := h.imp (fun ⟨⟨o, r, e⟩, n⟩ => ⟨⟨o, t.ext _ _ r n, e⟩, t.z a n ⟨_, r⟩⟩) fun k => t.K ▸ k
mutual
theorem Dt.to (t : To w H w' H') : ∀ {v : V} {d : D}, Dt w H v d → Dt w' H' v d
  | _, _, .non => .non
  | _, _, .bl b => .bl b
  | _, _, .int i => .int i
  | _, _, .str x => .str x
  | _, _, .lst h n r => .lst (t.ext _ _ h n) (t.z _ n ⟨_, h⟩) (DtL.to t r)
  | _, _, .fz h r => .fz (h.to t) (DtL.to t r)
  | _, _, .tup h r => .tup (h.to t) (DtL.to t r)
  | _, _, .pr h n r => .pr (t.ext _ _ h n) (t.z _ n ⟨_, h⟩) (DtL.to t r)
  | _, _, .dct h n r => .dct (t.ext _ _ h n) (t.z _ n ⟨_, h⟩) (DtK.to t r)
  | _, _, .obj g h n r => .obj (t.mg ▸ g) (t.ext _ _ h n) (t.z _ n ⟨_, h⟩) (DtF.to t r)
  | _, _, .loc h => .loc (t.m _ _ h)
  | _, _, .ty n => .ty n
  | _, _, .glo h => .glo (t.mg ▸ h)
theorem DtL.to (t : To w H w' H') : ∀ {v : List V} {d : List D}, DtL w H v d → DtL w' H' v d
  | _, _, .nil => .nil
  | _, _, .cons h r => .cons (Dt.to t h) (DtL.to t r)
theorem DtK.to (t : To w H w' H') : ∀ {v : List (Key × V)} {d : List (Key × D)}, DtK w H v d → DtK w' H' v d
  | _, _, .nil => .nil
  | _, _, .cons h r => .cons (Dt.to t h) (DtK.to t r)
theorem DtF.to (t : To w H w' H') : ∀ {v : List (Str × V)} {d : List (Str × D)}, DtF w H v d → DtF w' H' v d
  | _, _, .nil => .nil
  | _, _, .cons h r => .cons (Dt.to t h) (DtF.to t r)
end
theorem DtL.length : ∀ {v : List V} {d : List D}, DtL w H v d → v.length = d.length
  | _, _, .nil => rfl
  | _, _, .cons _ r => congrArg (· + 1) (DtL.length r)
theorem DtK.length : ∀ {v : List (Key × V)} {d : List (Key × D)}, DtK w H v d → v.length = d.length
  | _, _, .nil => rfl
  | _, _, .cons _ r => congrArg (· + 1) (DtK.length r)
theorem DtF.length : ∀ {v : List (Str × V)} {d : List (Str × D)}, DtF w H v d → v.length = d.length
  | _, _, .nil => rfl
  | _, _, .cons _ r => congrArg (· + 1) (DtF.length r)
theorem DtL.get : ∀ {v : List V} {d : List D} {i : Nat} {x : D}, DtL w H v d → d[i]? = some x → ∃ u, v[i]? = some u ∧ Dt w H u x
  | _, _, _, _, .nil, e => by simp at e
  | _, _, 0, _, .cons h _, e => by
    simp at e
    subst e
    exact ⟨_, rfl, h⟩
  | _, _, i + 1, _, .cons _ r, e => by
    obtain ⟨u, h1, h2⟩ := DtL.get (i := i) r (by simpa using e)
    exact ⟨u, by simpa using h1, h2⟩
theorem DtL.get' : ∀ {v : List V} {d : List D} {i : Nat} {x : V}, DtL w H v d → v[i]? = some x → ∃ u, d[i]? = some u ∧ Dt w H x u
  | _, _, _, _, .nil, e => by simp at e
  | _, _, 0, _, .cons h _, e => by
    simp at e
    subst e
    exact ⟨_, rfl, h⟩
  | _, _, i + 1, _, .cons _ r, e => by
    obtain ⟨u, h1, h2⟩ := DtL.get' (i := i) r (by simpa using e)
    exact ⟨u, by simpa using h1, h2⟩
theorem DtL.append : ∀ {v u : List V} {d e : List D}, DtL w H v d → DtL w H u e → DtL w H (v ++ u) (d ++ e)
  | _, _, _, _, .nil, r => r
  | _, _, _, _, .cons h r, r' => .cons h (DtL.append r r')
theorem DtL.take : ∀ {v : List V} {d : List D} (n : Nat), DtL w H v d → DtL w H (v.take n) (d.take n)
  | _, _, 0, _ => .nil
  | _, _, _ + 1, .nil => .nil
  | _, _, n + 1, .cons h r => .cons h (DtL.take n r)
theorem DtL.drop : ∀ {v : List V} {d : List D} (n : Nat), DtL w H v d → DtL w H (v.drop n) (d.drop n)
  | _, _, 0, r => r
  | _, _, _ + 1, .nil => .nil
  | _, _, n + 1, .cons _ r => DtL.drop n r
theorem DtL.reverse {v : List V} {d : List D} (h : DtL w H v d) : DtL w H v.reverse d.reverse := by
  induction v generalizing d with
  | nil => cases h; exact .nil
  | cons x xs ih =>
    cases h with
    | cons h r =>
      rw [List.reverse_cons, List.reverse_cons]
      exact (ih r).append (.cons h .nil)
theorem DtL.set : ∀ {v : List V} {d : List D} {x : V} {y : D} (i : Nat), Dt w H x y → DtL w H v d → DtL w H (v.set i x) (d.set i y)
  | _, _, _, _, _, _, .nil => .nil
  | _, _, _, _, 0, h, .cons _ r => .cons h r
  | _, _, _, _, i + 1, h, .cons h' r => .cons h' (DtL.set i h r)
theorem DtL.eraseIdx : ∀ {v : List V} {d : List D} (i : Nat), DtL w H v d → DtL w H (v.eraseIdx i) (d.eraseIdx i)
  | _, _, _, .nil => .nil
  | _, _, 0, .cons _ r => r
  | _, _, i + 1, .cons h r => .cons h (DtL.eraseIdx i r)
theorem DtL.ints : ∀ {v : List V} {ns : List Int}, DtL w H v (ns.map D.int) → v = ns.map V.int
  | _, [], .nil => rfl
  | _, _ :: _, .cons h r => by
    cases h
    rw [DtL.ints r]
    rfl
theorem DtL.of_ints : ∀ (ns : List Int), DtL w H (ns.map V.int) (ns.map D.int)
  | [] => .nil
  | n :: ns => .cons (.int n) (DtL.of_ints ns)
theorem DtF.lookup : ∀ {v : List (Str × V)} {d : List (Str × D)} {f : Str} {x : D}, DtF w H v d → d.lookup f = some x → ∃ u, v.lookup f = some u ∧ Dt w H u x
  | _, _, _, _, .nil, e => by cases e
  | _, _, f, x, .cons (k := k) h r, e => by
    rw [List.lookup_cons] at e ⊢
    cases hk : f == k with
    | true =>
      rw [hk] at e
      cases e
      exact ⟨_, rfl, h⟩
    | false =>
      rw [hk] at e
      exact DtF.lookup r e
theorem DtF.lookup_none : ∀ {v : List (Str × V)} {d : List (Str × D)} {f : Str}, DtF w H v d → d.lookup f = none → v.lookup f = none
  | _, _, _, .nil, e => rfl
  | _, _, f, .cons (k := k) h r, e => by
    rw [List.lookup_cons] at e ⊢
    cases hk : f == k with
    | true =>
      rw [hk] at e
      cases e
    | false =>
      rw [hk] at e
      exact DtF.lookup_none r e
end
/-! ### the objects that may change -/
def OR (w : Wd) (H : Hp) (a : Addr) : IO → Prop
  | .lst ds => ∃ xs, H a = some (.lst xs) ∧ DtL w H xs ds
  | .dct kvs => ∃ xs, H a = some (.dK xs) ∧ DtK w H xs kvs
  | .obj c fs => ∃ C dx xs, w.mg c = some (.ref C) ∧ H a = some (.ins C dx xs) ∧ DtF w H xs fs
structure HR (w : Wd) (h : IH) (H : Hp) : Prop where
  len : w.m.length = h.length
  nd : w.m.Nodup
  dom : ∀ a, w.Z a → ∃ o, H a = some o
  mz : ∀ a ∈ w.m, w.Z a
  at_ : ∀ (l : Nat) (a : Addr) (o : IO), w.m[l]? = some a → h[l]? = some o → OR w H a o
structure Step (w : Wd) (H : Hp) (w' : Wd) (h' : IH) (H' : Hp) : Prop where
  K : w'.K = w.K
  mg : w'.mg = w.mg
  m : ∃ n, w'.m = w.m ++ n ∧ ∀ a ∈ n, H a = none
  up : ∀ a, w.Z a → w'.Z a
  new : ∀ a, w'.Z a → w.Z a ∨ H a = none
  ext : ∀ a o, H a = some o → a ∉ w.m → H' a = some o
  hr : HR w' h' H'
section
variable {w w' w2 : Wd} {h h' h2 : IH} {H H' H2 : Hp}
theorem Step.refl (hr : HR w h H) : Step w H w h H := ⟨rfl, rfl, ⟨[], by simp, fun _ z => nomatch z⟩, fun _ z => z, fun _ z => .inl z, fun _ _ e _ => e, hr⟩
theorem Step.to (s : Step w H w' h' H') (hr : HR w h H) : To w H w' H' where
  K := s.K
  mg := s.mg
  m := fun l a e => by
    obtain ⟨n, hn, _⟩ := s.m
    rw [hn, List.getElem?_append_left (List.getElem?_eq_some_iff.mp e).1]
    exact e
  ext := fun a o e n => s.ext a o e fun hm => n (hr.mz a hm)
  z := fun a n ⟨o, e⟩ z => (s.new a z).elim n fun q => by rw [e] at q; cases q
/-- what is there stays there -/
theorem Step.there (s : Step w H w' h' H') {a : Addr} (z : H' a = none) : H a = none := by
  cases e : H a with
  | none => rfl
  | some o =>
    by_cases hm : a ∈ w.m
    · obtain ⟨n, hn, _⟩ := s.m
      obtain ⟨o', e'⟩ := s.hr.dom a (s.hr.mz a (by rw [hn]; exact List.mem_append_left _ hm))
      rw [z] at e'
      cases e'
    · rw [s.ext a o e hm] at z
      cases z
theorem Step.nm (s : Step w H w' h' H') {a : Addr} {o : HO} (e : H a = some o) (n : a ∉ w.m) : a ∉ w'.m := fun hm => by
  obtain ⟨k, hk, hf⟩ := s.m
  rw [hk] at hm
  rcases List.mem_append.mp hm with hm | hm
  · exact n hm
  · rw [hf a hm] at e
    cases e
theorem Step.trans (s : Step w H w' h' H') (t : Step w' H' w2 h2 H2) : Step w H w2 h2 H2 where
  K := t.K.trans s.K
  mg := t.mg.trans s.mg
  m := by
    obtain ⟨n, hn, f⟩ := s.m
    obtain ⟨n', hn', f'⟩ := t.m
    exact ⟨n ++ n', by rw [hn', hn, List.append_assoc], fun a ha => (List.mem_append.mp ha).elim (f a) fun q => s.there (f' a q)⟩
  up := fun a z => t.up a (s.up a z)
  new := fun a z => (t.new a z).elim (s.new a) fun q => .inr (s.there q)
  ext := fun a o e n => t.ext a o (s.ext a o e n) (s.nm e n)
  hr := t.hr
/-- objects that come beside -/
theorem To.grow (k : ∀ a o, H a = some o → H' a = some o) : To w H w H' := ⟨rfl, rfl, fun _ _ h => h, fun a o e _ => k a o e, fun _ n _ => n⟩
theorem OR.to {a : Addr} {o : IO} (t : To w H w' H') (e : H' a = H a) (r : OR w H a o) : OR w' H' a o := by
  cases o with
  | lst ds => obtain ⟨xs, h1, h2⟩ := r; exact ⟨xs, e.trans h1, h2.to t⟩
  | dct ds => obtain ⟨xs, h1, h2⟩ := r; exact ⟨xs, e.trans h1, h2.to t⟩
  | obj c fs => obtain ⟨C, dx, xs, h0, h1, h2⟩ := r; exact ⟨C, dx, xs, t.mg ▸ h0, e.trans h1, h2.to t⟩
theorem HR.grow (r : HR w h H) (k : ∀ a o, H a = some o → H' a = some o) : HR w h H' where
  len := r.len
  nd := r.nd
  dom := fun a z => by obtain ⟨o, e⟩ := r.dom a z; exact ⟨o, k a o e⟩
  mz := r.mz
  at_ := fun l a o e1 e2 => by
    obtain ⟨u, e⟩ := r.dom a (r.mz a (List.mem_of_getElem? e1))
    exact (r.at_ l a o e1 e2).to (To.grow k) (by rw [e, k a u e])
theorem Step.grow (r : HR w h H) (k : ∀ a o, H a = some o → H' a = some o) : Step w H w h H' :=
  ⟨rfl, rfl, ⟨[], by simp, fun _ z => nomatch z⟩, fun _ z => z, fun _ z => .inl z, fun a o e _ => k a o e, r.grow k⟩
theorem same_new {p : Addr} {o : HO} (h : H p = Option.none) : ∀ a u, H a = some u → upd H p o a = some u := fun a u e => by
  rw [upd_ne (ne_of_none e h)]
  exact e
theorem HR.nz (r : HR w h H) {p : Addr} (hp : H p = none) : ¬ w.Z p := fun z => by
  obtain ⟨o, e⟩ := r.dom p z
  rw [hp] at e
  cases e
theorem HR.nm (r : HR w h H) {p : Addr} (hp : H p = none) : p ∉ w.m := fun z => r.nz hp (r.mz p z)
end
/-! ### slots -/
/-- what a slot holds: a datum; a list of its own; the instance that is being made; the error that is handled -/
inductive Sl where
  | val (d : D) | own (ds : List D) | slf (c : Str) (fs : List (Str × D)) | exn (c : Str) (fs : List (Str × D))
def Sl.owned : Sl → Bool
  | .own _ => true
  | .slf _ _ => true
  | _ => false
abbrev En := List (Option Sl)
/-- where the handled error lies, its dict, its class -/
abbrev Hd := Option (Addr × Option Addr × Addr)
def SlotR (w : Wd) (hd : Hd) (H : Hp) (v : V) : Sl → Prop
  | .val d => Dt w H v d
  | .own ds => ∃ a xs, v = .ref a ∧ w.Z a ∧ a ∉ w.m ∧ H a = some (.lst xs) ∧ DtL w H xs ds
  | .slf c fs => ∃ a C dx xs, v = .ref a ∧ w.Z a ∧ a ∉ w.m ∧ w.mg c = some (.ref C) ∧ H a = some (.ins C dx xs) ∧ DtF w H xs fs
  | .exn c fs => ∃ a dx C, v = .ref a ∧ hd = some (a, dx, C) ∧ w.mg c = some (.ref C) ∧ ((dx = none ∧ fs = []) ∨ ∃ d xs, dx = some d ∧ H d = some (.xd xs) ∧ ¬ w.Z d ∧ DtF w H xs fs)
structure Rep (w : Wd) (hd : Hd) (H : Hp) (σ : L2.St) (ρ : En) : Prop where
  len : σ.length = ρ.length
  at_ : ∀ (i : Nat) (s : Sl), ρ[i]? = some (some s) → ∃ v, σ[i]? = some (some v) ∧ SlotR w hd H v s
  ap : ∀ (i j : Nat) (s t : Sl), i ≠ j → ρ[i]? = some (some s) → ρ[j]? = some (some t) → s.owned = true → t.owned = true → σ[i]? ≠ σ[j]?
section
variable {w w' w2 : Wd} {hd : Hd} {h h' h2 : IH} {H H' H2 : Hp} {σ : L2.St} {ρ : En}
theorem SlotR.to {v : V} {s : Sl} (r : SlotR w hd H v s) (t : To w H w' H') (u : ∀ a o, v = .ref a → s.owned = true → w.Z a → a ∉ w.m → H a = some o → w'.Z a ∧ a ∉ w'.m ∧ H' a = some o) : SlotR w' hd H' v s := by
  cases s with
  | val d => exact Dt.to t r
  | own ds =>
    obtain ⟨a, xs, h1, h2, h3, h4, h5⟩ := r
    obtain ⟨u1, u2, u3⟩ := u a _ h1 rfl h2 h3 h4
    exact ⟨a, xs, h1, u1, u2, u3, h5.to t⟩
  | slf c fs =>
    obtain ⟨a, C, dx, xs, h1, h2, h3, h0, h4, h5⟩ := r
    obtain ⟨u1, u2, u3⟩ := u a _ h1 rfl h2 h3 h4
    exact ⟨a, C, dx, xs, h1, u1, u2, t.mg ▸ h0, u3, h5.to t⟩
  | exn c fs =>
    obtain ⟨a, dx, C, h1, h2, h3, h4⟩ := r
    exact ⟨a, dx, C, h1, h2, t.mg ▸ h3, h4.imp id fun ⟨d, xs, q1, q2, q3, q4⟩ => ⟨d, xs, q1, t.ext _ _ q2 q3, t.z _ q3 ⟨_, q2⟩, q4.to t⟩⟩
theorem Rep.step (r : Rep w hd H σ ρ) (hr : HR w h H) (s : Step w H w' h' H') : Rep w' hd H' σ ρ where
  len := r.len
  at_ := fun i x e => by
    obtain ⟨v, h1, h2⟩ := r.at_ i x e
    exact ⟨v, h1, h2.to (s.to hr) fun a o _ _ z n q => ⟨s.up a z, s.nm q n, s.ext a o q n⟩⟩
  ap := r.ap
theorem set_some {α : Type} {ρ : List (Option α)} {i j : Nat} {s t : α} (q : (ρ.set i (some s))[j]? = some (some t)) : (j = i ∧ t = s ∧ i < ρ.length) ∨ (j ≠ i ∧ ρ[j]? = some (some t)) := by
  by_cases hj : i = j
  · subst hj
    by_cases hi : i < ρ.length
    · rw [List.getElem?_set_self hi] at q
      cases q
      exact .inl ⟨rfl, rfl, hi⟩
    · rw [List.getElem?_eq_none (by simpa using hi)] at q
      cases q
  · rw [List.getElem?_set_ne hj] at q
    exact .inr ⟨fun e => hj e.symm, q⟩
/-- a slot is set to a datum -/
theorem Rep.set {i : Nat} {v : V} {d : D} (r : Rep w hd H σ ρ) (t : Dt w H v d) : Rep w hd H (σ.set i (some v)) (ρ.set i (some (.val d))) where
  len := by simp [r.len]
  at_ := fun j s q => by
    rcases set_some q with ⟨rfl, rfl, hi⟩ | ⟨hj, q⟩
    · exact ⟨v, by rw [List.getElem?_set_self (by rw [r.len]; exact hi)], t⟩
    · obtain ⟨u, h1, h2⟩ := r.at_ j s q
      exact ⟨u, by rw [List.getElem?_set_ne (Ne.symm hj)]; exact h1, h2⟩
  ap := fun j k s t' n q1 q2 o1 o2 => by
    rcases set_some q1 with ⟨rfl, rfl, _⟩ | ⟨hj, q1⟩
    · cases o1
    · rcases set_some q2 with ⟨rfl, rfl, _⟩ | ⟨hk, q2⟩
      · cases o2
      · rw [List.getElem?_set_ne (Ne.symm hj), List.getElem?_set_ne (Ne.symm hk)]
        exact r.ap j k s t' n q1 q2 o1 o2
/-- less is known -/
theorem Rep.forget {ρ' : En} (r : Rep w hd H σ ρ) (hl : ρ'.length = ρ.length) (h : ∀ (i : Nat) (s : Sl), ρ'[i]? = some (some s) → ρ[i]? = some (some s)) : Rep w hd H σ ρ' :=
  ⟨r.len.trans hl.symm, fun i s q => r.at_ i s (h i s q), fun i j s t n q1 q2 => r.ap i j s t n (h i s q1) (h j t q2)⟩
theorem set_none {α : Type} {ρ : List (Option α)} {i j : Nat} {t : α} (q : (ρ.set i none)[j]? = some (some t)) : j ≠ i ∧ ρ[j]? = some (some t) := by
  by_cases hj : i = j
  · subst hj
    by_cases hi : i < ρ.length
    · rw [List.getElem?_set_self hi] at q
      cases q
    · rw [List.getElem?_eq_none (by simpa using hi)] at q
      cases q
  · rw [List.getElem?_set_ne hj] at q
    exact ⟨fun e => hj e.symm, q⟩
theorem Rep.unset (i : Nat) (r : Rep w hd H σ ρ) : Rep w hd H (σ.set i none) (ρ.set i none) where
  len := by simp [r.len]
  at_ := fun j s q => by
    obtain ⟨hj, q⟩ := set_none q
    obtain ⟨v, h1, h2⟩ := r.at_ j s q
    exact ⟨v, by rw [List.getElem?_set_ne (Ne.symm hj)]; exact h1, h2⟩
  ap := fun j k s t n q1 q2 o1 o2 => by
    obtain ⟨hj, q1⟩ := set_none q1
    obtain ⟨hk, q2⟩ := set_none q2
    rw [List.getElem?_set_ne (Ne.symm hj), List.getElem?_set_ne (Ne.symm hk)]
    exact r.ap j k s t n q1 q2 o1 o2
/-- the slots of vs forgotten -/
def wipeE (ρ : En) : List Nat → En
  | [] => ρ
  | v :: vs => (wipeE ρ vs).set v none
theorem wipe_keeps {σ : L2.St} {i : Nat} : ∀ {vs : List Nat}, i ∉ vs → (wipe σ vs)[i]? = σ[i]?
  | [], _ => rfl
  | v :: vs, h => by
    have h1 : v ≠ i := fun e => h (by simp [e])
    have h2 : i ∉ vs := fun e => h (by simp [e])
    unfold wipe
    rw [List.getElem?_set_ne h1]
    exact wipe_keeps h2
theorem wipe_in {σ : L2.St} {i : Nat} : ∀ {vs : List Nat}, i ∈ vs → (wipe σ vs)[i]? = if i < σ.length then some Option.none else Option.none
  | v :: vs, h => by
    unfold wipe
    by_cases hv : v = i
    · subst hv
      rw [List.getElem?_set, if_pos rfl, wipe_length]
    · have h2 : i ∈ vs := by
        rcases List.mem_cons.mp h with e | e
        · exact absurd e.symm hv
        · exact e
      rw [List.getElem?_set_ne hv]
      exact wipe_in h2
theorem wipe_set {σ : L2.St} {i : Nat} {x : Option V} {vs : List Nat} (h : i ∈ vs) : wipe (σ.set i x) vs = wipe σ vs := by
  refine List.ext_getElem? fun k => ?_
  by_cases hk : k ∈ vs
  · rw [wipe_in hk, wipe_in hk, List.length_set]
  · rw [wipe_keeps hk, wipe_keeps hk, List.getElem?_set_ne]
    intro e
    exact hk (e ▸ h)
theorem wipe_eq {σ : L2.St} : ∀ (vs : List Nat), wipe σ vs = vs.foldr (fun i s => s.set i none) σ
  | [] => rfl
  | v :: vs => by
    unfold wipe
    rw [wipe_eq vs]
    rfl
theorem Rep.wipe (r : Rep w hd H σ ρ) : ∀ (vs : List Nat), Rep w hd H (wipe σ vs) (wipeE ρ vs)
  | [] => r
  | v :: vs => by
    have q := (Rep.wipe r vs).unset v
    exact q
end
end WR
set_option Elab.async false
set_option linter.all false
set_option autoImplicit false
set_option maxRecDepth 100000
set_option maxHeartbeats 4000000
namespace WR
open PySem L2
/-! ### what a piece of a program computes -/
inductive Res (α : Type) where
  | ok (a : α) (h : IH) | ex (c : Str) (fs : List (Str × D)) (h : IH) | no
def M (α : Type) := IH → Res α
def Res.wp {α : Type} (r : Res α) (Q : α → IH → Prop) (E : Str → List (Str × D) → IH → Prop) : Prop := match r with
  | .ok a h => Q a h
  | .ex c fs h => E c fs h
  | .no => False
def M.pure {α : Type} (a : α) : M α := fun h => .ok a h
def M.bind {α β : Type} (m : M α) (f : α → M β) : M β := fun h => match m h with
  | .ok a h' => f a h'
  | .ex c fs h' => .ex c fs h'
  | .no => .no
/-- a part that may fail -/
def M.of {α : Type} (o : Option α) : M α := fun h => match o with
  | some a => .ok a h
  | none => .no
section
variable {α β : Type} {Q : β → IH → Prop} {E : Str → List (Str × D) → IH → Prop} {h : IH}
theorem wp_bind {m : M α} {f : α → M β} : ((m.bind f) h).wp Q E ↔ (m h).wp (fun a h' => ((f a) h').wp Q E) E := by
  unfold M.bind
  cases m h <;> exact Iff.rfl
theorem wp_pure {b : β} : ((M.pure b) h).wp Q E ↔ Q b h := Iff.rfl
theorem wp_of {o : Option β} : ((M.of o) h).wp Q E ↔ ∃ b, o = some b ∧ Q b h := by
  cases o with
  | none => exact ⟨fun z => z.elim, fun ⟨_, z, _⟩ => nomatch z⟩
  | some b => exact ⟨fun z => ⟨b, rfl, z⟩, fun ⟨_, z, q⟩ => by cases z; exact q⟩
theorem Res.wp.mono {r : Res β} {Q' : β → IH → Prop} {E' : Str → List (Str × D) → IH → Prop} (w : r.wp Q E) (hq : ∀ b h, Q b h → Q' b h) (he : ∀ c fs h, E c fs h → E' c fs h) : r.wp Q' E' := by
  cases r with
  | ok a h => exact hq _ _ w
  | ex c fs h => exact he _ _ _ w
  | no => exact w
end
/-! ### where one stands -/
/-- the handled error of a suite -/
def HdOk (X : Cx) : Hd → Prop
  | none => True
  | some (a, dx, C) => ∃ (X0 : Cx) (oe : Obj) (pn : List (Addr × Obj)), X = X0.suite a ((a, oe) :: pn) ∧ Zc (.ref C) dx oe ∧ ∃ vs, oe.data = .fields vs
structure Cur (X : Cx) (w : Wd) (hd : Hd) (h : IH) (ρ : En) (σ : L2.St) (H : Hp) : Prop where
  K : w.K = X.K
  mg : w.mg = X.mg
  hk : HdOk X hd
  hr : HR w h H
  rp : Rep w hd H σ ρ
theorem Cur.step {X : Cx} {w w' : Wd} {hd : Hd} {h h' : IH} {ρ : En} {σ : L2.St} {H H' : Hp} (c : Cur X w hd h ρ σ H) (s : Step w H w' h' H') : Cur X w' hd h' ρ σ H' :=
  ⟨s.K.trans c.K, s.mg.trans c.mg, c.hk, s.hr, c.rp.step c.hr s⟩
/-- an exception in the air: its class by name, its attributes -/
def ExD (w : Wd) (H : Hp) (cls : Value) (dx : Option Addr) (c : Str) (fs : List (Str × D)) : Prop :=
  ∃ C, w.mg c = some (.ref C) ∧ cls = .ref C ∧ ((fs = [] ∧ dx = none) ∨ ∃ d xs, dx = some d ∧ H d = some (.xd xs) ∧ ¬ w.Z d ∧ DtF w H xs fs)
def tE (X : Cx) (W : WX) (f : En → M D) : TE := fun σ H Q => ∃ w hd h ρ, Cur X w hd h ρ σ H ∧
  ((f ρ) h).wp (fun d h' => ∀ v H' w', Step w H w' h' H' → Dt w' H' v d → Q v H') (fun c fs h' => ∀ cls dx H' w', Step w H w' h' H' → ExD w' H' cls dx c fs → W cls dx σ H')
def tB (X : Cx) (W : WX) (f : En → M Bool) : TT := fun σ H Q => ∃ w hd h ρ, Cur X w hd h ρ σ H ∧
  ((f ρ) h).wp (fun d h' => ∀ H' w', Step w H w' h' H' → Q d H') (fun c fs h' => ∀ cls dx H' w', Step w H w' h' H' → ExD w' H' cls dx c fs → W cls dx σ H')
def tL (X : Cx) (W : WX) (f : En → M (List D)) : TA := fun σ H Q => ∃ w hd h ρ, Cur X w hd h ρ σ H ∧
  ((f ρ) h).wp (fun ds h' => ∀ vs H' w', Step w H w' h' H' → DtL w' H' vs ds → Q vs H') (fun c fs h' => ∀ cls dx H' w', Step w H w' h' H' → ExD w' H' cls dx c fs → W cls dx σ H')
abbrev DE (X : Cx) (W : WX) (e : Expr) (f : En → M D) : Prop := PE X e (tE X W f)
abbrev DT (X : Cx) (W : WX) (e : Expr) (f : En → M Bool) : Prop := PT X e (tB X W f)
abbrev DW (X : Cx) (W : WX) (e : Expr) (f : En → M Bool) : Prop := PW X e (tB X W f)
abbrev DA (X : Cx) (W : WX) (es : List Expr) (f : En → M (List D)) : Prop := PA X es (tL X W f)
section
variable {X : Cx} {W : WX} {e a b c : Expr} {es : List Expr} {pos : Pos} {f fa fb fc : En → M D}
theorem PE.of {t t' : TE} (h : PE X e t) (w : ∀ σ H Q, t' σ H Q → t σ H Q) : PE X e t' := ⟨fun pins s σ H Q I q => h.run pins s σ H Q I (w σ H Q q)⟩
theorem PT.of {t t' : TT} (h : PT X e t) (w : ∀ σ H Q, t' σ H Q → t σ H Q) : PT X e t' := ⟨fun pins s σ H Q I q => h.run pins s σ H Q I (w σ H Q q)⟩
theorem PW.of {t t' : TT} (h : PW X e t) (w : ∀ σ H Q, t' σ H Q → t σ H Q) : PW X e t' := ⟨fun wh pins s σ H Q I q => h.run wh pins s σ H Q I (w σ H Q q)⟩
theorem PA.of {t t' : TA} (h : PA X es t) (w : ∀ σ H Q, t' σ H Q → t σ H Q) : PA X es t' := ⟨fun po pins s σ H Q I q => h.run po pins s σ H Q I (w σ H Q q)⟩
/-- the first part of a reading -/
theorem tE.run {w : Wd} {hd : Hd} {h : IH} {ρ : En} {σ : L2.St} {H : Hp} {Q : VK} {A : D → IH → Prop} {B : Str → List (Str × D) → IH → Prop} (c : Cur X w hd h ρ σ H) (k : ((f ρ) h).wp A B)
    (hA : ∀ d h' v H' w', A d h' → Step w H w' h' H' → Cur X w' hd h' ρ σ H' → Dt w' H' v d → Q v H') (hB : ∀ c fs h', B c fs h' → ∀ cls dx H' w', Step w H w' h' H' → ExD w' H' cls dx c fs → W cls dx σ H') : tE X W f σ H Q :=
  ⟨w, hd, h, ρ, c, k.mono (fun d h' q v H' w' s t => hA d h' v H' w' q s (c.step s) t) fun c fs h' q => hB c fs h' q⟩
theorem tB.run {f : En → M Bool} {w : Wd} {hd : Hd} {h : IH} {ρ : En} {σ : L2.St} {H : Hp} {Q : Bool → Hp → Prop} {A : Bool → IH → Prop} {B : Str → List (Str × D) → IH → Prop} (c : Cur X w hd h ρ σ H) (k : ((f ρ) h).wp A B)
    (hA : ∀ d h' H' w', A d h' → Step w H w' h' H' → Cur X w' hd h' ρ σ H' → Q d H') (hB : ∀ c fs h', B c fs h' → ∀ cls dx H' w', Step w H w' h' H' → ExD w' H' cls dx c fs → W cls dx σ H') : tB X W f σ H Q :=
  ⟨w, hd, h, ρ, c, k.mono (fun d h' q H' w' s => hA d h' H' w' q s (c.step s)) fun c fs h' q => hB c fs h' q⟩
theorem tL.run {f : En → M (List D)} {w : Wd} {hd : Hd} {h : IH} {ρ : En} {σ : L2.St} {H : Hp} {Q : List V → Hp → Prop} {A : List D → IH → Prop} {B : Str → List (Str × D) → IH → Prop} (c : Cur X w hd h ρ σ H) (k : ((f ρ) h).wp A B)
    (hA : ∀ d h' v H' w', A d h' → Step w H w' h' H' → Cur X w' hd h' ρ σ H' → DtL w' H' v d → Q v H') (hB : ∀ c fs h', B c fs h' → ∀ cls dx H' w', Step w H w' h' H' → ExD w' H' cls dx c fs → W cls dx σ H') : tL X W f σ H Q :=
  ⟨w, hd, h, ρ, c, k.mono (fun d h' q v H' w' s t => hA d h' v H' w' q s (c.step s) t) fun c fs h' q => hB c fs h' q⟩
/-! names, constants -/
def slot (ρ : En) (i : Nat) : Option D := match ρ[i]? with
  | some (some (.val d)) => some d
  | _ => none
theorem slot_some {ρ : En} {i : Nat} {d : D} (h : slot ρ i = some d) : ρ[i]? = some (some (.val d)) := by
  unfold slot at h
  split at h
  · cases h; assumption
  · cases h
def eVar (i : Nat) : En → M D := fun ρ => M.of (slot ρ i)
def eCst (d : D) : En → M D := fun _ => M.pure d
theorem d_var (i : Nat) {x : Str} (hN : X.N[i]? = some x) (hv : Vis X.env.scope x) (hd : (x == ("__debug__" : Str)) = false := by decide) (hcd : (x == ("__classdict__" : Str)) = false := by decide) : DE X W (.Name x pos) (eVar i) :=
  PE.of (pe_var hN hv hd hcd) fun σ H Q ⟨w, hd, h, ρ, c, k⟩ => by
    obtain ⟨d, hs, k⟩ := wp_of.mp k
    obtain ⟨v, h1, h2⟩ := c.rp.at_ i _ (slot_some hs)
    exact ⟨v, h1, k v H w (Step.refl c.hr) h2⟩
theorem d_int {i : Int} {k : Nat} : DE X W (.Constant (.int i) k pos) (eCst (.int i)) := PE.of pe_int fun _ H _ ⟨w, _, _, _, c, k⟩ => k _ H w (Step.refl c.hr) (.int i)
theorem d_str {x : Str} {k : Nat} : DE X W (.Constant (.str x) k pos) (eCst (.str x)) := PE.of pe_str fun _ H _ ⟨w, _, _, _, c, k⟩ => k _ H w (Step.refl c.hr) (.str x)
theorem d_bl {x : Bool} {k : Nat} : DE X W (.Constant (.bool x) k pos) (eCst (.bl x)) := PE.of pe_bl fun _ H _ ⟨w, _, _, _, c, k⟩ => k _ H w (Step.refl c.hr) (.bl x)
theorem d_non {k : Nat} : DE X W (.Constant .none k pos) (eCst .non) := PE.of pe_non fun _ H _ ⟨w, _, _, _, c, k⟩ => k _ H w (Step.refl c.hr) .non
/-- a name of the module: what it holds -/
def Con (K : PySem.W.Frag) (mg : Str → Option Value) (x : Str) (d : D) : Prop := ∃ v u, mg x = some u ∧ RelV v u ∧ ∀ w H, w.K = K → w.mg = mg → Dt w H v d
theorem d_glob {x : Str} {d : D} (h : Con X.K X.mg x d) (hg : Gl X x) (hd : (x == ("__debug__" : Str)) = false := by decide) : DE X W (.Name x pos) (eCst d) := by
  obtain ⟨v, u, hm, r, hD⟩ := h
  exact PE.of (pe_glob hg hm r hd) fun _ H _ ⟨w, _, _, _, c, k⟩ => k _ H w (Step.refl c.hr) (hD w H c.K c.mg)
theorem d_ty {x : Str} {n : String} (hm : X.mg x = none) (hv : bootBuiltins x = some (.type n)) (hg : Gl X x) (hn : x ≠ "__name__" := by decide) (hd : (x == ("__debug__" : Str)) = false := by decide) : DE X W (.Name x pos) (eCst (.ty n)) :=
  PE.of (pe_bltn (v := .ty n) hg hm hv rfl hn hd) fun _ H _ ⟨w, _, _, _, c, k⟩ => k _ H w (Step.refl c.hr) (.ty n)
/-! operations on data -/
/-- all that was stays, and the datum is d -/
def Grow (w : Wd) (H : Hp) (d : D) : VK := fun z H' => (∀ a o, H a = some o → H' a = some o) ∧ Dt w H' z d
abbrev P1 := IH → D → Option D
abbrev P2 := IH → D → D → Option D
abbrev Pn := IH → List D → Option D
def Op2 (X : Cx) (f : Value → Value → Sem Value) (p : P2) : Prop :=
  ∀ (pins : List (Addr × Obj)) (s : Shared) (σ : L2.St) (H : Hp) (w : Wd) (h : IH) (x y : V) (v u : Value) (d1 d2 d : D), Inv X pins σ H s → RelV x v → RelV y u → w.K = X.K → w.mg = X.mg → HR w h H → Dt w H x d1 → Dt w H y d2 → p h d1 d2 = some d →
    wpAny (model X.prog X.w) X.A (f v u) (EP X pins σ (Grow w H d)) X.xe s
def Op1 (X : Cx) (f : Value → Sem Value) (p : P1) : Prop :=
  ∀ (pins : List (Addr × Obj)) (s : Shared) (σ : L2.St) (H : Hp) (w : Wd) (h : IH) (x : V) (v : Value) (d1 d : D), Inv X pins σ H s → RelV x v → w.K = X.K → w.mg = X.mg → HR w h H → Dt w H x d1 → p h d1 = some d →
    wpAny (model X.prog X.w) X.A (f v) (EP X pins σ (Grow w H d)) X.xe s
def OpN (X : Cx) (f : List Value → Sem Value) (p : Pn) : Prop :=
  ∀ (pins : List (Addr × Obj)) (s : Shared) (σ : L2.St) (H : Hp) (w : Wd) (h : IH) (xs : List V) (us : List Value) (ds : List D) (d : D), Inv X pins σ H s → Vals xs us → w.K = X.K → w.mg = X.mg → HR w h H → DtL w H xs ds → p h ds = some d →
    wpAny (model X.prog X.w) X.A (f us) (EP X pins σ (Grow w H d)) X.xe s
def m2 (p : P2) (x y : D) : M D := fun h => match p h x y with
  | some d => .ok d h
  | none => .no
def m1 (p : P1) (x : D) : M D := fun h => match p h x with
  | some d => .ok d h
  | none => .no
def mN (p : Pn) (xs : List D) : M D := fun h => match p h xs with
  | some d => .ok d h
  | none => .no
theorem wp_m2 {p : P2} {x y : D} {h : IH} {Q : D → IH → Prop} {E : Str → List (Str × D) → IH → Prop} : ((m2 p x y) h).wp Q E ↔ ∃ d, p h x y = some d ∧ Q d h := by
  unfold m2
  cases p h x y with
  | none => exact ⟨fun z => z.elim, fun ⟨_, z, _⟩ => nomatch z⟩
  | some b => exact ⟨fun z => ⟨b, rfl, z⟩, fun ⟨_, z, q⟩ => by cases z; exact q⟩
theorem wp_m1 {p : P1} {x : D} {h : IH} {Q : D → IH → Prop} {E : Str → List (Str × D) → IH → Prop} : ((m1 p x) h).wp Q E ↔ ∃ d, p h x = some d ∧ Q d h := by
  unfold m1
  cases p h x with
  | none => exact ⟨fun z => z.elim, fun ⟨_, z, _⟩ => nomatch z⟩
  | some b => exact ⟨fun z => ⟨b, rfl, z⟩, fun ⟨_, z, q⟩ => by cases z; exact q⟩
theorem wp_mN {p : Pn} {x : List D} {h : IH} {Q : D → IH → Prop} {E : Str → List (Str × D) → IH → Prop} : ((mN p x) h).wp Q E ↔ ∃ d, p h x = some d ∧ Q d h := by
  unfold mN
  cases p h x with
  | none => exact ⟨fun z => z.elim, fun ⟨_, z, _⟩ => nomatch z⟩
  | some b => exact ⟨fun z => ⟨b, rfl, z⟩, fun ⟨_, z, q⟩ => by cases z; exact q⟩
/-- the readings of operations -/
def r2 (X : Cx) (p : P2) : R2 := fun x y H Q => ∃ w h d1 d2 d, w.K = X.K ∧ w.mg = X.mg ∧ HR w h H ∧ Dt w H x d1 ∧ Dt w H y d2 ∧ p h d1 d2 = some d ∧ ∀ v H', Grow w H d v H' → Q v H'
theorem op2_R {f : Value → Value → Sem Value} {p : P2} (o : Op2 X f p) : OpR X f (r2 X p) := fun pins s σ H x y v u Q I rx ry ⟨w, h, d1, d2, d, hK, hm, hr, t1, t2, hp, q⟩ =>
  thn (o pins s σ H w h x y v u d1 d2 d I rx ry hK hm hr t1 t2 hp) fun _ _ ⟨z, H', I', r', g⟩ => ⟨z, H', I', r', q z H' g⟩
def r1 (X : Cx) (p : P1) : V → Hp → VK → Prop := fun x H Q => ∃ w h d1 d, w.K = X.K ∧ w.mg = X.mg ∧ HR w h H ∧ Dt w H x d1 ∧ p h d1 = some d ∧ ∀ v H', Grow w H d v H' → Q v H'
theorem op1_R {f : Value → Sem Value} {p : P1} (o : Op1 X f p) : UnR X f (r1 X p) := fun pins s σ H x v Q I rx ⟨w, h, d1, d, hK, hm, hr, t1, hp, q⟩ =>
  thn (o pins s σ H w h x v d1 d I rx hK hm hr t1 hp) fun _ _ ⟨z, H', I', r', g⟩ => ⟨z, H', I', r', q z H' g⟩
def rN (X : Cx) (p : Pn) : List V → Hp → VK → Prop := fun xs H Q => ∃ w h ds d, w.K = X.K ∧ w.mg = X.mg ∧ HR w h H ∧ DtL w H xs ds ∧ p h ds = some d ∧ ∀ v H', Grow w H d v H' → Q v H'
theorem opN_R {f : Value} {p : Pn} (o : OpN X (fun us => call f us) p) : CallR X f (rN X p) := fun pins s σ H xs us Q I rx ⟨w, h, ds, d, hK, hm, hr, t, hp, q⟩ =>
  thn (o pins s σ H w h xs us ds d I rx hK hm hr t hp) fun _ _ ⟨z, H', I', r', g⟩ => ⟨z, H', I', r', q z H' g⟩
def e2 (p : P2) (fa fb : En → M D) : En → M D := fun ρ => (fa ρ).bind fun x => (fb ρ).bind fun y => m2 p x y
def e1 (p : P1) (fa : En → M D) : En → M D := fun ρ => (fa ρ).bind fun x => m1 p x
def eN (p : Pn) (fa : En → M (List D)) : En → M D := fun ρ => (fa ρ).bind fun x => mN p x
theorem t_op2 {p : P2} {σ : L2.St} {H : Hp} {Q : VK} (z : tE X W (e2 p fa fb) σ H Q) : tOp (r2 X p) (tE X W fa) (tE X W fb) σ H Q := by
  obtain ⟨w, hd, h, ρ, c, k⟩ := z
  refine tE.run c (wp_bind.mp k) (fun d1 h1 v1 H1 w1 k1 s1 c1 t1 => ?_) fun _ _ _ z => z
  refine tE.run c1 (wp_bind.mp k1) (fun d2 h2 v2 H2 w2 k2 s2 c2 t2 => ?_) fun _ _ _ z cls dx H' w' s => z cls dx H' w' (s1.trans s)
  obtain ⟨d, hp, q⟩ := wp_m2.mp k2
  exact ⟨w2, h2, d1, d2, d, c2.K, c2.mg, c2.hr, t1.to (s2.to c1.hr), t2, hp, fun v H' g => q v H' w2 ((s1.trans s2).trans (Step.grow c2.hr g.1)) g.2⟩
theorem d_bin {op : Operator} {p : P2} (ho : Op2 X (binaryOp op) p) (ha : DE X W a fa) (hb : DE X W b fb) : DE X W (.BinOp a op b pos) (e2 p fa fb) :=
  PE.of (pe_op (op2_R ho) ha hb) fun _ _ _ z => t_op2 z
theorem d_cmp {op : CmpOp} {p : P2} (ho : Op2 X (compareOp op) p) (ha : DE X W a fa) (hb : DE X W b fb) (hm : behindInMarks op b = false := by first | exact nomark _ | with_unfolding_all rfl) : DE X W (.Compare a [op] [b] pos) (e2 p fa fb) :=
  PE.of (pe_cmpR (op2_R ho) ha hb hm) fun _ _ _ z => t_op2 z
theorem d_un {op : UnaryOp} {p : P1} (ho : Op1 X (unaryOp op) p) (ha : DE X W a fa) : DE X W (.UnaryOp op a pos) (e1 p fa) :=
  PE.of (pe_un (op1_R ho) ha) fun σ H Q ⟨w, hd, h, ρ, c, k⟩ => by
    refine tE.run c (wp_bind.mp k) (fun d1 h1 v1 H1 w1 k1 s1 c1 t1 => ?_) fun _ _ _ z => z
    obtain ⟨d, hp, q⟩ := wp_m1.mp k1
    exact ⟨w1, h1, d1, d, c1.K, c1.mg, c1.hr, t1, hp, fun v H' g => q v H' w1 (s1.trans (Step.grow c1.hr g.1)) g.2⟩
/-! tests -/
def asB : D → Option Bool
  | .bl b => some b
  | _ => none
def tst (f : En → M D) : En → M Bool := fun ρ => (f ρ).bind fun d => M.of (asB d)
theorem asB_some {d : D} {b : Bool} (h : asB d = some b) : d = .bl b := by
  unfold asB at h
  split at h
  · cases h; rfl
  · cases h
theorem t_tst {σ : L2.St} {H : Hp} {Q : Bool → Hp → Prop} {f : En → M D} {t : TE} (z : tB X W (tst f) σ H Q) (ht : ∀ Q', tE X W f σ H Q' → t σ H Q') : tTest t σ H Q := by
  obtain ⟨w, hd, h, ρ, c, k⟩ := z
  refine ht _ (tE.run c (wp_bind.mp k) (fun d1 h1 v1 H1 w1 k1 s1 c1 t1 => ?_) fun _ _ _ z => z)
  obtain ⟨b, hb, q⟩ := wp_of.mp k1
  cases asB_some hb
  cases t1
  exact ⟨b, rfl, q H1 w1 s1⟩
theorem dt_cmp {op : CmpOp} {p : P2} (ho : Op2 X (compareOp op) p) (ha : DE X W a fa) (hb : DE X W b fb) (hm : behindInMarks op b = false := by first | exact nomark _ | with_unfolding_all rfl) : DT X W (.Compare a [op] [b] pos) (tst (e2 p fa fb)) :=
  PT.of (pt_cmpR (op2_R ho) ha hb hm) fun _ _ _ z => t_tst z fun _ y => t_op2 y
theorem dt_val (h : DE X W e f) (he : ∀ whole, isTrue e X.env whole = (do let v ← whole; standAt e.pos; holding [v] (truthy v)) := by intro _; rfl) : DT X W e (tst f) :=
  PT.of (pt_val h he) fun σ H Q z => t_tst z fun _ y => y
/-- a chain of two comparisons -/
def eChain (p q : P2) (fa fb fc : En → M D) : En → M D := fun ρ => (fa ρ).bind fun x => (fb ρ).bind fun y => (m2 p x y).bind fun z => (M.of (asB z)).bind fun k => if k = true then (fc ρ).bind fun u => m2 q y u else M.pure (.bl false)
theorem t_chain {p q : P2} {σ : L2.St} {H : Hp} {Q : VK} (z : tE X W (eChain p q fa fb fc) σ H Q) : tChain (r2 X p) (r2 X q) (tE X W fa) (tE X W fb) (tE X W fc) σ H Q := by
  obtain ⟨w, hd, h, ρ, c, k⟩ := z
  refine tE.run c (wp_bind.mp k) (fun d1 h1 v1 H1 w1 k1 s1 c1 t1 => ?_) fun _ _ _ z => z
  refine tE.run c1 (wp_bind.mp k1) (fun d2 h2 v2 H2 w2 k2 s2 c2 t2 => ?_) fun _ _ _ z cls dx H' w' s => z cls dx H' w' (s1.trans s)
  obtain ⟨d, hp, k3⟩ := wp_m2.mp (wp_bind.mp k2)
  obtain ⟨b, hb, k4⟩ := wp_of.mp (wp_bind.mp k3)
  cases asB_some hb
  refine ⟨w2, h2, d1, d2, _, c2.K, c2.mg, c2.hr, t1.to (s2.to c1.hr), t2, hp, fun v H' g => ?_⟩
  obtain ⟨g1, g2⟩ := g
  cases g2
  have s3 := Step.grow c2.hr g1
  have s13 := (s1.trans s2).trans s3
  have c3 := c2.step s3
  cases b with
  | false =>
    refine ⟨false, rfl, ?_⟩
    rw [if_neg (by decide)] at k4 ⊢
    exact k4 _ H' w2 s13 (.bl false)
  | true =>
    refine ⟨true, rfl, ?_⟩
    rw [if_pos rfl] at k4 ⊢
    refine tE.run c3 (wp_bind.mp k4) (fun d4 h4 v4 H4 w4 k5 s4 c4 t4 => ?_) fun _ _ _ z cls dx H' w' s => z cls dx H' w' (s13.trans s)
    obtain ⟨d5, hp5, q5⟩ := wp_m2.mp k5
    exact ⟨w4, h4, d2, d4, d5, c4.K, c4.mg, c4.hr, (t2.to (s3.to c2.hr)).to (s4.to c3.hr), t4, hp5, fun v H'' g => q5 v H'' w4 ((s13.trans s4).trans (Step.grow c4.hr g.1)) g.2⟩
theorem d_chain {op op' : CmpOp} {p q : P2} (ho : Op2 X (compareOp op) p) (ho' : Op2 X (compareOp op') q) (ha : DE X W a fa) (hb : DE X W b fb) (hc : DE X W c fc) (hm : lastMarks [op, op'] [b, c] = false := by with_unfolding_all rfl) : DE X W (.Compare a [op, op'] [b, c] pos) (eChain p q fa fb fc) :=
  PE.of (pe_chain (op2_R ho) (op2_R ho') ha hb hc hm) fun _ _ _ z => t_chain z
theorem dt_chain {op op' : CmpOp} {p q : P2} (ho : Op2 X (compareOp op) p) (ho' : Op2 X (compareOp op') q) (ha : DE X W a fa) (hb : DE X W b fb) (hc : DE X W c fc) (hm : lastMarks [op, op'] [b, c] = false := by with_unfolding_all rfl) : DT X W (.Compare a [op, op'] [b, c] pos) (tst (eChain p q fa fb fc)) :=
  PT.of (pt_chain (op2_R ho) (op2_R ho') ha hb hc hm) fun _ _ _ z => t_tst z fun _ y => t_chain y
/-! and, or, not -/
variable {ta tb tc : En → M Bool}
def tNt (f : En → M Bool) : En → M Bool := fun ρ => (f ρ).bind fun b => M.pure (!b)
def tAn (f g : En → M Bool) : En → M Bool := fun ρ => (f ρ).bind fun b => if b = true then g ρ else M.pure false
def tOr (f g : En → M Bool) : En → M Bool := fun ρ => (f ρ).bind fun b => if b = true then M.pure true else g ρ
theorem dt_not (h : DT X W a ta) : DT X W (.UnaryOp .Not a pos) (tNt ta) := PT.of (pt_not h) fun σ H Q ⟨w, hd, h, ρ, c, k⟩ =>
  tB.run c (wp_bind.mp k) (fun d h' H' w' q s _ => q H' w' s) fun _ _ _ z => z
theorem dw_and1 (h : DT X W a ta) : DW X W (.BoolOp .And [a] pos) ta := pw_and1 h
theorem dw_or1 (h : DT X W a ta) : DW X W (.BoolOp .Or [a] pos) ta := pw_or1 h
theorem dw_and {rest : List Expr} (ha : DT X W a ta) (hb : DW X W (.BoolOp .And (b :: rest) pos) tb) : DW X W (.BoolOp .And (a :: b :: rest) pos) (tAn ta tb) :=
  PW.of (pw_and ha hb) fun σ H Q ⟨w, hd, h, ρ, c, k⟩ => tB.run c (wp_bind.mp k) (fun d h' H' w' q s c' => by
    cases d with
    | true =>
      rw [if_pos rfl] at q
      exact iteT (tB.run c' q (fun d2 h2 H2 w2 q2 s2 _ => q2 H2 w2 (s.trans s2)) fun _ _ _ z cls dx H' w' s' => z cls dx H' w' (s.trans s'))
    | false =>
      rw [if_neg (by decide)] at q
      exact iteF (q H' w' s)) fun _ _ _ z => z
theorem dw_or {rest : List Expr} (ha : DT X W a ta) (hb : DW X W (.BoolOp .Or (b :: rest) pos) tb) : DW X W (.BoolOp .Or (a :: b :: rest) pos) (tOr ta tb) :=
  PW.of (pw_or ha hb) fun σ H Q ⟨w, hd, h, ρ, c, k⟩ => tB.run c (wp_bind.mp k) (fun d h' H' w' q s c' => by
    cases d with
    | false =>
      rw [if_neg (by decide)] at q
      exact iteF (tB.run c' q (fun d2 h2 H2 w2 q2 s2 _ => q2 H2 w2 (s.trans s2)) fun _ _ _ z cls dx H' w' s' => z cls dx H' w' (s.trans s'))
    | true =>
      rw [if_pos rfl] at q
      exact iteT (q H' w' s)) fun _ _ _ z => z
theorem dt_bool (h : DW X W e ta) : DT X W e ta := PW.pt h
/-- as values: bools -/
def eNt (f : En → M D) : En → M D := fun ρ => (f ρ).bind fun d => (M.of (asB d)).bind fun b => M.pure (.bl (!b))
def eAn (f g : En → M D) : En → M D := fun ρ => (f ρ).bind fun d => (M.of (asB d)).bind fun b => if b = true then g ρ else M.pure (.bl false)
def eOr (f g : En → M D) : En → M D := fun ρ => (f ρ).bind fun d => (M.of (asB d)).bind fun b => if b = true then M.pure (.bl true) else g ρ
theorem d_not (h : DE X W a fa) : DE X W (.UnaryOp .Not a pos) (eNt fa) := PE.of (pe_not h) fun σ H Q ⟨w, hd, h, ρ, c, k⟩ =>
  tE.run c (wp_bind.mp k) (fun d1 h1 v1 H1 w1 k1 s1 c1 t1 => by
    obtain ⟨b, hb, q⟩ := wp_of.mp (wp_bind.mp k1)
    cases asB_some hb
    cases t1
    exact ⟨b, rfl, q _ H1 w1 s1 (.bl _)⟩) fun _ _ _ z => z
theorem d_one {op} (h : DE X W a fa) : DE X W (.BoolOp op [a] pos) fa := pe_one h
theorem d_and {rest : List Expr} (ha : DE X W a fa) (hb : DE X W (.BoolOp .And (b :: rest) pos) fb) : DE X W (.BoolOp .And (a :: b :: rest) pos) (eAn fa fb) :=
  PE.of (pe_and ha hb) fun σ H Q ⟨w, hd, h, ρ, c, k⟩ => tE.run c (wp_bind.mp k) (fun d1 h1 v1 H1 w1 k1 s1 c1 t1 => by
    obtain ⟨b, hb, q⟩ := wp_of.mp (wp_bind.mp k1)
    cases asB_some hb
    cases t1
    refine ⟨b, rfl, ?_⟩
    cases b with
    | true =>
      rw [if_pos rfl] at q
      exact iteT (tE.run c1 q (fun d2 h2 v2 H2 w2 q2 s2 _ t2 => q2 v2 H2 w2 (s1.trans s2) t2) fun _ _ _ z cls dx H' w' s' => z cls dx H' w' (s1.trans s'))
    | false =>
      rw [if_neg (by decide)] at q
      exact iteF (q _ H1 w1 s1 (.bl _))) fun _ _ _ z => z
theorem d_or {rest : List Expr} (ha : DE X W a fa) (hb : DE X W (.BoolOp .Or (b :: rest) pos) fb) : DE X W (.BoolOp .Or (a :: b :: rest) pos) (eOr fa fb) :=
  PE.of (pe_or ha hb) fun σ H Q ⟨w, hd, h, ρ, c, k⟩ => tE.run c (wp_bind.mp k) (fun d1 h1 v1 H1 w1 k1 s1 c1 t1 => by
    obtain ⟨b, hb, q⟩ := wp_of.mp (wp_bind.mp k1)
    cases asB_some hb
    cases t1
    refine ⟨b, rfl, ?_⟩
    cases b with
    | false =>
      rw [if_neg (by decide)] at q
      exact iteF (tE.run c1 q (fun d2 h2 v2 H2 w2 q2 s2 _ t2 => q2 v2 H2 w2 (s1.trans s2) t2) fun _ _ _ z cls dx H' w' s' => z cls dx H' w' (s1.trans s'))
    | true =>
      rw [if_pos rfl] at q
      exact iteT (q _ H1 w1 s1 (.bl _))) fun _ _ _ z => z
def eIf (t : En → M Bool) (f g : En → M D) : En → M D := fun ρ => (t ρ).bind fun b => if b = true then f ρ else g ρ
theorem d_if (hc : DT X W c tc) (ha : DE X W a fa) (hb : DE X W b fb) : DE X W (.IfExp c a b pos) (eIf tc fa fb) :=
  PE.of (pe_ifExp hc ha hb) fun σ H Q ⟨w, hd, h, ρ, c, k⟩ => tB.run c (wp_bind.mp k) (fun d h' H' w' q s c' => by
    cases d with
    | false =>
      rw [if_neg (by decide)] at q
      exact iteF (tE.run c' q (fun d2 h2 v2 H2 w2 q2 s2 _ t2 => q2 v2 H2 w2 (s.trans s2) t2) fun _ _ _ z cls dx H' w' s' => z cls dx H' w' (s.trans s'))
    | true =>
      rw [if_pos rfl] at q
      exact iteT (tE.run c' q (fun d2 h2 v2 H2 w2 q2 s2 _ t2 => q2 v2 H2 w2 (s.trans s2) t2) fun _ _ _ z cls dx H' w' s' => z cls dx H' w' (s.trans s'))) fun _ _ _ z => z
/-! arguments -/
def aNil : En → M (List D) := fun _ => M.pure []
def aCons (f : En → M D) (g : En → M (List D)) : En → M (List D) := fun ρ => (f ρ).bind fun d => (g ρ).bind fun ds => M.pure (d :: ds)
variable {ga : En → M (List D)}
theorem da_nil : DA X W [] aNil := PA.of pa_nil fun σ H Q ⟨w, hd, h, ρ, c, k⟩ => k [] H w (Step.refl c.hr) .nil
theorem da_cons (ha : DE X W e f) (hr : DA X W es ga) (hs : starEach (e :: es) X.env = (false, eval e X.env) :: starEach es X.env := by rfl) : DA X W (e :: es) (aCons f ga) :=
  PA.of (pa_cons ha hr hs) fun σ H Q ⟨w, hd, h, ρ, c, k⟩ => tE.run c (wp_bind.mp k) (fun d1 h1 v1 H1 w1 k1 s1 c1 t1 =>
    tL.run c1 (wp_bind.mp k1) (fun d2 h2 v2 H2 w2 k2 s2 c2 t2 => k2 _ H2 w2 (s1.trans s2) (.cons (t1.to (s2.to c1.hr)) t2)) fun _ _ _ z cls dx H' w' s' => z cls dx H' w' (s1.trans s')) fun _ _ _ z => z
/-- displays -/
def tupP : List D → Option D := fun ds => if ds.length ≤ sizeLine then some (.tup ds) else none
def lstP : List D → Option D := fun ds => if ds.length ≤ sizeLine then some (.lst ds) else none
def eTup (g : En → M (List D)) : En → M D := fun ρ => (g ρ).bind fun ds => M.of (tupP ds)
def eLst (g : En → M (List D)) : En → M D := fun ρ => (g ρ).bind fun ds => M.of (lstP ds)
theorem dt_newL {w : Wd} {h : IH} {H : Hp} {p : Addr} {xs : List V} {ds : List D} (hr : HR w h H) (hp : H p = none) (t : DtL w H xs ds) : Dt w (upd H p (.lst xs)) (.ref p) (.lst ds) :=
  .lst upd_same (hr.nz hp) (t.to (To.grow (same_new hp)))
theorem dt_newT {w : Wd} {h : IH} {H : Hp} {p : Addr} {o : Obj} {xs : List V} {ds : List D} (hr : HR w h H) (hp : H p = none) (ho : o.dict = none) (t : DtL w H xs ds) : Dt w (upd H p (.frz o (.tup xs))) (.ref p) (.tup ds) :=
  .tup (.inl ⟨⟨o, upd_same, ho⟩, hr.nz hp⟩) (t.to (To.grow (same_new hp)))
theorem dt_newP {w : Wd} {h : IH} {H : Hp} {p : Addr} {xs : List V} {ds : List D} (hr : HR w h H) (hp : H p = none) (t : DtL w H xs ds) : Dt w (upd H p (.tup xs)) (.ref p) (.pr ds) :=
  .pr upd_same (hr.nz hp) (t.to (To.grow (same_new hp)))
/-- a new tuple, with its object -/
theorem lay_tup {pins : List (Addr × Obj)} {σ : L2.St} {H : Hp} {s : Shared} {xs : List V} {its : List Value} (I : Inv X pins σ H s) (r : Vals xs its) (hz : xs.length ≤ sizeLine) : Inv X pins σ (upd H s.heap.objs.size (.frz { cls := .type "tuple", data := .seq its.toArray } (.tup xs))) { s with heap := s.heap.push { cls := .type "tuple", data := .seq its.toArray } } :=
  I.laid (t' := s.toks) (o := .frz { cls := .type "tuple", data := .seq its.toArray } (.tup xs)) (fun b u e => Heap.get?_push_of_some _ e) (Nat.le_refl _) ⟨Heap.get?_push_size _ rfl, hz, its, r, ⟨_, Heap.get?_push_size _ rfl, rfl, _, rfl⟩⟩
def tTupN (t : TA) : TE := fun σ H Q => t σ H fun xs H1 => xs.length ≤ sizeLine ∧ ∀ p (o : Obj), H1 p = none → o.dict = none → Q (.ref p) (upd H1 p (.frz o (.tup xs)))
theorem pe_tupN {es : List Expr} {t : TA} {x1} (h : PA X es t) : PE X (.Tuple es x1 pos) (tTupN t) :=
  ⟨fun pins s σ H Q I hq => wpAny_Tuple_spliced (thn (h.run pos pins s σ H _ I hq) fun us s1 ⟨xs, H1, I1, r, z, q⟩ => ⟨by rw [← r.length]; exact z, ⟨.ref s1.heap.objs.size, _, lay_tup I1 r z, rfl, q _ _ (I1.hok.fresh (Nat.le_refl _)) rfl⟩⟩)⟩
theorem d_tup {x1} (h : DA X W es ga) : DE X W (.Tuple es x1 pos) (eTup ga) :=
  PE.of (pe_tupN h) fun σ H Q ⟨w, hd, h, ρ, c, k⟩ => tL.run c (wp_bind.mp k) (fun d1 h1 v1 H1 w1 k1 s1 c1 t1 => by
    obtain ⟨d, hp, q⟩ := wp_of.mp k1
    unfold tupP at hp
    split at hp
    · cases hp
      exact ⟨by rw [t1.length]; assumption, fun p o hp ho => q _ _ w1 (s1.trans (Step.grow c1.hr (same_new hp))) (dt_newT c1.hr hp ho t1)⟩
    · cases hp) fun _ _ _ z => z
theorem d_lst (h : DA X W es ga) : DE X W (.List es pos) (eLst ga) :=
  PE.of (pe_lst h) fun σ H Q ⟨w, hd, h, ρ, c, k⟩ => tL.run c (wp_bind.mp k) (fun d1 h1 v1 H1 w1 k1 s1 c1 t1 => by
    obtain ⟨d, hp, q⟩ := wp_of.mp k1
    unfold lstP at hp
    split at hp
    · cases hp
      exact ⟨by rw [t1.length]; assumption, fun p hp => q _ _ w1 (s1.trans (Step.grow c1.hr (same_new hp))) (dt_newL c1.hr hp t1)⟩
    · cases hp) fun _ _ _ z => z
/-! calls of built-ins -/
theorem t_N {p : Pn} {σ : L2.St} {H : Hp} {Q : VK} (z : tE X W (eN p ga) σ H Q) : tL X W ga σ H fun vs H1 => rN X p vs H1 Q := by
  obtain ⟨w, hd, h, ρ, c, k⟩ := z
  refine tL.run c (wp_bind.mp k) (fun d1 h1 v1 H1 w1 k1 s1 c1 t1 => ?_) fun _ _ _ z => z
  obtain ⟨d, hp, q⟩ := wp_mN.mp k1
  exact ⟨w1, h1, d1, d, c1.K, c1.mg, c1.hr, t1, hp, fun v H' g => q v H' w1 (s1.trans (Step.grow c1.hr g.1)) g.2⟩
theorem d_callB {x : Str} {id : String} {p : Pos} {q : Pn} (ho : OpN X (fun us => call (.builtin id) us) q) (ha : DA X W (e :: es) ga) (hm : X.mg x = none) (hv : bootBuiltins x = some (.builtin id)) (hg : Gl X x) (hn : x ≠ "__name__" := by decide) (hdb : (x == ("__debug__" : Str)) = false := by decide)
    (he : starEach (e :: es) X.env = (false, eval e X.env) :: starEach es X.env := by rfl) (hpl : (backTo pos (starEach es X.env)).any (·.1) = false := by rfl) : DE X W (.Call (.Name x p) (e :: es) [] pos) (eN q ga) :=
  PE.of (pe_callB (opN_R ho) hg hm hv ha hn hdb he hpl) fun _ _ _ z => t_N z
theorem d_callT {x : Str} {T : String} {p : Pos} {q : Pn} (ho : OpN X (fun us => call (.type T) us) q) (ha : DA X W (e :: es) ga) (hm : X.mg x = none) (hv : bootBuiltins x = some (.type T)) (hg : Gl X x) (hn : x ≠ "__name__" := by decide) (hdb : (x == ("__debug__" : Str)) = false := by decide)
    (he : starEach (e :: es) X.env = (false, eval e X.env) :: starEach es X.env := by rfl) (hpl : (backTo pos (starEach es X.env)).any (·.1) = false := by rfl) : DE X W (.Call (.Name x p) (e :: es) [] pos) (eN q ga) :=
  PE.of (pe_callTy (opN_R ho) hg hm hv ha hn hdb he hpl) fun _ _ _ z => t_N z
/-! subscripts -/
def Ix2 (X : Cx) (p : P2) : Prop := ∃ r, IxR X r ∧ ∀ (w : Wd) (h : IH) (H : Hp) (x y : V) (d1 d2 d : D) (Q : VK), w.K = X.K → w.mg = X.mg → HR w h H → Dt w H x d1 → Dt w H y d2 → p h d1 d2 = some d → (∀ v H', Grow w H d v H' → Q v H') → r x y H Q
theorem d_ix {p : P2} (ho : Ix2 X p) (ha : DE X W a fa) (hb : DE X W b fb) (hs : PlainIx b := by intro _ _; rfl) : DE X W (.Subscript a b pos) (e2 p fa fb) := by
  obtain ⟨r, hr, w⟩ := ho
  refine PE.of (pe_ix hr ha hb hs) fun σ H Q z => ?_
  have y := t_op2 z
  obtain ⟨w0, hd, h, ρ, c, k⟩ := z
  refine tE.run c (wp_bind.mp k) (fun d1 h1 v1 H1 w1 k1 s1 c1 t1 => ?_) fun _ _ _ z => z
  refine tE.run c1 (wp_bind.mp k1) (fun d2 h2 v2 H2 w2 k2 s2 c2 t2 => ?_) fun _ _ _ z cls dx H' w' s => z cls dx H' w' (s1.trans s)
  obtain ⟨d, hp, q⟩ := wp_m2.mp k2
  exact w w2 h2 H2 v1 v2 d1 d2 d Q c2.K c2.mg c2.hr (t1.to (s2.to c1.hr)) t2 hp fun v H' g => q v H' w2 ((s1.trans s2).trans (Step.grow c2.hr g.1)) g.2
end
end WR
set_option Elab.async false
set_option linter.all false
set_option autoImplicit false
set_option maxRecDepth 100000
set_option maxHeartbeats 4000000
namespace WR
open PySem L2
/-! ### lists of one's own -/
def Wd.plus (w : Wd) (p : Addr) : Wd := { w with Z := fun a => w.Z a ∨ a = p }
def Wd.minus (w : Wd) (p : Addr) : Wd := { w with Z := fun a => w.Z a ∧ a ≠ p }
section
variable {w w' w2 : Wd} {h h' h2 : IH} {H H' H2 : Hp} {p : Addr}
theorem To.plus (hp : H p = none) {o : HO} : To w H (w.plus p) (upd H p o) := ⟨rfl, rfl, fun _ _ h => h, fun a o e _ => same_new hp a o e, fun a n ⟨o, e⟩ z => z.elim n fun q => by rw [q, hp] at e; cases e⟩
theorem To.minus : To w H (w.minus p) H := ⟨rfl, rfl, fun _ _ h => h, fun a o e _ => e, fun a n _ z => n z.1⟩
theorem HR.plus (r : HR w h H) (hp : H p = none) {o : HO} : HR (w.plus p) h (upd H p o) where
  len := r.len
  nd := r.nd
  dom := fun a z => by
    rcases z with z | rfl
    · obtain ⟨u, e⟩ := r.dom a z
      exact ⟨u, same_new hp a u e⟩
    · exact ⟨o, upd_same⟩
  mz := fun a m => .inl (r.mz a m)
  at_ := fun l a u e1 e2 => (r.at_ l a u e1 e2).to (To.plus hp) (upd_ne fun z => r.nm hp (z ▸ List.mem_of_getElem? e1))
theorem HR.minus (r : HR w h H) (n : p ∉ w.m) : HR (w.minus p) h H where
  len := r.len
  nd := r.nd
  dom := fun a z => r.dom a z.1
  mz := fun a m => ⟨r.mz a m, fun z => n (z ▸ m)⟩
  at_ := fun l a u e1 e2 => (r.at_ l a u e1 e2).to To.minus rfl
theorem Step.plus (r : HR w h H) (hp : H p = none) {o : HO} : Step w H (w.plus p) h (upd H p o) :=
  ⟨rfl, rfl, ⟨[], by show w.m = w.m ++ []; simp, fun _ z => nomatch z⟩, fun _ z => .inl z, fun a z => z.elim .inl fun q => .inr (q ▸ hp), fun a o e _ => same_new hp a o e, r.plus hp⟩
/-- the new thing is a datum like all others -/
theorem Step.frz (s : Step w H w' h' H') (r : HR w h H) (hp : H p = none) (n : p ∉ w'.m) : Step w H (w'.minus p) h' H' :=
  ⟨s.K, s.mg, s.m, fun a z => ⟨s.up a z, fun q => r.nz hp (q ▸ z)⟩, fun a z => s.new a z.1, s.ext, s.hr.minus n⟩
theorem To.touch (z : w.Z p) {u : HO} : To w H w (upd H p u) := ⟨rfl, rfl, fun _ _ h => h, fun a o e n => by rw [upd_ne fun q => n (by rw [q]; exact z)]; exact e, fun _ n _ => n⟩
theorem HR.touch (r : HR w h H) (z : w.Z p) (n : p ∉ w.m) {u : HO} : HR w h (upd H p u) where
  len := r.len
  nd := r.nd
  dom := fun a za => by
    by_cases e : a = p
    · exact ⟨u, by rw [e, upd_same]⟩
    · obtain ⟨o, q⟩ := r.dom a za
      exact ⟨o, by rw [upd_ne e]; exact q⟩
  mz := r.mz
  at_ := fun l a o e1 e2 => (r.at_ l a o e1 e2).to (To.touch z) (upd_ne fun q => n (q ▸ List.mem_of_getElem? e1))
end
def tO (X : Cx) (W : WX) (g : En → M (List D)) : TE := fun σ H Q => ∃ w hd h ρ, Cur X w hd h ρ σ H ∧
  ((g ρ) h).wp (fun ds h' => ∀ p xs H' w', Step w H w' h' H' → H p = none → w'.Z p → p ∉ w'.m → H' p = some (.lst xs) → DtL w' H' xs ds → Q (.ref p) H') (fun c fs h' => ∀ cls dx H' w', Step w H w' h' H' → ExD w' H' cls dx c fs → W cls dx σ H')
/-- e makes a new list -/
abbrev DO (X : Cx) (W : WX) (e : Expr) (g : En → M (List D)) : Prop := PE X e (tO X W g)
def eFz (g : En → M (List D)) : En → M D := fun ρ => (g ρ).bind fun ds => M.pure (.lst ds)
def newM (o : IO) : M D := fun h => .ok (.loc h.length) (h ++ [o])
def eNew (g : En → M (List D)) : En → M D := fun ρ => (g ρ).bind fun ds => newM (.lst ds)
def sizM (g : En → M (List D)) : En → M (List D) := fun ρ => (g ρ).bind fun ds => M.of (if ds.length ≤ sizeLine then some ds else none)
/-- an object of one's own moves to the objects that may change -/
theorem loc_move {w : Wd} {h : IH} {H : Hp} {p : Addr} {o : IO} (r : HR w h H) (z : w.Z p) (n : p ∉ w.m) (t : OR w H p o) : ∃ w', w'.K = w.K ∧ w'.mg = w.mg ∧ w'.m = w.m ++ [p] ∧ w'.Z = w.Z ∧ HR w' (h ++ [o]) H ∧ To w H w' H := by
  refine ⟨{ w with m := w.m ++ [p] }, rfl, rfl, rfl, rfl, ?_⟩
  have t0 : To w H { w with m := w.m ++ [p] } H := ⟨rfl, rfl, fun l a e => by
    show (w.m ++ [p])[l]? = some a
    rw [List.getElem?_append_left (List.getElem?_eq_some_iff.mp e).1]
    exact e, fun _ _ e _ => e, fun _ n _ => n⟩
  refine ⟨⟨by simp [r.len], ?_, r.dom, fun a m => ?_, fun l a u e1 e2 => ?_⟩, t0⟩
  · rw [List.nodup_append]
    exact ⟨r.nd, by simp, fun a m b hb e => n (by simp at hb; rw [← hb, ← e]; exact m)⟩
  · rcases List.mem_append.mp m with m | m
    · exact r.mz a m
    · simp at m
      rw [m]
      exact z
  · replace e1 : (w.m ++ [p])[l]? = some a := e1
    by_cases hl : l < w.m.length
    · rw [List.getElem?_append_left hl] at e1
      rw [List.getElem?_append_left (by rw [← r.len]; exact hl)] at e2
      exact (r.at_ l a u e1 e2).to t0 rfl
    · have hl' : l = w.m.length := by
        have := (List.getElem?_eq_some_iff.mp e1).1
        rw [List.length_append] at this
        simp at this
        omega
      subst hl'
      rw [List.getElem?_append_right (Nat.le_refl _)] at e1
      rw [r.len, List.getElem?_append_right (Nat.le_refl _)] at e2
      simp at e1 e2
      subst e1 e2
      exact t.to t0 rfl
section
variable {X : Cx} {W : WX} {e a b c : Expr} {es : List Expr} {pos : Pos} {f fa fb fc : En → M D} {g ga : En → M (List D)}
theorem d_frz (h : DO X W e g) : DE X W e (eFz g) := PE.of h fun σ H Q ⟨w, hd, h, ρ, c, k⟩ => ⟨w, hd, h, ρ, c, (wp_bind.mp k).mono (fun ds h' q p xs H' w' s hp z n e t =>
  q _ _ _ (s.frz c.hr hp n) (.lst e (fun q => q.2 rfl) (t.to To.minus))) fun _ _ _ z => z⟩
theorem d_new (h : DO X W e g) : DE X W e (eNew g) := PE.of h fun σ H Q ⟨w, hd, h, ρ, c, k⟩ => ⟨w, hd, h, ρ, c, (wp_bind.mp k).mono (fun ds h' q p xs H' w' s hp z n e t => by
  obtain ⟨w2, e1, e2, e3, e4, r2, t2⟩ := loc_move s.hr z n (o := .lst ds) ⟨xs, e, t⟩
  obtain ⟨m, hm, hf⟩ := s.m
  have s2 : Step w H w2 (h' ++ [.lst ds]) H' := ⟨e1.trans s.K, e2.trans s.mg, ⟨m ++ [p], by rw [e3, hm, List.append_assoc], fun a ha => by
    rcases List.mem_append.mp ha with ha | ha
    · exact hf a ha
    · simp at ha
      rw [ha]
      exact hp⟩, fun a z => by rw [e4]; exact s.up a z, fun a z => s.new a (by rw [← e4]; exact z), s.ext, r2⟩
  refine q _ _ _ s2 (.loc ?_)
  rw [e3, ← s.hr.len, List.getElem?_append_right (Nat.le_refl _)]
  simp) fun _ _ _ z => z⟩
theorem wp_siz {ρ : En} {h : IH} {Q : List D → IH → Prop} {E : Str → List (Str × D) → IH → Prop} (k : ((sizM g ρ) h).wp Q E) : ((g ρ) h).wp (fun ds h' => ds.length ≤ sizeLine ∧ Q ds h') E :=
  (wp_bind.mp k).mono (fun ds h' q => by
    obtain ⟨b, hb, q⟩ := wp_of.mp q
    split at hb
    · cases hb
      exact ⟨by assumption, q⟩
    · cases hb) fun _ _ _ z => z
/-- a display -/
theorem do_lst (h : DA X W es ga) : DO X W (.List es pos) (sizM ga) :=
  PE.of (pe_lst h) fun σ H Q ⟨w, hd, h, ρ, c, k⟩ => tL.run c (wp_siz k) (fun d1 h1 v1 H1 w1 k1 s1 c1 t1 =>
    ⟨by rw [t1.length]; exact k1.1, fun p hp => k1.2 p v1 _ (w1.plus p) (s1.trans (Step.plus c1.hr hp)) (s1.there hp) (.inr rfl) (c1.hr.nm hp) upd_same (t1.to (To.plus hp))⟩) fun _ _ _ z => z
end
/-! ### statements -/
inductive SR where
  | nx (ρ : En) (h : IH) | rt (d : D) (h : IH) | bk (ρ : En) (h : IH) | ct (ρ : En) (h : IH) | ex (c : Str) (fs : List (Str × D)) (ρ : En) (h : IH) | ro (ds : List D) (h : IH) | no
abbrev MS := En → IH → SR
structure Out where
  nx : En → IH → Prop
  rt : D → IH → Prop
  bk : En → IH → Prop
  ct : En → IH → Prop
  ex : Str → List (Str × D) → En → IH → Prop
  ro : List D → IH → Prop
def SR.wp (r : SR) (O : Out) : Prop := match r with
  | .nx ρ h => O.nx ρ h
  | .rt d h => O.rt d h
  | .bk ρ h => O.bk ρ h
  | .ct ρ h => O.ct ρ h
  | .ex c fs ρ h => O.ex c fs ρ h
  | .ro ds h => O.ro ds h
  | .no => False
structure Out.Imp (O O' : Out) : Prop where
  nx : ∀ ρ h, O.nx ρ h → O'.nx ρ h
  rt : ∀ d h, O.rt d h → O'.rt d h
  bk : ∀ ρ h, O.bk ρ h → O'.bk ρ h
  ct : ∀ ρ h, O.ct ρ h → O'.ct ρ h
  ex : ∀ c fs ρ h, O.ex c fs ρ h → O'.ex c fs ρ h
  ro : ∀ ds h, O.ro ds h → O'.ro ds h
theorem SR.wp.mono {r : SR} {O O' : Out} (k : r.wp O) (i : O.Imp O') : r.wp O' := by
  cases r with
  | nx ρ h => exact i.nx _ _ k
  | rt ρ h => exact i.rt _ _ k
  | bk ρ h => exact i.bk _ _ k
  | ct ρ h => exact i.ct _ _ k
  | ex c fs ρ h => exact i.ex _ _ _ _ k
  | ro ds h => exact i.ro _ _ k
  | no => exact k
/-- an expression's answer within a statement -/
def Res.on {α : Type} (r : Res α) (ρ : En) (k : α → IH → SR) : SR := match r with
  | .ok a h => k a h
  | .ex c fs h => .ex c fs ρ h
  | .no => .no
theorem wp_on {α : Type} {r : Res α} {ρ : En} {k : α → IH → SR} {O : Out} : (r.on ρ k).wp O ↔ r.wp (fun a h => (k a h).wp O) (fun c fs h => O.ex c fs ρ h) := by
  cases r <;> exact Iff.rfl
/-- the state where a body began -/
structure Bs where
  w : Wd
  H : Hp
  dom : ∀ a, w.Z a → ∃ o, H a = some o
  sx : Option Addr
/-- an own thing at a: new since the start; the instance that is being made is that one -/
def FrOk (B : Bs) (s : Sl) (a : Addr) : Prop := B.H a = none ∧ ∀ c fs, s = .slf c fs → B.sx = some a
structure StR (X : Cx) (B : Bs) (w : Wd) (hd : Hd) (h : IH) (ρ : En) (σ : L2.St) (H : Hp) : Prop extends Cur X w hd h ρ σ H where
  bs : Step B.w B.H w h H
  fr : ∀ (i : Nat) (s : Sl) (a : Addr), ρ[i]? = some (some s) → s.owned = true → σ[i]? = some (some (.ref a)) → FrOk B s a
theorem StR.step {X : Cx} {B : Bs} {w w' : Wd} {hd : Hd} {h h' : IH} {ρ : En} {σ : L2.St} {H H' : Hp} (c : StR X B w hd h ρ σ H) (s : Step w H w' h' H') : StR X B w' hd h' ρ σ H' :=
  ⟨c.toCur.step s, c.bs.trans s, c.fr⟩
def outS (X : Cx) (B : Bs) (W : WX) (w : Wd) (hd : Hd) (H : Hp) (E : Ends) : Out where
  nx := fun ρ' h' => ∀ σ' H' w', To w H w' H' → StR X B w' hd h' ρ' σ' H' → E.nx σ' H'
  rt := fun d h' => ∀ v H' w', Step B.w B.H w' h' H' → Dt w' H' v d → E.rt v H'
  bk := fun ρ' h' => ∀ σ' H' w', To w H w' H' → StR X B w' hd h' ρ' σ' H' → E.bk σ' H'
  ct := fun ρ' h' => ∀ σ' H' w', To w H w' H' → StR X B w' hd h' ρ' σ' H' → E.ct σ' H'
  ex := fun c fs ρ' h' => ∀ cls dx σ' H' w', To w H w' H' → StR X B w' hd h' ρ' σ' H' → ExD w' H' cls dx c fs → W cls dx σ' H'
  ro := fun ds h' => ∀ p xs H' w', Step B.w B.H w' h' H' → B.H p = none → w'.Z p → p ∉ w'.m → H' p = some (.lst xs) → DtL w' H' xs ds → E.rt (.ref p) H'
def tS (X : Cx) (B : Bs) (W : WX) (f : MS) : TS := fun E σ H => ∃ w hd h ρ, StR X B w hd h ρ σ H ∧ (f ρ h).wp (outS X B W w hd H E)
abbrev DS (X : Cx) (B : Bs) (W : WX) (st : Stmt) (f : MS) : Prop := PS X st (tS X B W f)
abbrev DSs (X : Cx) (B : Bs) (W : WX) (st : List Stmt) (f : MS) : Prop := PSs X st (tS X B W f)
theorem outS.on {X : Cx} {B : Bs} {W : WX} {w w1 : Wd} {hd : Hd} {H H1 : Hp} {E : Ends} (t : To w H w1 H1) : (outS X B W w hd H E).Imp (outS X B W w1 hd H1 E) :=
  ⟨fun ρ h q σ' H' w' t' => q σ' H' w' (t.trans t'), fun d h q => q, fun ρ h q σ' H' w' t' => q σ' H' w' (t.trans t'), fun ρ h q σ' H' w' t' => q σ' H' w' (t.trans t'), fun c fs ρ h q cls dx σ' H' w' t' => q cls dx σ' H' w' (t.trans t'), fun _ _ q => q⟩
section
variable {X : Cx} {B : Bs} {W : WX} {st : Stmt} {rest body els : List Stmt} {e a b c : Expr} {es : List Expr} {pos : Pos} {f fa fb fc : En → M D} {g ga : En → M (List D)} {F F1 F2 : MS}
theorem PS.of {t t' : TS} (h : PS X st t) (w : ∀ E σ H, t' E σ H → t E σ H) : PS X st t' := ⟨fun pins s σ H E I q => h.run pins s σ H E I (w E σ H q)⟩
theorem PSs.of {t t' : TS} (h : PSs X rest t) (w : ∀ E σ H, t' E σ H → t E σ H) : PSs X rest t' := ⟨fun pins s σ H E I q => h.run pins s σ H E I (w E σ H q)⟩
/-- an expression within a statement -/
theorem tE.stm {w : Wd} {hd : Hd} {h : IH} {ρ : En} {σ : L2.St} {H : Hp} {Q : VK} {E : Ends} {k : D → IH → SR} (c : StR X B w hd h ρ σ H) (z : ((f ρ h).on ρ k).wp (outS X B W w hd H E))
    (hA : ∀ d h' v H' w', (k d h').wp (outS X B W w hd H E) → Step w H w' h' H' → To w H w' H' → StR X B w' hd h' ρ σ H' → Dt w' H' v d → Q v H') : tE X W f σ H Q :=
  tE.run c.toCur (wp_on.mp z) (fun d h' v H' w' q s _ t => hA d h' v H' w' q s (s.to c.hr) (c.step s) t) fun c' fs h' q cls dx H' w' s x => q cls dx σ H' w' (s.to c.hr) (c.step s) x
theorem tB.stm {f : En → M Bool} {w : Wd} {hd : Hd} {h : IH} {ρ : En} {σ : L2.St} {H : Hp} {Q : Bool → Hp → Prop} {E : Ends} {k : Bool → IH → SR} (c : StR X B w hd h ρ σ H) (z : ((f ρ h).on ρ k).wp (outS X B W w hd H E))
    (hA : ∀ d h' H' w', (k d h').wp (outS X B W w hd H E) → Step w H w' h' H' → To w H w' H' → StR X B w' hd h' ρ σ H' → Q d H') : tB X W f σ H Q :=
  tB.run c.toCur (wp_on.mp z) (fun d h' H' w' q s _ => hA d h' H' w' q s (s.to c.hr) (c.step s)) fun c' fs h' q cls dx H' w' s x => q cls dx σ H' w' (s.to c.hr) (c.step s) x
theorem tL.stm {f : En → M (List D)} {w : Wd} {hd : Hd} {h : IH} {ρ : En} {σ : L2.St} {H : Hp} {Q : List V → Hp → Prop} {E : Ends} {k : List D → IH → SR} (c : StR X B w hd h ρ σ H) (z : ((f ρ h).on ρ k).wp (outS X B W w hd H E))
    (hA : ∀ d h' v H' w', (k d h').wp (outS X B W w hd H E) → Step w H w' h' H' → To w H w' H' → StR X B w' hd h' ρ σ H' → DtL w' H' v d → Q v H') : tL X W f σ H Q :=
  tL.run c.toCur (wp_on.mp z) (fun d h' v H' w' q s _ t => hA d h' v H' w' q s (s.to c.hr) (c.step s) t) fun c' fs h' q cls dx H' w' s x => q cls dx σ H' w' (s.to c.hr) (c.step s) x
def sNil : MS := fun ρ h => .nx ρ h
def sSeq (F G : MS) : MS := fun ρ h => match F ρ h with
  | .nx ρ' h' => G ρ' h'
  | r => r
theorem wp_seq {F G : MS} {ρ : En} {h : IH} {O : Out} : (sSeq F G ρ h).wp O ↔ (F ρ h).wp { O with nx := fun ρ' h' => (G ρ' h').wp O } := by
  unfold sSeq
  cases F ρ h <;> exact Iff.rfl
theorem s_nil : DSs X B W [] sNil := PSs.of pss_nil fun E σ H ⟨w, hd, h, ρ, c, k⟩ => k σ H w To.refl c
theorem s_cons (h1 : DS X B W st F1) (h2 : DSs X B W rest F2) : DSs X B W (st :: rest) (sSeq F1 F2) :=
  PSs.of (pss_cons h1 h2) fun E σ H ⟨w, hd, h, ρ, c, k⟩ => ⟨w, hd, h, ρ, c, (wp_seq.mp k).mono
    ⟨fun ρ' h' q σ' H' w' t' c' => ⟨w', hd, h', ρ', c', q.mono (outS.on t')⟩, fun _ _ q => q, fun _ _ q => q, fun _ _ q => q, fun _ _ _ _ q => q, fun _ _ q => q⟩⟩
theorem s_one (h : DS X B W st F) : DSs X B W [st] F := pss_one h
def sPass : MS := fun ρ h => .nx ρ h
def sBrk : MS := fun ρ h => .bk ρ h
def sCnt : MS := fun ρ h => .ct ρ h
theorem s_pass : DS X B W (.Pass pos) sPass := PS.of ps_pass fun E σ H ⟨w, hd, h, ρ, c, k⟩ => k σ H w To.refl c
theorem s_break : DS X B W (.Break pos) sBrk := PS.of ps_break fun E σ H ⟨w, hd, h, ρ, c, k⟩ => k σ H w To.refl c
theorem s_continue : DS X B W (.Continue pos) sCnt := PS.of ps_continue fun E σ H ⟨w, hd, h, ρ, c, k⟩ => k σ H w To.refl c
def sRet (f : En → M D) : MS := fun ρ h => (f ρ h).on ρ fun d h' => .rt d h'
def sRetN : MS := fun ρ h => .rt .non h
theorem s_ret (hf : DE X W e f) : DS X B W (.Return (some e) pos) (sRet f) := PS.of (ps_ret hf) fun E σ H ⟨w, hd, h, ρ, c, k⟩ =>
  tE.stm c k fun d h' v H' w' q s t c' td => q v H' w' c'.bs td
theorem s_retN : DS X B W (.Return none pos) sRetN := PS.of ps_retN fun E σ H ⟨w, hd, h, ρ, c, k⟩ => k .non H w c.bs .non
def sExp (f : En → M D) : MS := fun ρ h => (f ρ h).on ρ fun _ h' => .nx ρ h'
theorem s_expr (hf : DE X W e f) (hs : swapsWith e none pos.line X.env = pure false := by rfl) : DS X B W (.Expr e pos) (sExp f) := PS.of (ps_expr hf hs) fun E σ H ⟨w, hd, h, ρ, c, k⟩ =>
  tE.stm c k fun d h' v H' w' q s t c' td => q σ H' w' t c'
def sIf (t : En → M Bool) (F G : MS) : MS := fun ρ h => (t ρ h).on ρ fun b h' => if b = true then F ρ h' else G ρ h'
theorem s_if {t : En → M Bool} (hc : DT X W c t) (ha : DSs X B W body F1) (hb : DSs X B W els F2) : DS X B W (.If c body els pos) (sIf t F1 F2) :=
  PS.of (ps_if hc ha hb) fun E σ H ⟨w, hd, h, ρ, c, k⟩ => tB.stm c k fun d h' H' w' q s t c' => by
    cases d with
    | true => exact iteT ⟨w', hd, h', ρ, c', by rw [if_pos rfl] at q; exact q.mono (outS.on t)⟩
    | false => exact iteF ⟨w', hd, h', ρ, c', by rw [if_neg (by decide)] at q; exact q.mono (outS.on t)⟩
/-! ### targets -/
/-- what a target does with a datum; vs: its slots -/
def GOk (X : Cx) (gt : TG) (f : D → En → Option En) (vs : List Nat) : Prop :=
  ∀ (w : Wd) (hd : Hd) (v : V) (σ : L2.St) (H : Hp) (ρ : En) (d : D) (ρ' : En), w.K = X.K → f d ρ = some ρ' → Rep w hd H σ ρ → Dt w H v d → ∀ Q : L2.St → Hp → Prop,
    (∀ σ', Rep w hd H σ' ρ' → (∀ (i : Nat) (s : Sl), ρ'[i]? = some (some s) → s.owned = true → ρ[i]? = some (some s) ∧ σ'[i]? = σ[i]?) → (∀ us : List Nat, (∀ i ∈ vs, i ∈ us) → wipe σ' us = wipe σ us) → Q σ' H) → gt v σ H Q
def GsOk (X : Cx) (gt : TGs) (f : List D → En → Option En) (vs : List Nat) : Prop :=
  ∀ (w : Wd) (hd : Hd) (v : List V) (σ : L2.St) (H : Hp) (ρ : En) (d : List D) (ρ' : En), w.K = X.K → f d ρ = some ρ' → Rep w hd H σ ρ → DtL w H v d → ∀ Q : L2.St → Hp → Prop,
    (∀ σ', Rep w hd H σ' ρ' → (∀ (i : Nat) (s : Sl), ρ'[i]? = some (some s) → s.owned = true → ρ[i]? = some (some s) ∧ σ'[i]? = σ[i]?) → (∀ us : List Nat, (∀ i ∈ vs, i ∈ us) → wipe σ' us = wipe σ us) → Q σ' H) → gt v σ H Q
def DG (X : Cx) (tg : Expr) (f : D → En → Option En) (vs : List Nat) : Prop := ∃ gt, PG X tg gt ∧ GOk X gt f vs
def DGs (X : Cx) (tg : List Expr) (f : List D → En → Option En) (vs : List Nat) : Prop := ∃ gt, PGs X tg gt ∧ GsOk X gt f vs
def tgN (i : Nat) : D → En → Option En := fun d ρ => some (ρ.set i (some (.val d)))
theorem g_name (i : Nat) {x : Str} (hN : X.N.Nodup) (hi : X.N[i]? = some x) (hx : Loc X.env.scope x) (hf : X.fn x = true ∨ X.env.scope.names.lookup x = some .local) : DG X (.Name x pos) (tgN i) [i] := by
  refine ⟨_, pg_name (i := i) hN hi hx hf, fun w hd v σ H ρ d ρ' _ hf r t Q q => ?_⟩
  cases hf
  refine q _ (r.set t) (fun j s hj ho => ?_) fun us h => wipe_set (h i (by simp))
  rcases set_some hj with ⟨rfl, rfl, _⟩ | ⟨hne, hj⟩
  · cases ho
  · exact ⟨hj, by rw [List.getElem?_set_ne (Ne.symm hne)]⟩
def tgNil : List D → En → Option En := fun ds ρ => match ds with
  | [] => some ρ
  | _ => none
def tgCons (f : D → En → Option En) (g : List D → En → Option En) : List D → En → Option En := fun ds ρ => match ds with
  | d :: ds => (f d ρ).bind (g ds)
  | [] => none
theorem gs_nil : DGs X [] tgNil [] := ⟨_, pgs_nil, fun w hd v σ H ρ d ρ' _ hf r t Q q => by
  unfold tgNil at hf
  split at hf
  · cases hf
    cases t
    exact ⟨rfl, q σ r (fun _ _ h _ => ⟨h, rfl⟩) fun _ _ => rfl⟩
  · cases hf⟩
theorem gs_cons {tf : D → En → Option En} {tg : List D → En → Option En} {vs us : List Nat} (h1 : DG X e tf vs) (h2 : DGs X es tg us) (hs : (assignEach (e :: es) X.env).map (·.2) = assign e X.env :: (assignEach es X.env).map (·.2) := by rfl) : DGs X (e :: es) (tgCons tf tg) (vs ++ us) := by
  obtain ⟨g1, p1, o1⟩ := h1
  obtain ⟨g2, p2, o2⟩ := h2
  refine ⟨_, pgs_cons p1 p2 hs, fun w hd v σ H ρ d ρ' hK hf r t Q q => ?_⟩
  cases t with
  | nil => cases hf
  | @cons v vs' d ds td tl =>
    obtain ⟨ρ1, hf1, hf2⟩ := Option.bind_eq_some_iff.mp (show (tf d ρ).bind (tg ds) = some ρ' from hf)
    refine ⟨v, vs', rfl, o1 w hd v σ H ρ d ρ1 hK hf1 r td _ fun σ1 r1 w1 u1 => o2 w hd vs' σ1 H ρ1 ds ρ' hK hf2 r1 tl _ fun σ2 r2 w2 u2 => q σ2 r2 (fun i s hi ho => ?_) fun us' h => ?_⟩
    · obtain ⟨a1, a2⟩ := w2 i s hi ho
      obtain ⟨b1, b2⟩ := w1 i s a1 ho
      exact ⟨b1, a2.trans b2⟩
    · rw [u2 us' fun i hi => h i (List.mem_append_right _ hi), u1 us' fun i hi => h i (List.mem_append_left _ hi)]
def tgT (f : List D → En → Option En) : D → En → Option En := fun d ρ => match d with
  | .tup ds => f ds ρ
  | .pr ds => f ds ρ
  | _ => none
theorem gs_len {tg : List D → En → Option En} {vs : List Nat} {n : Nat} : True := trivial
theorem g_tup {tf : List D → En → Option En} {vs : List Nat} {n : Nat} {k : Nat} (hc : X.calm = true) (h : DGs X es tf vs) (hl : ∀ ds ρ ρ', tf ds ρ = some ρ' → ds.length = n) (hn : (assignEach es X.env).length = n := by rfl) (hst : (assignEach es X.env).findIdx? (·.1) = none := by rfl) : DG X (.Tuple es k pos) (tgT tf) vs := by
  obtain ⟨g1, p1, o1⟩ := h
  refine ⟨_, pg_tup hc p1 hn hst, fun w hd v σ H ρ d ρ' hK hf r t Q q => ?_⟩
  unfold tgT at hf
  split at hf
  · rename_i ds
    cases t with
    | @tup a xs _ ha tl => exact ⟨a, xs, rfl, hK ▸ ha.sq, by rw [tl.length]; exact hl ds ρ ρ' hf, o1 w hd xs σ H ρ ds ρ' hK hf r tl Q q⟩
  · rename_i ds
    cases t with
    | @pr a xs _ ha hn tl => exact ⟨a, xs, rfl, .inl (.inl ha), by rw [tl.length]; exact hl ds ρ ρ' hf, o1 w hd xs σ H ρ ds ρ' hK hf r tl Q q⟩
  · cases hf
theorem tgNil_len : ∀ ds ρ ρ', tgNil ds ρ = some ρ' → ds.length = 0 := fun ds ρ ρ' h => by
  cases ds with
  | nil => rfl
  | cons d ds => cases h
theorem tgCons_len {tf : D → En → Option En} {tg : List D → En → Option En} {n : Nat} (h : ∀ ds ρ ρ', tg ds ρ = some ρ' → ds.length = n) : ∀ ds ρ ρ', tgCons tf tg ds ρ = some ρ' → ds.length = n + 1 := fun ds ρ ρ' q => by
  cases ds with
  | nil => cases q
  | cons d ds =>
    obtain ⟨ρ1, _, hf2⟩ := Option.bind_eq_some_iff.mp (show (tf d ρ).bind (tg ds) = some ρ' from q)
    rw [List.length_cons, h ds ρ1 ρ' hf2]
/-- the slots behind a target -/
theorem StR.tgt {w : Wd} {hd : Hd} {h : IH} {ρ ρ' : En} {σ σ' : L2.St} {H : Hp} (c : StR X B w hd h ρ σ H) (r : Rep w hd H σ' ρ') (o : ∀ (i : Nat) (s : Sl), ρ'[i]? = some (some s) → s.owned = true → ρ[i]? = some (some s) ∧ σ'[i]? = σ[i]?) : StR X B w hd h ρ' σ' H :=
  ⟨⟨c.K, c.mg, c.hk, c.hr, r⟩, c.bs, fun i s a h1 h2 h3 => by
    obtain ⟨a1, a2⟩ := o i s h1 h2
    exact c.fr i s a a1 h2 (by rw [← a2]; exact h3)⟩
def sAsg (f : En → M D) (t : D → En → Option En) : MS := fun ρ h => (f ρ h).on ρ fun d h' => match t d ρ with
  | some ρ' => .nx ρ' h'
  | none => .no
theorem t_asg {gt : TG} {tf : D → En → Option En} {vs : List Nat} (go : GOk X gt tf vs) {E : Ends} {σ : L2.St} {H : Hp} (z : tS X B W (sAsg f tf) E σ H) : tAsg (tE X W f) gt E σ H := by
  obtain ⟨w, hd, h, ρ, c, k⟩ := z
  refine tE.stm c k fun d h' v H' w' q s t c' td => ?_
  cases ht : tf d ρ with
  | none =>
    rw [ht] at q
    exact q.elim
  | some ρ' =>
    rw [ht] at q
    exact go w' hd v σ H' ρ d ρ' c'.K ht c'.rp td _ fun σ' r' o _ => q σ' H' w' t (c'.tgt r' o)
theorem s_set (i : Nat) {x : Str} {pos' : Pos} (hf : DE X W e f) (hN : X.N.Nodup) (hi : X.N[i]? = some x) (hx : Loc X.env.scope x) (hfn : X.fn x = true ∨ X.env.scope.names.lookup x = some .local) (hs : swapsWith e (some (.Name x pos')) pos.line X.env = pure false := by rfl) : DS X B W (.Assign [.Name x pos'] e pos) (sAsg f (tgN i)) := by
  obtain ⟨gt, _, go⟩ := g_name (X := X) (pos := pos') i hN hi hx hfn
  exact PS.of (ps_set hN hi hx hf hs hfn) fun E σ H z => t_asg (fun w hd v σ H ρ d ρ' _ hf r t Q q => by
    cases hf
    refine q _ (r.set t) (fun j s hj ho => ?_) fun us h => wipe_set (h i (by simp))
    rcases set_some hj with ⟨rfl, rfl, _⟩ | ⟨hne, hj⟩
    · cases ho
    · exact ⟨hj, by rw [List.getElem?_set_ne (Ne.symm hne)]⟩ : GOk X (gName i) (tgN i) [i]) z
theorem s_asg {tg : Expr} {tf : D → En → Option En} {vs : List Nat} (hf : DE X W e f) (hg : DG X tg tf vs) (hs : swapsWithSole [tg] e pos.line X.env = pure false := by rfl) (hw : swappedStores [tg] e X.env = pure none := by rfl)
    (h1 : (assignEach [tg] X.env).map (·.2) = [assign tg X.env] := by rfl) : DS X B W (.Assign [tg] e pos) (sAsg f tf) := by
  obtain ⟨gt, pg, go⟩ := hg
  exact PS.of (ps_asg hf pg hs hw h1) fun E σ H z => t_asg go z
/-! a list of the slot's own -/
theorem Rep.setOwn {w : Wd} {hd : Hd} {h : IH} {H : Hp} {σ : L2.St} {ρ : En} {i : Nat} {p : Addr} {xs : List V} {ds : List D} (r : Rep w hd H σ ρ) (z : w.Z p) (n : p ∉ w.m) (e : H p = some (.lst xs)) (t : DtL w H xs ds) (ap : ∀ (j : Nat) (s : Sl), ρ[j]? = some (some s) → s.owned = true → j ≠ i → σ[j]? ≠ some (some (.ref p))) : Rep w hd H (σ.set i (some (.ref p))) (ρ.set i (some (.own ds))) where
  len := by simp [r.len]
  at_ := fun j s q => by
    rcases set_some q with ⟨rfl, rfl, hi⟩ | ⟨hj, q⟩
    · exact ⟨.ref p, by rw [List.getElem?_set_self (by rw [r.len]; exact hi)], p, xs, rfl, z, n, e, t⟩
    · obtain ⟨u, h1, h2⟩ := r.at_ j s q
      exact ⟨u, by rw [List.getElem?_set_ne (Ne.symm hj)]; exact h1, h2⟩
  ap := fun j k s t' nn q1 q2 o1 o2 => by
    rcases set_some q1 with ⟨rfl, rfl, hi⟩ | ⟨hj, q1⟩
    · rcases set_some q2 with ⟨rfl, rfl, _⟩ | ⟨hk, q2⟩
      · exact absurd rfl nn
      · rw [List.getElem?_set_self (by rw [r.len]; exact hi), List.getElem?_set_ne (Ne.symm hk)]
        exact Ne.symm (ap k t' q2 o2 hk)
    · rename_i q1'
      rcases set_some q2 with ⟨e1, e2, hi⟩ | ⟨hk, q2⟩
      · rw [e1, List.getElem?_set_self (by rw [r.len]; exact hi), List.getElem?_set_ne (Ne.symm hj)]
        exact ap j s q1 o1 hj
      · rw [List.getElem?_set_ne (Ne.symm hj), List.getElem?_set_ne (Ne.symm hk)]
        exact r.ap j k s t' nn q1 q2 o1 o2
/-- an own slot lies where something is -/
theorem Rep.ownAt {w : Wd} {hd : Hd} {H : Hp} {σ : L2.St} {ρ : En} {j : Nat} {s : Sl} {a : Addr} (r : Rep w hd H σ ρ) (q : ρ[j]? = some (some s)) (o : s.owned = true) (e : σ[j]? = some (some (.ref a))) : w.Z a ∧ a ∉ w.m ∧ ∃ u, H a = some u := by
  obtain ⟨v, h1, h2⟩ := r.at_ j s q
  rw [e] at h1
  cases h1
  cases s with
  | val d => cases o
  | exn c fs => cases o
  | own ds => obtain ⟨b, xs, e1, z, n, e2, _⟩ := h2; cases e1; exact ⟨z, n, _, e2⟩
  | slf c fs => obtain ⟨b, C, dx, xs, e1, z, n, _, e2, _⟩ := h2; cases e1; exact ⟨z, n, _, e2⟩
def sOwn (i : Nat) (g : En → M (List D)) : MS := fun ρ h => (g ρ h).on ρ fun ds h' => .nx (ρ.set i (some (.own ds))) h'
theorem t_own {i : Nat} {E : Ends} {σ : L2.St} {H : Hp} (z : tS X B W (sOwn i g) E σ H) : tAsg (tO X W g) (gName i) E σ H := by
  obtain ⟨w, hd, h, ρ, c, k⟩ := z
  refine ⟨w, hd, h, ρ, c.toCur, (wp_on.mp k).mono (fun ds h' q p xs H' w' s hp z n e t => ?_) fun c' fs h' q cls dx H' w' s x => q cls dx σ H' w' (s.to c.hr) (c.step s) x⟩
  have c' := c.step s
  have ap : ∀ (j : Nat) (s : Sl), ρ[j]? = some (some s) → s.owned = true → j ≠ i → σ[j]? ≠ some (some (.ref p)) := fun j s' h1 h2 _ h3 => by
    obtain ⟨_, _, u, hu⟩ := c.rp.ownAt h1 h2 h3
    rw [hp] at hu
    cases hu
  refine q _ H' w' (s.to c.hr) ⟨⟨c'.K, c'.mg, c'.hk, c'.hr, c'.rp.setOwn (h := h') z n e t ap⟩, c'.bs, fun j s' a h1 h2 h3 => ?_⟩
  rcases set_some h1 with ⟨rfl, rfl, hi⟩ | ⟨hj, h1⟩
  · rw [List.getElem?_set_self (by rw [c.rp.len]; exact hi)] at h3
    cases h3
    exact ⟨c.bs.there hp, fun _ _ z => nomatch z⟩
  · rw [List.getElem?_set_ne (Ne.symm hj)] at h3
    exact c'.fr j s' a h1 h2 h3
theorem s_own (i : Nat) {x : Str} {pos' : Pos} (hf : DO X W e g) (hN : X.N.Nodup) (hi : X.N[i]? = some x) (hx : Loc X.env.scope x) (hfn : X.fn x = true ∨ X.env.scope.names.lookup x = some .local) (hs : swapsWith e (some (.Name x pos')) pos.line X.env = pure false := by rfl) : DS X B W (.Assign [.Name x pos'] e pos) (sOwn i g) :=
  PS.of (ps_set hN hi hx hf hs hfn) fun E σ H z => t_own z
/-- the list in slot i is a datum from here on -/
def frzE (i : Nat) (ρ : En) : En := match ρ[i]? with
  | some (some (.own ds)) => ρ.set i (some (.val (.lst ds)))
  | _ => ρ
def sFrz (i : Nat) (F : MS) : MS := fun ρ h => F (frzE i ρ) h
theorem frz_at {ρ : En} {i j : Nat} {s : Sl} (q : (frzE i ρ)[j]? = some (some s)) : ρ[j]? = some (some s) ∨ ∃ ds, j = i ∧ s = .val (.lst ds) ∧ ρ[i]? = some (some (.own ds)) := by
  unfold frzE at q
  split at q
  · rename_i ds e
    rcases set_some q with ⟨rfl, rfl, _⟩ | ⟨_, q⟩
    · exact .inr ⟨ds, rfl, rfl, e⟩
    · exact .inl q
  · exact .inl q
theorem frz_len {ρ : En} {i : Nat} : (frzE i ρ).length = ρ.length := by
  unfold frzE
  split
  · simp
  · rfl
theorem StR.frz {w : Wd} {hd : Hd} {h : IH} {ρ : En} {σ : L2.St} {H : Hp} (i : Nat) (c : StR X B w hd h ρ σ H) : ∃ w', To w H w' H ∧ StR X B w' hd h (frzE i ρ) σ H := by
  by_cases hx : ∃ ds, ρ[i]? = some (some (.own ds))
  · obtain ⟨ds, e⟩ := hx
    obtain ⟨v, e1, p, xs, rfl, z, n, e2, t⟩ := c.rp.at_ i _ e
    have hfr := (c.fr i _ p e rfl e1).1
    refine ⟨w.minus p, To.minus, ⟨⟨c.K, c.mg, c.hk, c.hr.minus n, ?_⟩, ?_, ?_⟩⟩
    · have apart : ∀ (j : Nat) (s : Sl) (u : V), j ≠ i → ρ[j]? = some (some s) → s.owned = true → σ[j]? = some (some u) → u ≠ .ref p := fun j s u hj q o e3 z' => c.rp.ap j i s (.own ds) hj q e o rfl (by rw [e1, e3, z'])
      refine ⟨by rw [frz_len]; exact c.rp.len, fun j s q => ?_, fun j k s t' nn q1 q2 o1 o2 => ?_⟩
      · by_cases hj : j = i
        · subst hj
          rcases frz_at q with q' | ⟨ds', _, rfl, q'⟩
          · unfold frzE at q
            rw [e] at q
            rcases set_some q with ⟨_, rfl, _⟩ | ⟨z', _⟩
            · exact ⟨.ref p, e1, .lst e2 (fun q => q.2 rfl) (t.to To.minus)⟩
            · exact absurd rfl z'
          · rw [e] at q'
            cases q'
            exact ⟨.ref p, e1, .lst e2 (fun q => q.2 rfl) (t.to To.minus)⟩
        · rcases frz_at q with q' | ⟨ds', rfl, _, _⟩
          · obtain ⟨u, h1, h2⟩ := c.rp.at_ j s q'
            exact ⟨u, h1, h2.to To.minus fun a o hv ho za nm ha => ⟨⟨za, fun q2 => apart j s u hj q' ho h1 (by rw [hv, q2])⟩, nm, ha⟩⟩
          · exact absurd rfl hj
      · rcases frz_at q1 with q1' | ⟨_, _, rfl, _⟩
        · rcases frz_at q2 with q2' | ⟨_, _, rfl, _⟩
          · exact c.rp.ap j k s t' nn q1' q2' o1 o2
          · cases o2
        · cases o1
    · exact ⟨c.bs.K, c.bs.mg, c.bs.m, fun a z => ⟨c.bs.up a z, fun q => by
        obtain ⟨o, h'⟩ := B.dom a z
        rw [q, hfr] at h'
        cases h'⟩, fun a z => c.bs.new a z.1, c.bs.ext, c.hr.minus n⟩
    · intro j s a q o e3
      rcases frz_at q with q' | ⟨_, _, rfl, _⟩
      · exact c.fr j s a q' o e3
      · cases o
  · have e : frzE i ρ = ρ := by
      unfold frzE
      split
      · rename_i ds q
        exact absurd ⟨ds, q⟩ hx
      · rfl
    exact ⟨w, To.refl, by rw [e]; exact c⟩
theorem s_frz (i : Nat) (h : DSs X B W rest F) : DSs X B W rest (sFrz i F) := PSs.of h fun E σ H ⟨w, hd, h, ρ, c, k⟩ => by
  obtain ⟨w', t, c'⟩ := c.frz i
  exact ⟨w', hd, h, _, c', SR.wp.mono k (outS.on t)⟩
/-! a new list is returned -/
def sRetO (g : En → M (List D)) : MS := fun ρ h => (g ρ h).on ρ fun ds h' => .ro ds h'
theorem s_retO (hf : DO X W e g) : DS X B W (.Return (some e) pos) (sRetO g) := PS.of (ps_ret hf) fun E σ H ⟨w, hd, h, ρ, c, k⟩ =>
  ⟨w, hd, h, ρ, c.toCur, (wp_on.mp k).mono (fun ds h' q p xs H' w' s hp z n e t => q p xs H' w' (c.bs.trans s) (c.bs.there hp) z n e t) fun c' fs h' q cls dx H' w' s x => q cls dx σ H' w' (s.to c.hr) (c.step s) x⟩
def ownS (ρ : En) (i : Nat) : Option (List D) := match ρ[i]? with
  | some (some (.own ds)) => some ds
  | _ => none
theorem ownS_some {ρ : En} {i : Nat} {ds : List D} (h : ownS ρ i = some ds) : ρ[i]? = some (some (.own ds)) := by
  unfold ownS at h
  split at h
  · cases h; assumption
  · cases h
def sRetV (i : Nat) : MS := fun ρ h => match ownS ρ i with
  | some ds => .ro ds h
  | none => .no
theorem s_retV (i : Nat) {x : Str} {pos' : Pos} (hN : X.N[i]? = some x) (hv : Vis X.env.scope x) (hd : (x == ("__debug__" : Str)) = false) (hcd : (x == ("__classdict__" : Str)) = false) : DS X B W (.Return (some (.Name x pos')) pos) (sRetV i) :=
  PS.of (ps_ret (pe_var hN hv hd hcd)) fun E σ H ⟨w, hd, h, ρ, c, k⟩ => by
    unfold sRetV at k
    cases e : ownS ρ i with
    | none => rw [e] at k; exact k.elim
    | some ds =>
      rw [e] at k
      obtain ⟨v, e1, p, xs, rfl, z, n, e2, t⟩ := c.rp.at_ i _ (ownS_some e)
      exact ⟨.ref p, e1, k p xs H w c.bs (c.fr i _ p (ownS_some e) rfl e1).1 z n e2 t⟩
end
end WR
set_option Elab.async false
set_option linter.all false
set_option autoImplicit false
set_option maxRecDepth 100000
set_option maxHeartbeats 4000000
namespace WR
open PySem L2
/-! ### what is walked -/
structure Wk (X : Cx) (w : Wd) (J : It) (ds : List D) (H : Hp) : Prop where
  go : ∀ (i : Nat) (w2 : Wd) (h2 : IH) (H2 : Hp) (d : D), To w H w2 H2 → HR w2 h2 H2 → w2.K = X.K → ds[i]? = some d → J.go i H2 ∧ ∀ x H', J.yld i H2 x H' → (∀ a o, H2 a = some o → H' a = some o) ∧ Dt w2 H' x d
  stop : ∀ (w2 : Wd) (h2 : IH) (H2 : Hp), To w H w2 H2 → HR w2 h2 H2 → w2.K = X.K → J.stop ds.length H2
def tIt (X : Cx) (W : WX) (g : En → M (List D)) : TI := fun σ H R => ∃ w hd h ρ, Cur X w hd h ρ σ H ∧
  ((g ρ) h).wp (fun ds h' => ∀ J H' w', Step w H w' h' H' → Wk X w' J ds H' → R J H') (fun c fs h' => ∀ cls dx H' w', Step w H w' h' H' → ExD w' H' cls dx c fs → W cls dx σ H')
abbrev DI (X : Cx) (W : WX) (tg iter : Expr) (g : En → M (List D)) : Prop := PI X tg iter (tIt X W g)
section
variable {X : Cx} {B : Bs} {W : WX} {st : Stmt} {rest body els : List Stmt} {e a b c tg iter : Expr} {es : List Expr} {pos : Pos} {f fa fb fc : En → M D} {g ga : En → M (List D)} {F F1 F2 : MS}
theorem PI.of {t t' : TI} (h : PI X tg iter t) (w : ∀ σ H Q, t' σ H Q → t σ H Q) : PI X tg iter t' := ⟨fun pins s σ H Q I q => h.run pins s σ H Q I (w σ H Q q)⟩
theorem wk_walk {w : Wd} {J : It} {ds : List D} {H : Hp} {G : Hp → Prop} {Y : Nat → Hp → V → Hp → Prop} (wl : Walk J ds.length G Y) (hG : ∀ w2 h2 H2, To w H w2 H2 → HR w2 h2 H2 → w2.K = X.K → G H2)
    (hY : ∀ (i : Nat) (w2 : Wd) (h2 : IH) (H2 : Hp) (x : V) (H' : Hp) (d : D), To w H w2 H2 → HR w2 h2 H2 → w2.K = X.K → ds[i]? = some d → Y i H2 x H' → (∀ a o, H2 a = some o → H' a = some o) ∧ Dt w2 H' x d) : Wk X w J ds H where
  go := fun i w2 h2 H2 d to hr hK hd =>
    have hi := (List.getElem?_eq_some_iff.mp hd).1
    ⟨wl.goes i H2 hi (hG w2 h2 H2 to hr hK), fun x H' y => hY i w2 h2 H2 x H' d to hr hK hd (wl.yields i H2 x H' hi (hG w2 h2 H2 to hr hK) y)⟩
  stop := fun w2 h2 H2 to hr hK => wl.stops H2 (hG w2 h2 H2 to hr hK)
theorem wk_list {w : Wd} {ds : List D} {xs : List V} {a : Addr} {H : Hp} (hK : w.K = X.K) (h : MqL w H a xs) (t : DtL w H xs ds) : Wk X w (Itl X.K a) ds H :=
  wk_walk (by rw [← t.length]; exact walk_list) (fun w2 h2 H2 to _ hK2 => by rw [← hK2]; exact (h.to to).sq) fun i w2 h2 H2 x H' d to _ _ hd y => by
    obtain ⟨rfl, hx⟩ := y
    obtain ⟨v, hv, tv⟩ := (t.to to).get hd
    rw [hx] at hv
    cases hv
    exact ⟨fun _ _ e => e, tv⟩
theorem wk_tup {w : Wd} {ds : List D} {xs : List V} {a : Addr} {H : Hp} (hK : w.K = X.K) (h : MqT w H a xs) (t : DtL w H xs ds) : Wk X w (Itt X.K a) ds H :=
  wk_walk (by rw [← t.length]; exact walk_tup) (fun w2 h2 H2 to _ hK2 => by rw [← hK2]; exact (h.to to).sq) fun i w2 h2 H2 x H' d to _ _ hd y => by
    obtain ⟨rfl, hx⟩ := y
    obtain ⟨v, hv, tv⟩ := (t.to to).get hd
    rw [hx] at hv
    cases hv
    exact ⟨fun _ _ e => e, tv⟩
def chrs (x : Str) : List D := x.cps.toList.map fun c => D.str ⟨#[c]⟩
theorem wk_str {w : Wd} {x : Str} {H : Hp} : Wk X w (Its x) (chrs x) H :=
  wk_walk (by unfold chrs; rw [List.length_map, Array.length_toList]; exact walk_str) (fun _ _ _ _ _ _ => trivial) fun i w2 h2 H2 y H' d to _ _ hd yy => by
    obtain ⟨rfl, c, hc, rfl⟩ := yy
    unfold chrs at hd
    rw [List.getElem?_map, Array.getElem?_toList, hc] at hd
    cases hd
    exact ⟨fun _ _ e => e, .str _⟩
/-- lo, lo + 1, .. -/
def rngD (lo : Int) (n : Nat) : List D := (List.range n).map fun i => D.int (lo + (i : Nat))
theorem wk_range {w : Wd} {lo : Int} {n : Nat} {H : Hp} : Wk X w (Itr lo n) (rngD lo n) H :=
  wk_walk (by unfold rngD; rw [List.length_map, List.length_range]; exact walk_range) (fun _ _ _ _ _ _ => trivial) fun i w2 h2 H2 y H' d to _ _ hd yy => by
    obtain ⟨rfl, rfl⟩ := yy
    unfold rngD at hd
    rw [List.getElem?_map] at hd
    cases q : (List.range n)[i]? with
    | none =>
      rw [q] at hd
      cases hd
    | some z =>
      rw [q] at hd
      cases hd
      obtain ⟨h1, h2⟩ := List.getElem?_eq_some_iff.mp q
      rw [List.getElem_range] at h2
      subst h2
      exact ⟨fun _ _ e => e, .int _⟩
/-- the items of a datum -/
def itm : D → Option (List D)
  | .lst ds => some ds
  | .fz ds => some ds
  | .tup ds => some ds
  | .str x => some (chrs x)
  | _ => none
def iSeq (f : En → M D) : En → M (List D) := fun ρ => (f ρ).bind fun d => M.of (itm d)
theorem i_seq (hf : DE X W iter f) : DI X W tg iter (iSeq f) := by
  refine ⟨fun pins s σ H R I ⟨w, hd, h, ρ, c, k⟩ => ?_⟩
  have k' := wp_bind.mp k
  cases q : f ρ h with
  | no => rw [q] at k'; exact k'.elim
  | ex cc fs h' =>
    rw [q] at k'
    refine (pi_list hf).run pins s σ H R I (tE.run c (A := fun _ _ => False) (B := fun c fs h' => ∀ cls dx H' w', Step w H w' h' H' → ExD w' H' cls dx c fs → W cls dx σ H') (by rw [q]; exact k') (fun _ _ _ _ _ z => z.elim) fun _ _ _ z => z)
  | ok d h' =>
    rw [q] at k'
    obtain ⟨ds, hds, k2⟩ := wp_of.mp k'
    have go : ∀ {Q : VK}, (∀ v H' w', Step w H w' h' H' → Cur X w' hd h' ρ σ H' → Dt w' H' v d → Q v H') → tE X W f σ H Q := fun {Q} hQ => ⟨w, hd, h, ρ, c, by rw [q]; exact fun v H' w' s t => hQ v H' w' s (c.step s) t⟩
    unfold itm at hds
    split at hds
    · cases hds
      refine (pi_list hf).run pins s σ H R I (go fun v H' w' s c' t => ?_)
      cases t with
      | @lst a xs _ h1 n1 tl => exact ⟨a, rfl, ⟨_, SqL.of h1⟩, k2 _ _ _ s (wk_list c'.K (.inl ⟨.inl h1, n1⟩) tl)⟩
    · cases hds
      refine (pi_list hf).run pins s σ H R I (go fun v H' w' s c' t => ?_)
      cases t with
      | @fz a xs _ h1 tl => exact ⟨a, rfl, ⟨_, c'.K ▸ h1.sq⟩, k2 _ _ _ s (wk_list c'.K h1 tl)⟩
    · cases hds
      refine (pi_tup hf).run pins s σ H R I (go fun v H' w' s c' t => ?_)
      cases t with
      | @tup a xs _ h1 tl => exact ⟨a, rfl, ⟨_, c'.K ▸ h1.sq⟩, k2 _ _ _ s (wk_tup c'.K h1 tl)⟩
    · cases hds
      refine (pi_str hf).run pins s σ H R I (go fun v H' w' s c' t => ?_)
      cases t
      exact ⟨_, rfl, k2 _ _ _ s wk_str⟩
    · cases hds
/-- range(n), range(m, n) -/
def rng1 : List D → Option (List D)
  | [.int n] => if -(2 ^ 62) ≤ n ∧ n < 2 ^ 62 then some (rngD 0 n.toNat) else none
  | _ => none
def rng2 : List D → Option (List D)
  | [.int m, .int n] => if (-(2 ^ 62) ≤ m ∧ m < 2 ^ 62) ∧ -(2 ^ 62) ≤ n ∧ n < 2 ^ 62 then some (rngD m (n - m).toNat) else none
  | _ => none
def iOf (p : List D → Option (List D)) (g : En → M (List D)) : En → M (List D) := fun ρ => (g ρ).bind fun ds => M.of (p ds)
theorem i_range1 {p pos : Pos} (h : DA X W [a] ga) (hm : X.mg "range" = none) (hg : Gl X "range") (hs : starEach [a] X.env = [(false, eval a X.env)] := by rfl) : DI X W tg (.Call (.Name "range" p) [a] [] pos) (iOf rng1 ga) :=
  PI.of (pi_range1 hg hm h hs) fun σ H R ⟨w, hd, h, ρ, c, k⟩ => by
    refine tL.run c (wp_bind.mp k) (fun ds h' v H' w' q s c' t => ?_) fun _ _ _ z => z
    obtain ⟨is, hp, q⟩ := wp_of.mp q
    unfold rng1 at hp
    split at hp
    · rename_i n
      split at hp
      · cases hp
        cases t with
        | cons ta tr =>
          cases ta
          cases tr
          rename_i hb
          exact ⟨n, rfl, hb.1, hb.2, q _ _ _ s wk_range⟩
      · cases hp
    · cases hp
theorem i_range2 {p pos : Pos} (h : DA X W [a, b] ga) (hm : X.mg "range" = none) (hg : Gl X "range") (hs : starEach [a, b] X.env = [(false, eval a X.env), (false, eval b X.env)] := by rfl) (hs2 : starEach [b] X.env = [(false, eval b X.env)] := by rfl) : DI X W tg (.Call (.Name "range" p) [a, b] [] pos) (iOf rng2 ga) :=
  PI.of (pi_range2 hg hm h hs hs2) fun σ H R ⟨w, hd, h, ρ, c, k⟩ => by
    refine tL.run c (wp_bind.mp k) (fun ds h' v H' w' q s c' t => ?_) fun _ _ _ z => z
    obtain ⟨is, hp, q⟩ := wp_of.mp q
    unfold rng2 at hp
    split at hp
    · rename_i m n
      split at hp
      · cases hp
        cases t with
        | cons ta tr =>
          cases ta
          cases tr with
          | cons tb tr =>
            cases tb
            cases tr
            rename_i hb
            exact ⟨m, n, rfl, ⟨hb.1.1, hb.1.2, hb.2.1, hb.2.2⟩, q _ _ _ s wk_range⟩
      · cases hp
    · cases hp
/-! ### pairs -/
theorem dt_pair {w : Wd} {h : IH} {H : Hp} {T : Addr} {x y : V} {d1 d2 : D} (hr : HR w h H) (hT : H T = none) (t1 : Dt w H x d1) (t2 : Dt w H y d2) : Dt w (upd H T (.tup [x, y])) (.ref T) (.pr [d1, d2]) := dt_newP hr hT (.cons t1 (.cons t2 .nil))
def zipD (xs ys : List D) : List D := (xs.zip ys).map fun p => D.pr [p.1, p.2]
theorem zipD_get {xs ys : List D} {i : Nat} {d : D} (h : (zipD xs ys)[i]? = some d) : ∃ x y, xs[i]? = some x ∧ ys[i]? = some y ∧ d = .pr [x, y] := by
  unfold zipD at h
  rw [List.getElem?_map] at h
  cases q : (xs.zip ys)[i]? with
  | none => rw [q] at h; cases h
  | some p =>
    rw [q] at h
    cases h
    obtain ⟨h1, h2⟩ := List.getElem?_zip_eq_some.mp q
    exact ⟨p.1, p.2, h1, h2, rfl⟩
theorem zipD_len {xs ys : List D} : (zipD xs ys).length = min xs.length ys.length := by simp [zipD]
theorem wk_zipL {w : Wd} {xs ys : List V} {ds es : List D} {a b : Addr} {H : Hp} (h1 : MqL w H a xs) (h2 : MqL w H b ys) (t1 : DtL w H xs ds) (t2 : DtL w H ys es) : Wk X w (Itz X.K a b) (zipD ds es) H :=
  wk_walk (walk_zip (xs := xs) (ys := ys) (by rw [zipD_len, t1.length, t2.length])) (fun w2 _ H2 to _ hK2 => by rw [← hK2]; exact ⟨(h1.to to).sq, (h2.to to).sq⟩) fun i w2 h2 H2 x H' d to hr _ hd y => by
    obtain ⟨T, x, y, rfl, hT, rfl, e1, e2⟩ := y
    obtain ⟨d1, d2, q1, q2, rfl⟩ := zipD_get hd
    obtain ⟨v1, hv1, tv1⟩ := (t1.to to).get q1
    obtain ⟨v2, hv2, tv2⟩ := (t2.to to).get q2
    have e1' : xs[i]? = some x := e1
    have e2' : ys[i]? = some y := e2
    rw [e1'] at hv1
    rw [e2'] at hv2
    cases hv1
    cases hv2
    exact ⟨same_new hT, dt_pair hr hT tv1 tv2⟩
theorem walk_zipT {K : PySem.W.Frag} {a b : Addr} {xs ys : List V} {n : Nat} (hn : n = min xs.length ys.length) : Walk (RZ.ItzT K a b) n (fun H => SqT K H a xs ∧ SqT K H b ys) (YPair (fun i => xs[i]?) (fun i => ys[i]?)) := by
  subst hn
  refine ⟨fun i _ hi q => ?_, fun _ q => ⟨xs, ys, q.1, q.2, by omega⟩, fun i H v H' _ q y => ?_⟩
  · have h1 : i < xs.length := by omega
    have h2 : i < ys.length := by omega
    exact ⟨xs, ys, xs[i], ys[i], q.1, q.2, by simp [h1], by simp [h2]⟩
  · obtain ⟨T, x, z, h1, h2, h3, h4, h5⟩ := y
    exact ⟨T, x, z, h1, h2, h3, h4 xs q.1, h5 ys q.2⟩
theorem wk_zipT {w : Wd} {xs ys : List V} {ds es : List D} {a b : Addr} {H : Hp} (h1 : MqT w H a xs) (h2 : MqT w H b ys) (t1 : DtL w H xs ds) (t2 : DtL w H ys es) : Wk X w (RZ.ItzT X.K a b) (zipD ds es) H :=
  wk_walk (walk_zipT (xs := xs) (ys := ys) (by rw [zipD_len, t1.length, t2.length])) (fun w2 _ H2 to _ hK2 => by rw [← hK2]; exact ⟨(h1.to to).sq, (h2.to to).sq⟩) fun i w2 h2 H2 x H' d to hr _ hd y => by
    obtain ⟨T, x, y, rfl, hT, rfl, e1, e2⟩ := y
    obtain ⟨d1, d2, q1, q2, rfl⟩ := zipD_get hd
    obtain ⟨v1, hv1, tv1⟩ := (t1.to to).get q1
    obtain ⟨v2, hv2, tv2⟩ := (t2.to to).get q2
    have e1' : xs[i]? = some x := e1
    have e2' : ys[i]? = some y := e2
    rw [e1'] at hv1
    rw [e2'] at hv2
    cases hv1
    cases hv2
    exact ⟨same_new hT, dt_pair hr hT tv1 tv2⟩
/-- a list that is read -/
def lstOf : D → Option (List D)
  | .lst ds => some ds
  | .fz ds => some ds
  | _ => none
theorem lstOf_some {w : Wd} {H : Hp} {v : V} {d : D} {ds : List D} (h : lstOf d = some ds) (t : Dt w H v d) : ∃ a xs, v = .ref a ∧ MqL w H a xs ∧ DtL w H xs ds := by
  unfold lstOf at h
  split at h
  · cases h
    cases t with
    | lst h1 n1 tl => exact ⟨_, _, rfl, .inl ⟨.inl h1, n1⟩, tl⟩
  · cases h
    cases t with
    | fz h1 tl => exact ⟨_, _, rfl, h1, tl⟩
  · cases h
def zipP : List D → Option (List D)
  | [.tup xs, .tup ys] => some (zipD xs ys)
  | [x, y] => match lstOf x, lstOf y with
    | some xs, some ys => some (zipD xs ys)
    | _, _ => none
  | _ => none
theorem i_zip {e2 : Expr} {p pos tpos : Pos} {elts : List Expr} {kk : Nat} (h : DA X W [e, e2] ga) (hm : X.mg "zip" = none) (hg : Gl X "zip") (hs : starEach [e, e2] X.env = (false, eval e X.env) :: starEach [e2] X.env := by rfl) (hpl : (backTo pos (starEach [e2] X.env)).any (·.1) = false := by rfl) :
    DI X W (.Tuple elts kk tpos) (.Call (.Name "zip" p) [e, e2] [] pos) (iOf zipP ga) :=
  PI.of (RZ.pi_zipA hg hm h hs hpl) fun σ H R ⟨w, hd, h, ρ, c, k⟩ => by
    refine tL.run c (wp_bind.mp k) (fun ds h' v H' w' q s c' t => ?_) fun _ _ _ z => z
    obtain ⟨is, hp, q⟩ := wp_of.mp q
    unfold zipP at hp
    split at hp
    · cases hp
      cases t with
      | cons ta tr =>
        cases tr with
        | cons tb tr =>
          cases tr
          cases ta with
          | tup a1 l1 =>
            cases tb with
            | tup a2 l2 => exact ⟨_, _, _, _, rfl, .inr ⟨c'.K ▸ a1.sq, c'.K ▸ a2.sq, q _ _ _ s (wk_zipT a1 a2 l1 l2)⟩⟩
    · split at hp
      · cases hp
        rename_i xs ys e1 e2
        cases t with
        | cons ta tr =>
          cases tr with
          | cons tb tr =>
            cases tr
            obtain ⟨a1, x1, rfl, m1, l1⟩ := lstOf_some e1 ta
            obtain ⟨a2, x2, rfl, m2, l2⟩ := lstOf_some e2 tb
            exact ⟨_, _, _, _, rfl, .inl ⟨c'.K ▸ m1.sq, c'.K ▸ m2.sq, q _ _ _ s (wk_zipL m1 m2 l1 l2)⟩⟩
      · cases hp
    · cases hp
/-! ### for -/
def loopS (t : D → En → Option En) (F : MS) : List D → MS
  | [] => fun ρ h => .nx ρ h
  | d :: ds => fun ρ h => match t d ρ with
    | none => .no
    | some ρ1 => match F ρ1 h with
      | .nx ρ2 h2 => loopS t F ds ρ2 h2
      | .ct ρ2 h2 => loopS t F ds ρ2 h2
      | .bk ρ2 h2 => .nx ρ2 h2
      | r => r
def sFor (g : En → M (List D)) (t : D → En → Option En) (F : MS) : MS := fun ρ h => (g ρ h).on ρ fun ds h' => loopS t F ds ρ h'
theorem wp_loop {t : D → En → Option En} {d : D} {ds : List D} {ρ : En} {h : IH} {O : Out} (k : (loopS t F (d :: ds) ρ h).wp O) : ∃ ρ1, t d ρ = some ρ1 ∧ (F ρ1 h).wp { nx := fun ρ2 h2 => (loopS t F ds ρ2 h2).wp O, ct := fun ρ2 h2 => (loopS t F ds ρ2 h2).wp O, bk := O.nx, rt := O.rt, ex := O.ex, ro := O.ro } := by
  unfold loopS at k
  cases e : t d ρ with
  | none => rw [e] at k; exact k.elim
  | some ρ1 =>
    rw [e] at k
    refine ⟨ρ1, rfl, ?_⟩
    dsimp only at k
    cases q : F ρ1 h <;> rw [q] at k <;> exact k
theorem s_for {tf : D → En → Option En} {vs : List Nat} (hp : PassesOwn (model X.prog X.w) X.A X.env X.xe) (hc : X.calm = true) (hi : DI X W tg iter g) (hg : DG X tg tf vs) (hb : DSs X B W body F) (hf : ∀ x, foldedSetIterable iter X.env x = pure x := by intro _; rfl) : DS X B W (.For tg iter body [] pos) (sFor g tf F) := by
  obtain ⟨gt, pg, go⟩ := hg
  refine PS.of (ps_for hp hc hi pg hb hf) fun E σ H ⟨w, hd, h, ρ, c, k⟩ => ?_
  refine ⟨w, hd, h, ρ, c.toCur, (wp_on.mp k).mono (fun ds h1 q J H1 w1 s1 wk => ?_) fun c' fs h' q cls dx H' w' s x => q cls dx σ H' w' (s.to c.hr) (c.step s) x⟩
  have t1 := s1.to c.hr
  refine ⟨fun i m σ' H' => m = ds.length - i ∧ i ≤ ds.length ∧ ∃ w' h' ρ', To w1 H1 w' H' ∧ StR X B w' hd h' ρ' σ' H' ∧ (loopS tf F (ds.drop i) ρ' h').wp (outS X B W w1 hd H1 E), ⟨ds.length, by simp, Nat.zero_le _, w1, h1, ρ, To.refl, c.step s1, q.mono (outS.on t1)⟩, ?_⟩
  rintro i m σ' H' ⟨rfl, hil, w', h', ρ', t', c', k'⟩
  by_cases hlt : i < ds.length
  · have hx : ds[i]? = some ds[i] := List.getElem?_eq_getElem hlt
    rw [List.drop_eq_getElem_cons hlt] at k'
    obtain ⟨ρ2, hf2, k2⟩ := wp_loop k'
    obtain ⟨hgo, hy⟩ := wk.go i w' h' H' _ t' c'.hr c'.K hx
    refine .inr ⟨hgo, fun σ2 H2 => ∃ w2 h2 ρ2, To w1 H1 w2 H2 ∧ StR X B w2 hd h2 ρ2 σ2 H2 ∧ (loopS tf F (ds.drop (i + 1)) ρ2 h2).wp (outS X B W w1 hd H1 E), fun σ2 H2 ⟨w2, h2, ρ2, z1, z2, z3⟩ => ⟨ds.length - (i + 1), by omega, rfl, hlt, w2, h2, ρ2, z1, z2, z3⟩, fun x H2 yl => ?_⟩
    obtain ⟨gr, td⟩ := hy x H2 yl
    have s2 := Step.grow c'.hr gr
    have c2 := c'.step s2
    have t2 := t'.trans (s2.to c'.hr)
    refine go w' hd x σ' H2 ρ' _ ρ2 c'.K hf2 c2.rp td _ fun σ3 r3 o3 _ => ⟨w', hd, h', ρ2, c2.tgt r3 o3, k2.mono ⟨fun ρ4 h4 q4 σ4 H4 w4 t4 c4 => ⟨w4, h4, ρ4, t2.trans t4, c4, q4⟩, fun d h4 q4 => q4, fun ρ4 h4 q4 σ4 H4 w4 t4 c4 => q4 σ4 H4 w4 (t2.trans t4) c4, fun ρ4 h4 q4 σ4 H4 w4 t4 c4 => ⟨w4, h4, ρ4, t2.trans t4, c4, q4⟩, fun cc fs ρ4 h4 q4 cls dx σ4 H4 w4 t4 c4 x4 => q4 cls dx σ4 H4 w4 (t2.trans t4) c4 x4, fun _ _ q4 => q4⟩⟩
  · have el : i = ds.length := by omega
    subst el
    rw [List.drop_length] at k'
    exact .inl ⟨wk.stop w' h' H' t' c'.hr c'.K, k' σ' H' w' t' c'⟩
/-! ### while -/
def sGo (G : MS) (r : SR) : SR := match r with
  | .nx ρ2 h2 => G ρ2 h2
  | .ct ρ2 h2 => G ρ2 h2
  | .bk ρ2 h2 => .nx ρ2 h2
  | r => r
theorem wp_go {G : MS} {r : SR} {O : Out} : (sGo G r).wp O ↔ r.wp { nx := fun ρ2 h2 => (G ρ2 h2).wp O, ct := fun ρ2 h2 => (G ρ2 h2).wp O, bk := O.nx, rt := O.rt, ex := O.ex, ro := O.ro } := by
  cases r <;> exact Iff.rfl
def sWh (t : En → M Bool) (F : MS) : Nat → MS
  | 0 => fun _ _ => .no
  | n + 1 => fun ρ h => (t ρ h).on ρ fun b h' => if b = true then sGo (sWh t F n) (F ρ h') else .nx ρ h'
theorem s_while {t : En → M Bool} (n : Nat) (hp : PassesOwn (model X.prog X.w) X.A X.env X.xe) (hc : DT X W c t) (hb : DSs X B W body F) : DS X B W (.While c body [] pos) (sWh t F n) := by
  refine PS.of (ps_while hp hc hb) fun E σ H ⟨w, hd, h, ρ, c, k⟩ => ?_
  refine ⟨fun m σ' H' => ∃ w' h' ρ', To w H w' H' ∧ StR X B w' hd h' ρ' σ' H' ∧ (sWh t F m ρ' h').wp (outS X B W w hd H E), ⟨n, w, h, ρ, To.refl, c, k⟩, ?_⟩
  rintro m σ' H' ⟨w', h', ρ', t', c', k'⟩
  cases m with
  | zero => exact k'.elim
  | succ m =>
    unfold sWh at k'
    refine tB.run c'.toCur (wp_on.mp k') (fun b h2 H2 w2 q s2 _ => ?_) fun _ fs h2 q cls dx H2 w2 s2 x => q cls dx σ' H2 w2 (t'.trans (s2.to c'.hr)) (c'.step s2) x
    have c2 := c'.step s2
    have t2 := t'.trans (s2.to c'.hr)
    cases b with
    | false =>
      rw [if_neg (by decide)] at q ⊢
      exact q σ' H2 w2 t2 c2
    | true =>
      rw [if_pos rfl] at q ⊢
      refine ⟨fun σ3 H3 => ∃ w' h' ρ', To w H w' H3 ∧ StR X B w' hd h' ρ' σ3 H3 ∧ (sWh t F m ρ' h').wp (outS X B W w hd H E), fun σ3 H3 z => ⟨m, Nat.lt_succ_self m, z⟩, w2, hd, h2, ρ', c2, (wp_go.mp q).mono ?_⟩
      exact ⟨fun ρ4 h4 q4 σ4 H4 w4 t4 c4 => ⟨w4, h4, ρ4, t2.trans t4, c4, q4⟩, fun d h4 q4 => q4, fun ρ4 h4 q4 σ4 H4 w4 t4 c4 => q4 σ4 H4 w4 (t2.trans t4) c4, fun ρ4 h4 q4 σ4 H4 w4 t4 c4 => ⟨w4, h4, ρ4, t2.trans t4, c4, q4⟩, fun cc fs ρ4 h4 q4 cls dx σ4 H4 w4 t4 c4 x4 => q4 cls dx σ4 H4 w4 (t2.trans t4) c4 x4, fun _ _ q4 => q4⟩
end
/-! ### list comprehensions -/
def wN : WX := fun _ _ _ _ => False
/-- nothing may be raised -/
def noX {α : Type} (m : M α) : M α := fun h => match m h with
  | .ex _ _ _ => .no
  | r => r
theorem wp_noX {α : Type} {m : M α} {h : IH} {Q : α → IH → Prop} {E : Str → List (Str × D) → IH → Prop} : ((noX m) h).wp Q E ↔ (m h).wp Q (fun _ _ _ => False) := by
  unfold noX
  cases m h <;> exact Iff.rfl
def lcRun (tg : D → En → Option En) (t : En → M Bool) (e : En → M D) (ρ : En) : List D → M (List D)
  | [] => M.pure []
  | d :: ds => (M.of (tg d ρ)).bind fun ρ1 => (t ρ1).bind fun b => if b = true then (e ρ1).bind fun x => (lcRun tg t e ρ ds).bind fun xs => M.pure (x :: xs) else lcRun tg t e ρ ds
def mLc (g : En → M (List D)) (vs : List Nat) (tg : D → En → Option En) (t : En → M Bool) (e : En → M D) : En → M (List D) := fun ρ => (g ρ).bind fun ds => noX (lcRun tg t e (wipeE ρ vs) ds)
def tYs : En → M Bool := fun _ => M.pure true
abbrev Blk (X : Cx) (scope : Scope) (s : Shared) (H : Hp) (C : Addr) (cl : List (Str × Addr)) (fp : List Addr) : Cx := X.blk s H scope (compEnvC scope cl C X.env) fp
/-- the readings within a comprehension: no error is handled -/
def tE0 (K : PySem.W.Frag) (mg : Str → Option Value) (f : En → M D) : TE := fun σ H Q => ∃ w h ρ, w.K = K ∧ w.mg = mg ∧ HR w h H ∧ Rep w none H σ ρ ∧ ((f ρ) h).wp (fun d h' => ∀ v H' w', Step w H w' h' H' → Dt w' H' v d → Q v H') (fun _ _ _ => False)
def tB0 (K : PySem.W.Frag) (mg : Str → Option Value) (f : En → M Bool) : TT := fun σ H Q => ∃ w h ρ, w.K = K ∧ w.mg = mg ∧ HR w h H ∧ Rep w none H σ ρ ∧ ((f ρ) h).wp (fun d h' => ∀ H' w', Step w H w' h' H' → Q d H') (fun _ _ _ => False)
def gt0 (K : PySem.W.Frag) (f : D → En → Option En) (vs : List Nat) : TG := fun v σ H Q => ∃ w hd ρ d ρ', w.K = K ∧ f d ρ = some ρ' ∧ Rep w hd H σ ρ ∧ Dt w H v d ∧
  ∀ σ', Rep w hd H σ' ρ' → (∀ (i : Nat) (s : Sl), ρ'[i]? = some (some s) → s.owned = true → ρ[i]? = some (some s) ∧ σ'[i]? = σ[i]?) → (∀ us : List Nat, (∀ i ∈ vs, i ∈ us) → wipe σ' us = wipe σ us) → Q σ' H
section
variable {X : Cx} {B : Bs} {W : WX} {e elt tg iter : Expr} {ifs : List Expr} {pos spos : Pos} {f : En → M D} {g : En → M (List D)} {tf : D → En → Option En} {t : En → M Bool} {scope : Scope} {own : List (Str × Nat)}
theorem tE0_of (h : DE X wN e f) : PE X e (tE0 X.K X.mg f) := PE.of h fun σ H Q ⟨w, h, ρ, c1, c2, c3, c4, k⟩ => ⟨w, none, h, ρ, ⟨c1, c2, trivial, c3, c4⟩, k.mono (fun _ _ q => q) fun _ _ _ z => z.elim⟩
theorem tB0_of (h : DT X wN e t) : PT X e (tB0 X.K X.mg t) := PT.of h fun σ H Q ⟨w, h, ρ, c1, c2, c3, c4, k⟩ => ⟨w, none, h, ρ, ⟨c1, c2, trivial, c3, c4⟩, k.mono (fun _ _ q => q) fun _ _ _ z => z.elim⟩
theorem pg_of {t t' : TG} (h : PG X e t) (w : ∀ v σ H Q, t' v σ H Q → t v σ H Q) : PG X e t' := ⟨fun pins s σ H v u Q I r q => h.run pins s σ H v u Q I r (w v σ H Q q)⟩
theorem gt0_of {vs : List Nat} (h : DG X tg tf vs) : PG X tg (gt0 X.K tf vs) := by
  obtain ⟨gt, pg, go⟩ := h
  exact pg_of pg fun v σ H Q ⟨w, hd, ρ, d, ρ', hK, hf, r, td, q⟩ => go w hd v σ H ρ d ρ' hK hf r td Q q
/-- no error is handled where all is calm -/
theorem calm_hd {hd : Hd} (hc : X.calm = true) (h : HdOk X hd) : hd = none := by
  cases hd with
  | none => rfl
  | some p =>
    obtain ⟨a, dx, C⟩ := p
    obtain ⟨X0, oe, pn, rfl, _⟩ := h
    exact nomatch hc
theorem lcRun_cons {ρ : En} {d : D} {ds : List D} {h : IH} {e : En → M D} {Q : List D → IH → Prop} {E : Str → List (Str × D) → IH → Prop} (k : ((lcRun tf t e ρ (d :: ds)) h).wp Q E) : ∃ ρ1, tf d ρ = some ρ1 ∧ ((t ρ1) h).wp (fun b h1 =>
    if b = true then ((e ρ1) h1).wp (fun x h2 => ((lcRun tf t e ρ ds) h2).wp (fun xs h3 => Q (x :: xs) h3) E) E else ((lcRun tf t e ρ ds) h1).wp Q E) E := by
  unfold lcRun at k
  obtain ⟨ρ1, h1, k⟩ := wp_of.mp (wp_bind.mp k)
  refine ⟨ρ1, h1, (wp_bind.mp k).mono (fun b h1 q => ?_) fun _ _ _ z => z⟩
  cases b with
  | true =>
    rw [if_pos rfl] at q ⊢
    exact (wp_bind.mp q).mono (fun x h2 q => (wp_bind.mp q).mono (fun xs h3 q => q) fun _ _ _ z => z) fun _ _ _ z => z
  | false =>
    rw [if_neg (by decide)] at q ⊢
    exact q
theorem wp_ok {α : Type} {r : Res α} {Q : α → IH → Prop} (k : r.wp Q fun _ _ _ => False) : ∃ a h, r = .ok a h ∧ Q a h := by
  cases r with
  | ok a h => exact ⟨a, h, rfl, k⟩
  | ex _ _ _ => exact k.elim
  | no => exact k.elim
theorem lc_rd {vs : List Nat} (hc : X.calm = true) {σ : L2.St} {H : Hp} {Q : VK} (z : tO X W (sizM (mLc g vs tf t f)) σ H Q) : tLc (tIt X W g) (gt0 X.K tf vs) (tB0 X.K X.mg t) (tE0 X.K X.mg f) vs σ H Q := by
  obtain ⟨w, hd, h, ρ, c, k⟩ := z
  obtain rfl := calm_hd hc c.hk
  refine ⟨w, none, h, ρ, c, (wp_bind.mp (wp_siz k)).mono (fun ds h1 k1 J H1 w1 s1 wk p hp => ?_) fun _ _ _ z => z⟩
  have k1 := wp_noX.mp k1
  have c1 := c.step s1
  have sp := Step.plus (p := p) c1.hr hp (o := .lst [])
  refine ⟨fun i m H' => m = ds.length - i ∧ i ≤ ds.length ∧ ∃ w' h' acc accD, Step w1 H1 w' h' H' ∧ w'.Z p ∧ p ∉ w'.m ∧ H' p = some (.lst acc) ∧ DtL w' H' acc accD ∧
      ((lcRun tf t f (wipeE ρ vs) (ds.drop i)) h').wp (fun xs h' => (accD ++ xs).length ≤ sizeLine ∧ ∀ p ys H' w', Step w H w' h' H' → H p = none → w'.Z p → p ∉ w'.m → H' p = some (.lst ys) → DtL w' H' ys (accD ++ xs) → Q (.ref p) H') (fun _ _ _ => False),
    ⟨ds.length, by simp, Nat.zero_le _, w1.plus p, h1, [], [], sp, .inr rfl, c1.hr.nm hp, upd_same, .nil, k1⟩, ?_⟩
  rintro i m H' ⟨rfl, hil, w', h', acc, accD, s', hz, hm, ha, ta, k'⟩
  have r' : Rep w' none H' (L2.wipe σ vs) (wipeE ρ vs) := (c1.rp.step c1.hr s').wipe vs
  have hK' : w'.K = X.K := s'.K.trans c1.K
  have hM' : w'.mg = X.mg := s'.mg.trans c1.mg
  by_cases hlt : i < ds.length
  · have hx : ds[i]? = some ds[i] := List.getElem?_eq_getElem hlt
    rw [List.drop_eq_getElem_cons hlt] at k'
    obtain ⟨ρ1, hf1, k1⟩ := lcRun_cons k'
    obtain ⟨hgo, hy⟩ := wk.go i w' h' H' _ (s'.to c1.hr) s'.hr hK' hx
    refine .inr ⟨hgo, fun H2 => ∃ w' h' acc accD, Step w1 H1 w' h' H2 ∧ w'.Z p ∧ p ∉ w'.m ∧ H2 p = some (.lst acc) ∧ DtL w' H2 acc accD ∧
      ((lcRun tf t f (wipeE ρ vs) (ds.drop (i + 1))) h').wp (fun xs h' => (accD ++ xs).length ≤ sizeLine ∧ ∀ p ys H' w', Step w H w' h' H' → H p = none → w'.Z p → p ∉ w'.m → H' p = some (.lst ys) → DtL w' H' ys (accD ++ xs) → Q (.ref p) H') (fun _ _ _ => False),
      fun H2 hN => ⟨ds.length - (i + 1), by omega, rfl, hlt, hN⟩, fun x H2 yl => ?_⟩
    obtain ⟨gr, td⟩ := hy x H2 yl
    have s2 := Step.grow s'.hr gr
    refine ⟨w', none, wipeE ρ vs, _, ρ1, hK', hf1, r'.step s'.hr s2, td, fun σ3 r3 o3 u3 => ⟨?_, ?_⟩⟩
    · rw [u3 vs fun _ h => h]
      refine List.ext_getElem? fun n => ?_
      by_cases hn : n ∈ vs
      · rw [wipe_in hn, wipe_in hn, wipe_length]
      · rw [wipe_keeps hn]
    · refine ⟨w', h', ρ1, hK', hM', s2.hr, r3, k1.mono (fun b h3 q3 H3 w3 s3 => ?_) fun _ _ _ z => z⟩
      have s13 := (s'.trans s2).trans s3
      have ha3 : H3 p = some (.lst acc) := s3.ext p _ (gr p _ ha) hm
      have ta3 : DtL w3 H3 acc accD := (ta.to (To.grow gr)).to (s3.to s2.hr)
      cases b with
      | false =>
        rw [if_neg (by decide)] at q3
        exact iteF ⟨w3, h3, acc, accD, s13, s3.up p hz, s3.nm (gr p _ ha) hm, ha3, ta3, q3⟩
      | true =>
        rw [if_pos rfl] at q3
        refine iteT ⟨w3, h3, ρ1, s3.K.trans hK', s3.mg.trans hM', s3.hr, r3.step s2.hr s3, q3.mono (fun y h4 q4 v4 H4 w4 s4 t4 => ?_) fun _ _ _ z => z⟩
        have ha4 : H4 p = some (.lst acc) := s4.ext p _ ha3 (s3.nm (gr p _ ha) hm)
        have hm4 : p ∉ w4.m := s4.nm ha3 (s3.nm (gr p _ ha) hm)
        have hz4 : w4.Z p := s4.up p (s3.up p hz)
        have ta4 : DtL w4 H4 acc accD := ta3.to (s4.to s3.hr)
        have s14 := s13.trans s4
        obtain ⟨xs, h5, e5, hl5, _⟩ := wp_ok q4
        refine ⟨acc, ha4, ?_, w4, h4, acc ++ [v4], accD ++ [y], ?_, hz4, hm4, upd_same, (ta4.append (.cons t4 .nil)).to (To.touch hz4), ?_⟩
        · rw [ta4.length]
          rw [List.length_append, List.length_cons] at hl5
          omega
        · exact ⟨s14.K, s14.mg, s14.m, s14.up, s14.new, fun a o e n => by rw [upd_ne fun z => by rw [z, hp] at e; cases e]; exact s14.ext a o e n, s14.hr.touch hz4 hm4⟩
        · refine q4.mono (fun xs h5 q5 => ?_) fun _ _ _ z => z
          rw [List.append_assoc]
          exact q5
  · have el : i = ds.length := by omega
    subst el
    rw [List.drop_length] at k'
    obtain ⟨_, q⟩ := k'
    rw [List.append_nil] at q
    exact .inl ⟨wk.stop w' h' H' (s'.to c1.hr) s'.hr hK', q p acc H' w' (s1.trans s') (s1.there hp) hz hm ha ta⟩
/-- a comprehension makes a list -/
theorem do_lc (hc : X.calm = true) (hN : X.N.Nodup) (hi : DI X W tg iter g) (ok : BlkOk X.N X.env.scope scope own) (hg : ∀ s H C cl fp, DG (Blk X scope s H C cl fp) tg tf (own.map (·.2))) (ht : ∀ s H C cl fp, PTs (Blk X scope s H C cl fp) ifs (tB0 X.K X.mg t))
    (he : ∀ s H C cl fp, DE (Blk X scope s H C cl fp) wN elt f) (hf : ∀ x, foldedSetIterable iter X.env x = pure x := by intro _; rfl) : DO X W (.ListComp elt [⟨tg, iter, ifs, 0⟩] scope pos) (sizM (mLc g (own.map (·.2)) tf t f)) :=
  PE.of (pe_lc hc hN hi ok (fun s H C cl fp => gt0_of (hg s H C cl fp)) ht (fun s H C cl fp => tE0_of (he s H C cl fp)) hf) fun σ H Q z => lc_rd hc z
theorem pts_yes : PTs X [] (tB0 X.K X.mg tYs) := ⟨fun pins s σ H Q I ⟨w, h, ρ, c1, c2, c3, c4, k⟩ => pts_nil.run pins s σ H Q I (k H w (Step.refl c3))⟩
theorem pts_if (h : DT X wN e t) : PTs X [e] (tB0 X.K X.mg t) := pts_one (tB0_of h)
/-- y = [..] on one line -/
theorem s_ownLc (y : Nat) {yn : Str} {py : Pos} (hc : X.calm = true) (hN : X.N.Nodup) (hsw : swapsWith (.ListComp elt [⟨tg, iter, ifs, 0⟩] scope pos) (some (.Name yn py)) spos.line X.env = pure true) (hi : DI X W tg iter g) (ok : BlkOk X.N X.env.scope scope own) (hg : ∀ s H C cl fp, DG (Blk X scope s H C cl fp) tg tf (own.map (·.2))) (ht : ∀ s H C cl fp, PTs (Blk X scope s H C cl fp) ifs (tB0 X.K X.mg t))
    (he : ∀ s H C cl fp, DE (Blk X scope s H C cl fp) wN elt f) (hy : X.N[y]? = some yn) (hyl : X.env.scope.names.lookup yn = some .local) (hf : ∀ x, foldedSetIterable iter X.env x = pure x := by intro _; rfl) : DS X B W (.Assign [.Name yn py] (.ListComp elt [⟨tg, iter, ifs, 0⟩] scope pos) spos) (sOwn y (sizM (mLc g (own.map (·.2)) tf t f))) :=
  PS.of (ps_setLc hc hN hy hyl hsw hi ok (fun s H C cl fp => gt0_of (hg s H C cl fp)) ht (fun s H C cl fp => tE0_of (he s H C cl fp)) hf) fun E σ H z => lc_rd hc (t_own z)
theorem tO_frz {σ : L2.St} {H : Hp} {Q : VK} (z : tE X W (eFz g) σ H Q) : tO X W g σ H Q := by
  obtain ⟨w, hd, h, ρ, c, k⟩ := z
  exact ⟨w, hd, h, ρ, c, (wp_bind.mp k).mono (fun ds h' q p xs H' w' s hp z n e t => q _ _ _ (s.frz c.hr hp n) (.lst e (fun q => q.2 rfl) (t.to To.minus))) fun _ _ _ z => z⟩
theorem s_setLc (y : Nat) {yn : Str} {py : Pos} (hc : X.calm = true) (hN : X.N.Nodup) (hsw : swapsWith (.ListComp elt [⟨tg, iter, ifs, 0⟩] scope pos) (some (.Name yn py)) spos.line X.env = pure true) (hi : DI X W tg iter g) (ok : BlkOk X.N X.env.scope scope own) (hg : ∀ s H C cl fp, DG (Blk X scope s H C cl fp) tg tf (own.map (·.2))) (ht : ∀ s H C cl fp, PTs (Blk X scope s H C cl fp) ifs (tB0 X.K X.mg t))
    (he : ∀ s H C cl fp, DE (Blk X scope s H C cl fp) wN elt f) (hy : X.N[y]? = some yn) (hyl : X.env.scope.names.lookup yn = some .local) (hf : ∀ x, foldedSetIterable iter X.env x = pure x := by intro _; rfl) : DS X B W (.Assign [.Name yn py] (.ListComp elt [⟨tg, iter, ifs, 0⟩] scope pos) spos) (sAsg (eFz (sizM (mLc g (own.map (·.2)) tf t f))) (tgN y)) :=
  PS.of (ps_setLc hc hN hy hyl hsw hi ok (fun s H C cl fp => gt0_of (hg s H C cl fp)) ht (fun s H C cl fp => tE0_of (he s H C cl fp)) hf) fun E σ H z => lc_rd hc (tO_frz (t_asg (fun w hd v σ H ρ d ρ' _ hf r t Q q => by
    cases hf
    refine q _ (r.set t) (fun j s hj ho => ?_) fun us h => wipe_set (h y (by simp))
    rcases set_some hj with ⟨rfl, rfl, _⟩ | ⟨hne, hj⟩
    · cases ho
    · exact ⟨hj, by rw [List.getElem?_set_ne (Ne.symm hne)]⟩ : GOk X (gName y) (tgN y) [y]) z))
end
end WR
set_option Elab.async false
set_option linter.all false
set_option autoImplicit false
set_option maxRecDepth 100000
set_option maxHeartbeats 4000000
namespace WR
open PySem PySem.Spec PyProof.Rows L2
/-! ### defs, where no repr is under way -/
structure RG (k : Nat) (A : Around) : Prop where
  room : Room k A
  gd : A.guards = some []
theorem RG.mono {j k : Nat} {A : Around} (r : RG k A) (h : j ≤ k) : RG j A := ⟨r.room.mono h, r.gd⟩
theorem RG.deeper {k : Nat} {A : Around} (r : RG (k + 1) A) (env : Env) : RG k (A.deeper env) := ⟨r.room.deeper env, r.gd⟩
theorem RG.make {k : Nat} {A : Around} (r : RG (k + 1) A) (C : Addr) (us : List Value) (kw : List (Str × Value)) : RG k (A.under (.builtin "type.__call__" ⟨.ref C :: us, kw⟩)) := ⟨r.room.make C us kw, by
  first
  | exact r.gd
  | (simp [Around.under, Code.weight, Code.isCreation, Code.isGuard, Code.isCaller, Code.frames, Code.isFrame, guardIds]; exact r.gd)⟩
structure FnG (P : Program) (w : World) (K : PySem.W.Frag) (mg : Str → Option Value) (base : Heap) (CX : CXT) (k : Nat) (f : Addr) (fd : FuncData) (ps : List Str) (sp : Sp) : Prop where
  len : ∀ vs H Q E, sp vs H Q E → vs.length = ps.length
  run : ∀ (A : Around) (outer : List Env) (s : Shared) (H : Hp) (args : Args) (us : List Value) (vs : List V) (Q : VK) (E : XK), RG k A → Env0 P w K mg base A outer s H →
    BindsTo s fd args (ps.zip us) → Vals vs us → sp vs H Q E → codeAny (model P w) A (.call (.ref f) args) (CR CX outer P w H s Q E) s
theorem FnG.mono {P : Program} {w : World} {K : PySem.W.Frag} {mg : Str → Option Value} {base : Heap} {CX : CXT} {j k : Nat} {f : Addr} {fd : FuncData} {ps : List Str} {sp : Sp} (F : FnG P w K mg base CX j f fd ps sp) (h : j ≤ k) : FnG P w K mg base CX k f fd ps sp :=
  ⟨F.len, fun A outer s H args us vs Q E hr => F.run A outer s H args us vs Q E (hr.mono h)⟩
theorem FnG.imp {P : Program} {w : World} {K : PySem.W.Frag} {mg : Str → Option Value} {base : Heap} {CX : CXT} {k : Nat} {f : Addr} {fd : FuncData} {ps : List Str} {sp sp' : Sp} (F : FnG P w K mg base CX k f fd ps sp) (h : ∀ vs H Q E, sp' vs H Q E → sp vs H Q E) : FnG P w K mg base CX k f fd ps sp' :=
  ⟨fun vs H Q E q => F.len vs H Q E (h vs H Q E q), fun A outer s H args us vs Q E hr e0 hb rv q => F.run A outer s H args us vs Q E hr e0 hb rv (h vs H Q E q)⟩
/-- the context of a body -/
abbrev CxB (CX : CXT) (P : Program) (w : World) (K : PySem.W.Frag) (mg : Str → Option Value) (base : Heap) (N : List Str) (qual : Str) (st : Stmt) (f : Addr) (cdv : Value) (A : Around) (outer : List Env) (s : Shared) (H : Hp) (E : XK) : Cx :=
  cxOf CX P w K mg base N qual (defScope st) f cdv A outer s H E
section
variable {P : Program} {w : World} {K : PySem.W.Frag} {mg : Str → Option Value} {base : Heap} {CX : CXT} {k : Nat} {f : Addr} {fd : FuncData} {N ps : List Str} {sp : Sp} {x qual : Str} {st : Stmt}
/-- from its body to its promise -/
theorem fnG_of (F : Fun K x qual st f fd) (S : FnScope N ps (defScope st)) (len : ∀ vs H Q E, sp vs H Q E → vs.length = ps.length)
    (hbody : ∀ (cdv : Value) (A : Around) (outer : List Env) (s : Shared) (H : Hp) (vs : List V) (Q : VK) (E : XK), RG k (A.deeper (envOfC qual (defScope st) s.heap.objs.size f cdv)) → sp vs H Q E →
      ∃ t, PSs (CxB CX P w K mg base N qual st f cdv A outer s H E) (defBody st) t ∧ t { nx := fun _ H' => Q .non H', rt := Q } (L2.start N vs) H) : FnG P w K mg base CX (k + 1) f fd ps sp := by
  obtain ⟨oc, od, kV, doc, pm, an, cdv, ct, osl, rfl, lk, hcd⟩ := F.ex
  refine ⟨len, fun A outer s H args us vs Q E hr e0 hb rv hsp => ?_⟩
  have keep0 : ∀ b o, base.get? b = some o → s.heap.get? b = some o := fun b o e => (e0.bs b o e).1
  have KX : K.In s.heap := e0.mod.kin.keeps keep0
  have hkind : ∀ y ∈ ps.zip us, (defScope st).names.lookup y.1 = some .local ∨
      ((defScope st).names.lookup y.1 = some .cell ∧ ((cellsFrom (s.heap.objs.size + 1) (defScope st).names []).lookup y.1).isSome = true) := by
    rintro ⟨n, v⟩ hy
    exact (S.par n (List.of_mem_zip hy).1).imp id fun q => ⟨q, PySem.W.cellsFrom_some _ _ _ (.inl q)⟩
  refine codeAny_call_function hr.room.depth (KX _ _ lk) rfl S.co S.gen rfl (PySem.W.codeRec_of KX hcd) (hb _ _ _ _ ?_)
  refine wpAny_newFunctionEnv_cells S.kind hkind fun env he s1 xc => ?_
  subst he
  refine ⟨(e0.mod.nolimit.keeps keep0).keeps xc.toInCall.keep, codeAny_func ?_⟩
  obtain ⟨t, ht, hq⟩ := hbody cdv A outer s H vs Q E (hr.deeper _) hsp
  have I := inv_start (CX := CX) (E := E) S hr.room.hd e0 (len _ _ _ _ hsp) rv xc
  refine wpAny_mono (ht.run [] s1 (L2.start N vs) H _ I hq) (fun fl s' hs => ?_) fun e s' hs => hs
  have fin : ∀ {σ' : L2.St} {H' : Hp} {v : V} {u : Value}, Inv (CxB CX P w K mg base N qual st f cdv A outer s H E) [] σ' H' s' → RelV v u → Q v H' → CE outer P w H s Q u s' := fun {σ' H' v u} J rv q =>
    ⟨v, H', J.os, J.bare, J.base, J.hok, rv, q⟩
  cases fl with
  | ret u => exact let ⟨v, σ', H', J, rv, q⟩ := hs; fin J rv q
  | next => exact let ⟨σ', H', J, q⟩ := hs; fin (v := V.non) (u := Value.none) J rfl q
  | brk => exact let ⟨_, _, _, q⟩ := hs; False.elim q
  | cont => exact let ⟨_, _, _, q⟩ := hs; False.elim q
end
/-! ### where one stands, by the program -/
structure PC where
  P : Program
  w : World
  K : PySem.W.Frag
  mg : Str → Option Value
  base : Heap
def pcOf (X : Cx) : PC := ⟨X.prog, X.w, X.K, X.mg, X.base⟩
def visB (sc : Scope) (x : Str) : Bool := match sc.names.lookup x with
  | some .local => true
  | some .cell => true
  | some .free => true
  | _ => false
def locB (sc : Scope) (x : Str) : Bool := match sc.names.lookup x with
  | some .local => true
  | some .cell => true
  | _ => false
def glB (sc : Scope) (x : Str) : Bool := match sc.names.lookup x with
  | some .globalImplicit => true
  | _ => false
def nameOk (x : Str) : Bool := !(x == ("__debug__" : Str)) && !(x == ("__classdict__" : Str))
/-- any context of a def, or of a part of it -/
structure Bok (Γ : PC) (X : Cx) (W : WX) (N : List Str) (sc ow : Scope) : Prop where
  pc : pcOf X = Γ
  hN : X.N = N
  hsc : X.env.scope = sc
  nd : N.Nodup
  nm : ∀ x ∈ N, nameOk x = true
  tk : Takes X W
  ps : PassesOwn (model X.prog X.w) X.A X.env X.xe
  un : X.A.units + 200 < cLine
  gd : X.A.guards = some []
  fn : ∀ x, ow.names.lookup x = some .cell → X.fn x = true
structure Cok (Γ : PC) (X : Cx) (W : WX) (k : Nat) (N : List Str) (sc ow : Scope) : Prop extends Bok Γ X W N sc ow where
  rg : RG k X.A
  calm : X.calm = true
/-- the body of a def itself -/
structure Fok (Γ : PC) (X : Cx) (W : WX) (k : Nat) (N : List Str) (sc ow : Scope) : Prop extends Cok Γ X W k N sc ow where
  stk : X.stack = X.env :: X.outer
  frm : X.env.frame = some X.env.locals
/-- a name that may be stored -/
def stB (sc ow : Scope) (x : Str) : Bool := match sc.names.lookup x with
  | some .local => true
  | some .cell => (match ow.names.lookup x with | some .cell => true | _ => false)
  | _ => false
section
variable {Γ : PC} {X : Cx} {B : Bs} {W : WX} {k : Nat} {N : List Str} {sc ow : Scope} {e a b c : Expr} {es : List Expr} {x : Str} {pos p : Pos} {f : En → M D} {g ga : En → M (List D)}
theorem Bok.vis (c : Bok Γ X W N sc ow) (h : visB sc x = true) : Vis X.env.scope x := by
  rw [c.hsc]
  unfold visB at h
  unfold Vis
  split at h <;> simp_all
theorem Bok.loc (c : Bok Γ X W N sc ow) (h : stB sc ow x = true) : Loc X.env.scope x := by
  rw [c.hsc]
  unfold stB at h
  unfold L2.Loc
  split at h <;> simp_all
theorem Bok.lfn (c : Bok Γ X W N sc ow) (h : stB sc ow x = true) : X.fn x = true ∨ X.env.scope.names.lookup x = some .local := by
  rw [c.hsc]
  unfold stB at h
  split at h
  · exact .inr (by assumption)
  · split at h
    · exact .inl (c.fn x (by assumption))
    · cases h
  · cases h
theorem Bok.gl (c : Bok Γ X W N sc ow) (h : glB sc x = true) : Gl X x := by
  show X.env.scope.names.lookup x = _
  rw [c.hsc]
  unfold glB at h
  split at h <;> simp_all
theorem Bok.nmv (c : Bok Γ X W N sc ow) {i : Nat} (h : N[i]? = some x) : (x == ("__debug__" : Str)) = false ∧ (x == ("__classdict__" : Str)) = false := by
  have q := c.nm x (List.mem_of_getElem? h)
  unfold nameOk at q
  simp only [Bool.and_eq_true, Bool.not_eq_true'] at q
  exact q
theorem Bok.ix (c : Bok Γ X W N sc ow) {i : Nat} (h : N[i]? = some x) : X.N[i]? = some x := by rw [c.hN]; exact h
/-- a slot's name -/
theorem v_ (c : Bok Γ X W N sc ow) (i : Nat) (h : N[i]? = some x := by rfl) (hv : visB sc x = true := by rfl) : DE X W (.Name x pos) (eVar i) := d_var i (c.ix h) (c.vis hv) (c.nmv h).1 (c.nmv h).2
theorem gn_ (c : Bok Γ X W N sc ow) (i : Nat) (h : N[i]? = some x := by rfl) (hv : stB sc ow x = true := by rfl) : DG X (.Name x pos) (tgN i) [i] := g_name i (c.hN ▸ c.nd) (c.ix h) (c.loc hv) (c.lfn hv)
theorem set_ (c : Bok Γ X W N sc ow) (i : Nat) {pos' : Pos} (hf : DE X W e f) (hs : ∀ env, swapsWith e (some (.Name x pos')) pos.line env = pure false := by intro _; rfl) (h : N[i]? = some x := by rfl) (hv : stB sc ow x = true := by rfl) : DS X B W (.Assign [.Name x pos'] e pos) (sAsg f (tgN i)) :=
  s_set i hf (c.hN ▸ c.nd) (c.ix h) (c.loc hv) (c.lfn hv) (hs _)
theorem own_ (c : Bok Γ X W N sc ow) (i : Nat) {pos' : Pos} (hf : DO X W e g) (hs : ∀ env, swapsWith e (some (.Name x pos')) pos.line env = pure false := by intro _; rfl) (h : N[i]? = some x := by rfl) (hv : stB sc ow x = true := by rfl) : DS X B W (.Assign [.Name x pos'] e pos) (sOwn i g) :=
  s_own i hf (c.hN ▸ c.nd) (c.ix h) (c.loc hv) (c.lfn hv) (hs _)
end
/-! ### promises -/
def spI (K : PySem.W.Frag) (mg : Str → Option Value) (n : Nat) (f : List D → M D) : Sp := fun vs H Q E => vs.length = n ∧ ∃ w h ds, w.K = K ∧ w.mg = mg ∧ HR w h H ∧ DtL w H vs ds ∧
  ((f ds) h).wp (fun d h' => ∀ v H' w', Step w H w' h' H' → Dt w' H' v d → Q v H') (fun c fs h' => ∀ cls dx H' w', Step w H w' h' H' → ExD w' H' cls dx c fs → E cls dx H')
def spO (K : PySem.W.Frag) (mg : Str → Option Value) (n : Nat) (f : List D → M (List D)) : Sp := fun vs H Q E => vs.length = n ∧ ∃ w h ds, w.K = K ∧ w.mg = mg ∧ HR w h H ∧ DtL w H vs ds ∧
  ((f ds) h).wp (fun d h' => ∀ p xs H' w', Step w H w' h' H' → H p = none → w'.Z p → p ∉ w'.m → H' p = some (.lst xs) → DtL w' H' xs d → Q (.ref p) H') (fun c fs h' => ∀ cls dx H' w', Step w H w' h' H' → ExD w' H' cls dx c fs → E cls dx H')
/-- the slots at the start -/
def startE (n : Nat) (ds : List D) : En := ds.map (fun d => some (Sl.val d)) ++ List.replicate (n - ds.length) none
theorem rep_start {w : Wd} {hd : Hd} {H : Hp} {N : List Str} {vs : List V} {ds : List D} (h : DtL w H vs ds) : Rep w hd H (L2.start N vs) (startE N.length ds) := by
  have hl := h.length
  have at' : ∀ (i : Nat) (s : Sl), (startE N.length ds)[i]? = some (some s) → ∃ d, s = .val d ∧ ds[i]? = some d := fun i s q => by
    unfold startE at q
    by_cases hi : i < ds.length
    · rw [List.getElem?_append_left (by simpa using hi), List.getElem?_map] at q
      cases e : ds[i]? with
      | none => rw [e] at q; cases q
      | some x => rw [e] at q; cases q; exact ⟨x, rfl, rfl⟩
    · rw [List.getElem?_append_right (by simpa using hi), List.getElem?_replicate] at q
      split at q <;> cases q
  refine ⟨by simp [L2.start, startE, hl], fun i s q => ?_, fun i j s t _ q1 _ o1 _ => ?_⟩
  · obtain ⟨d, rfl, e⟩ := at' i s q
    obtain ⟨v, h1, h2⟩ := h.get e
    refine ⟨v, ?_, h2⟩
    unfold L2.start
    rw [List.getElem?_append_left (by rw [List.length_map, hl]; exact (List.getElem?_eq_some_iff.mp e).1), List.getElem?_map, h1]
    rfl
  · obtain ⟨d, rfl, _⟩ := at' i s q1
    cases o1
theorem startE_own {n i : Nat} {ds : List D} {s : Sl} (q : (startE n ds)[i]? = some (some s)) : s.owned = false := by
  unfold startE at q
  by_cases hi : i < ds.length
  · rw [List.getElem?_append_left (by simpa using hi), List.getElem?_map] at q
    cases e : ds[i]? with
    | none => rw [e] at q; cases q
    | some x => rw [e] at q; cases q; rfl
  · rw [List.getElem?_append_right (by simpa using hi), List.getElem?_replicate] at q
    split at q <;> cases q
/-- a body, called -/
def runB (ar n : Nat) (F : MS) : List D → M D := fun ds h => if ds.length = ar then (match F (startE n ds) h with
  | .nx _ h' => .ok .non h'
  | .rt d h' => .ok d h'
  | .ex c fs _ h' => .ex c fs h'
  | .ro ds h' => .ok (.lst ds) h'
  | _ => .no) else .no
/-- a body that returns a new list, called -/
def runO (ar n : Nat) (F : MS) : List D → M (List D) := fun ds h => if ds.length = ar then (match F (startE n ds) h with
  | .ex c fs _ h' => .ex c fs h'
  | .ro ds h' => .ok ds h'
  | _ => .no) else .no
def nmsOk (N : List Str) : Bool := N.all nameOk
section
variable {Γ : PC} {k : Nat} {f : Addr} {fd : FuncData} {N ps : List Str} {x qual : Str} {st : Stmt} {F : MS}
theorem cok_body {cdv : Value} {A : Around} {outer : List Env} {s : Shared} {H : Hp} {E : XK} (Sc : FnScope N ps (defScope st)) (hn : nmsOk N = true) (hr : RG k (A.deeper (envOfC qual (defScope st) s.heap.objs.size f cdv))) :
    Fok Γ (CxB (CX Γ.P Γ.w) Γ.P Γ.w Γ.K Γ.mg Γ.base N qual st f cdv A outer s H E) (fun cls dx _ H' => E cls dx H') k N (defScope st) (defScope st) :=
  { pc := rfl, hN := rfl, hsc := rfl, nd := Sc.nd, nm := List.all_eq_true.mp hn, tk := takes_of rfl rfl rfl rfl, ps := passes_of rfl, un := by have := hr.room.un; show (A.deeper _).units + 200 < _; omega, gd := hr.gd, fn := fun _ _ => rfl, rg := hr, calm := rfl, stk := rfl, frm := rfl }
/-- a def's promise, from what its body computes -/
theorem fn_den (Fu : Fun Γ.K x qual st f fd) (Sc : FnScope N ps (defScope st)) (hn : nmsOk N = true) (hbody : ∀ (X : Cx) (B : Bs) (W : WX), Fok Γ X W k N (defScope st) (defScope st) → DSs X B W (defBody st) F) :
    FnG Γ.P Γ.w Γ.K Γ.mg Γ.base (CX Γ.P Γ.w) (k + 1) f fd ps (spI Γ.K Γ.mg ps.length (runB ps.length N.length F)) := by
  refine fnG_of Fu Sc (fun vs H Q E h => h.1) fun cdv A outer s H vs Q E hr h => ?_
  obtain ⟨hl, w, h, ds, hK, hm, hR, t, k0⟩ := h
  unfold runB at k0
  rw [if_pos (by rw [← t.length]; exact hl)] at k0
  refine ⟨_, hbody _ ⟨w, H, hR.dom, none⟩ _ (cok_body Sc hn hr), w, none, h, startE N.length ds, ⟨⟨hK, hm, trivial, hR, rep_start t⟩, Step.refl hR, fun i s a q o => by rw [startE_own q] at o; cases o⟩, ?_⟩
  cases q : F (startE N.length ds) h with
  | nx ρ' h' => rw [q] at k0; exact fun σ' H' w' _ c' => k0 .non H' w' c'.bs .non
  | rt d h' => rw [q] at k0; exact fun v H' w' s' t' => k0 v H' w' s' t'
  | bk ρ' h' => rw [q] at k0; exact k0.elim
  | ct ρ' h' => rw [q] at k0; exact k0.elim
  | ex c fs ρ' h' => rw [q] at k0; exact fun cls dx σ' H' w' _ c' x' => k0 cls dx H' w' c'.bs x'
  | ro ds' h' => rw [q] at k0; exact fun p xs H' w' s' hp z n e t' => k0 _ H' _ (s'.frz hR hp n) (.lst e (fun q => q.2 rfl) (t'.to To.minus))
  | no => rw [q] at k0; exact k0.elim
theorem fn_denO (Fu : Fun Γ.K x qual st f fd) (Sc : FnScope N ps (defScope st)) (hn : nmsOk N = true) (hbody : ∀ (X : Cx) (B : Bs) (W : WX), Fok Γ X W k N (defScope st) (defScope st) → DSs X B W (defBody st) F) :
    FnG Γ.P Γ.w Γ.K Γ.mg Γ.base (CX Γ.P Γ.w) (k + 1) f fd ps (spO Γ.K Γ.mg ps.length (runO ps.length N.length F)) := by
  refine fnG_of Fu Sc (fun vs H Q E h => h.1) fun cdv A outer s H vs Q E hr h => ?_
  obtain ⟨hl, w, h, ds, hK, hm, hR, t, k0⟩ := h
  unfold runO at k0
  rw [if_pos (by rw [← t.length]; exact hl)] at k0
  refine ⟨_, hbody _ ⟨w, H, hR.dom, none⟩ _ (cok_body Sc hn hr), w, none, h, startE N.length ds, ⟨⟨hK, hm, trivial, hR, rep_start t⟩, Step.refl hR, fun i s a q o => by rw [startE_own q] at o; cases o⟩, ?_⟩
  cases q : F (startE N.length ds) h with
  | nx ρ' h' => rw [q] at k0; exact k0.elim
  | rt d h' => rw [q] at k0; exact k0.elim
  | bk ρ' h' => rw [q] at k0; exact k0.elim
  | ct ρ' h' => rw [q] at k0; exact k0.elim
  | ex c fs ρ' h' => rw [q] at k0; exact fun cls dx σ' H' w' _ c' x' => k0 cls dx H' w' c'.bs x'
  | ro ds' h' => rw [q] at k0; exact fun p xs H' w' s' hp z n e t' => k0 p xs H' w' s' hp z n e t'
  | no => rw [q] at k0; exact k0.elim
end
/-- a def of the module by what it computes -/
def Fn (Γ : PC) (k : Nat) (x : Str) (n : Nat) (f : List D → M D) : Prop := ∃ fa fd ps, Γ.mg x = some (.ref fa) ∧ PySem.W.keepIn Γ.K (.ref fa) = true ∧ Binds Γ.K fd ps [] ∧ ps.length = n ∧ (∀ ds h, ds.length ≠ n → f ds h = .no) ∧
  FnG Γ.P Γ.w Γ.K Γ.mg Γ.base (CX Γ.P Γ.w) k fa fd ps (spI Γ.K Γ.mg n f)
/-- a def that makes a new list -/
def FnO (Γ : PC) (k : Nat) (x : Str) (n : Nat) (f : List D → M (List D)) : Prop := ∃ fa fd ps, Γ.mg x = some (.ref fa) ∧ PySem.W.keepIn Γ.K (.ref fa) = true ∧ Binds Γ.K fd ps [] ∧ ps.length = n ∧ (∀ ds h, ds.length ≠ n → f ds h = .no) ∧
  FnG Γ.P Γ.w Γ.K Γ.mg Γ.base (CX Γ.P Γ.w) k fa fd ps (spO Γ.K Γ.mg n f)
theorem Fn.mono {Γ : PC} {j k : Nat} {x : Str} {n : Nat} {f : List D → M D} (h : Fn Γ j x n f) (hk : j ≤ k) : Fn Γ k x n f := by
  obtain ⟨fa, fd, ps, h1, h2, h3, h4, h6, h5⟩ := h
  exact ⟨fa, fd, ps, h1, h2, h3, h4, h6, h5.mono hk⟩
def eCall (f : List D → M D) (ga : En → M (List D)) : En → M D := fun ρ => (ga ρ).bind f
def eCallO (f : List D → M (List D)) (ga : En → M (List D)) : En → M (List D) := fun ρ => (ga ρ).bind f
section
variable {Γ : PC} {X : Cx} {B : Bs} {W : WX} {j k n : Nat} {N : List Str} {sc ow : Scope} {e : Expr} {es : List Expr} {x : Str} {pos p : Pos} {ff : List D → M D} {fo : List D → M (List D)} {ga : En → M (List D)}
/-- the callee runs -/
theorem run_G {f : Addr} {fd : FuncData} {ps : List Str} {sp : Sp} {pins : List (Addr × Obj)} {σ : L2.St} {H : Hp} {s : Shared} {Q : VK} {us : List Value} {vs : List V} {args : Args} (F : FnG X.prog X.w X.K X.mg X.base (CX X.prog X.w) j f fd ps sp) (hr : RG j X.A) (tk : Takes X W)
    (hb : us.length = ps.length → BindsTo s fd args (ps.zip us)) (I : Inv X pins σ H s) (rv : Vals vs us) (hsp : sp vs H Q fun cls dx H' => W cls dx σ H') :
    codeAny (model X.prog X.w) X.A (.call (.ref f) args) (fun r s' => match r with
      | .ok (.ret u) => EP X pins σ Q u s'
      | .ok _ => False
      | .error err => X.xe err s') s := by
  refine codeAny_mono (F.run X.A X.stack s H args us vs Q (fun cls dx H' => W cls dx σ H') hr I.env0 (hb (by rw [← rv.length]; exact F.len _ _ _ _ hsp)) rv hsp) fun r s' hq => ?_
  cases r with
  | error err => exact tk err s' (XE.of_call I (fun cls d H' z => z) hq)
  | ok fl =>
    cases fl with
    | ret u => exact I.after hq
    | next => exact hq.elim
    | brk => exact hq.elim
    | cont => exact hq.elim
theorem call_fin {pins : List (Addr × Obj)} {σ : L2.St} {s : Shared} {Q : VK} {f : Value} {us : List Value} {kw : List (Str × Value)} (h : codeAny (model X.prog X.w) X.A (.call f ⟨us, kw⟩) (fun r s' => match r with
      | .ok (.ret u) => EP X pins σ Q u s'
      | .ok _ => False
      | .error err => X.xe err s') s) : wpAny (model X.prog X.w) X.A (call f us kw) (EP X pins σ Q) X.xe s := by
  refine wpAny_call (codeAny_mono h fun r s' hq => ?_)
  cases r with
  | error err => exact hq
  | ok fl =>
    cases fl with
    | ret u => exact hq
    | next => exact hq.elim
    | brk => exact hq.elim
    | cont => exact hq.elim
/-- what is asked behind the arguments -/
theorem args_I {σ : L2.St} {H : Hp} {Q : VK} (z : tE X W (eCall ff ga) σ H Q) (har : ∀ ds h, ds.length ≠ n → ff ds h = .no) : tL X W ga σ H fun vs H1 => spI X.K X.mg n ff vs H1 Q fun cls dx H' => W cls dx σ H' := by
  obtain ⟨w, hd, h, ρ, cu, k0⟩ := z
  refine tL.run cu (wp_bind.mp k0) (fun ds h1 vs H1 w1 q s1 c1 t1 => ⟨?_, w1, h1, ds, c1.K, c1.mg, c1.hr, t1, q.mono (fun d h' q v H' w' s => q v H' w' (s1.trans s)) fun cc fs h' q cls dx H' w' s => q cls dx H' w' (s1.trans s)⟩) fun _ _ _ z => z
  by_cases hl : vs.length = n
  · exact hl
  · rw [har ds h1 (by rw [← t1.length]; exact hl)] at q
    exact q.elim
theorem args_O {σ : L2.St} {H : Hp} {Q : VK} (z : tO X W (eCallO fo ga) σ H Q) (har : ∀ ds h, ds.length ≠ n → fo ds h = .no) : tL X W ga σ H fun vs H1 => spO X.K X.mg n fo vs H1 Q fun cls dx H' => W cls dx σ H' := by
  obtain ⟨w, hd, h, ρ, cu, k0⟩ := z
  refine tL.run cu (wp_bind.mp k0) (fun ds h1 vs H1 w1 q s1 c1 t1 => ⟨?_, w1, h1, ds, c1.K, c1.mg, c1.hr, t1, q.mono (fun d h' q p xs H' w' s hp => q p xs H' w' (s1.trans s) (s1.there hp)) fun cc fs h' q cls dx H' w' s => q cls dx H' w' (s1.trans s)⟩) fun _ _ _ z => z
  by_cases hl : vs.length = n
  · exact hl
  · rw [har ds h1 (by rw [← t1.length]; exact hl)] at q
    exact q.elim
theorem call_ (c : Cok Γ X W k N sc ow) (F : Fn Γ j x n ff) (ha : DA X W (e :: es) ga) (hj : j ≤ k := by decide) (hg : glB sc x = true := by rfl) (hdb : (x == ("__debug__" : Str)) = false := by rfl)
    (he : starEach (e :: es) X.env = (false, eval e X.env) :: starEach es X.env := by rfl) (hpl : (backTo pos (starEach es X.env)).any (·.1) = false := by rfl) : DE X W (.Call (.Name x p) (e :: es) [] pos) (eCall ff ga) := by
  obtain ⟨f, fd, ps, hm, kp, bd, hps, har, F⟩ := F
  have hpc := c.pc
  subst hpc
  refine ⟨fun pins s σ H Q I z => wpAny_Call_Name_kw (ld_glob I (c.gl hg) hm (PySem.W.callWith_K (h₀ := X.base) I.ok.mod.kin kp (thn (ha.run pos pins s σ H _ I (args_I z har)) fun us s1 ⟨vs, H1, I1, rv, q⟩ => ⟨I1.kIn, ?_⟩) he hpl) hdb)⟩
  refine call_fin (run_G F (c.rg.mono hj) c.tk (fun hl' => ?_) I1 rv q)
  have bd := bd s1 us I1.kIn (by rw [List.append_nil]; exact hl')
  rw [List.append_nil] at bd
  exact bd
theorem callO_ (c : Cok Γ X W k N sc ow) (F : FnO Γ j x n fo) (ha : DA X W (e :: es) ga) (hj : j ≤ k := by decide) (hg : glB sc x = true := by rfl) (hdb : (x == ("__debug__" : Str)) = false := by rfl)
    (he : starEach (e :: es) X.env = (false, eval e X.env) :: starEach es X.env := by rfl) (hpl : (backTo pos (starEach es X.env)).any (·.1) = false := by rfl) : DO X W (.Call (.Name x p) (e :: es) [] pos) (eCallO fo ga) := by
  obtain ⟨f, fd, ps, hm, kp, bd, hps, har, F⟩ := F
  have hpc := c.pc
  subst hpc
  refine ⟨fun pins s σ H Q I z => wpAny_Call_Name_kw (ld_glob I (c.gl hg) hm (PySem.W.callWith_K (h₀ := X.base) I.ok.mod.kin kp (thn (ha.run pos pins s σ H _ I (args_O z har)) fun us s1 ⟨vs, H1, I1, rv, q⟩ => ⟨I1.kIn, ?_⟩) he hpl) hdb)⟩
  refine call_fin (run_G F (c.rg.mono hj) c.tk (fun hl' => ?_) I1 rv q)
  have bd := bd s1 us I1.kIn (by rw [List.append_nil]; exact hl')
  rw [List.append_nil] at bd
  exact bd
end
end WR
set_option Elab.async false
set_option linter.all false
set_option autoImplicit false
set_option maxRecDepth 100000
set_option maxHeartbeats 4000000
namespace WR
open PySem PySem.Spec PyProof.Rows L2
/-! ### data as the library's own data -/
def keyP : Key → PyData
  | .inl i => .int i
  | .inr y => .str y
mutual
def D.pd : D → Option PyData
  | .non => some .none
  | .bl b => some (.bool b)
  | .int i => some (.int i)
  | .str x => some (.str x)
  | .tup xs => (D.pdL xs).map .tuple
  | .lst xs => (D.pdL xs).map .list
  | .fz xs => (D.pdL xs).map .list
  | .dct kvs => (D.pdK kvs).map .dict
  | .pr _ => none
  | .obj _ _ => none
  | .loc _ => none
  | .ty _ => none
  | .glo _ => none
def D.pdL : List D → Option (List PyData)
  | [] => some []
  | x :: xs => match D.pd x, D.pdL xs with
    | some p, some ps => some (p :: ps)
    | _, _ => none
def D.pdK : List (Key × D) → Option (List (PyData × PyData))
  | [] => some []
  | (k, x) :: xs => match D.pd x, D.pdK xs with
    | some p, some ps => some ((keyP k, p) :: ps)
    | _, _ => none
end
theorem pdL_cons {x : D} {xs : List D} {ps : List PyData} (h : D.pdL (x :: xs) = some ps) : ∃ p r, D.pd x = some p ∧ D.pdL xs = some r ∧ ps = p :: r := by
  unfold D.pdL at h
  split at h
  · rename_i p r h1 h2
    exact ⟨p, r, h1, h2, (Option.some.inj h).symm⟩
  · cases h
theorem pdK_cons {k : Key} {x : D} {xs : List (Key × D)} {ps : List (PyData × PyData)} (h : D.pdK ((k, x) :: xs) = some ps) : ∃ p r, D.pd x = some p ∧ D.pdK xs = some r ∧ ps = (keyP k, p) :: r := by
  unfold D.pdK at h
  split at h
  · rename_i p r h1 h2
    exact ⟨p, r, h1, h2, (Option.some.inj h).symm⟩
  · cases h
/-- what is read off the heap: lists, or dicts that are not the module list -/
def Tr (h : Heap) (as : List Addr) : Prop := ∀ a ∈ as, (∃ o vs n, h.get? a = some o ∧ o.data = .seq vs n) ∨ (a == sysModules) = false
section
variable {X : Cx} {pins : List (Addr × Obj)} {σ : L2.St} {H : Hp} {s : Shared} {w : Wd}
mutual
theorem Dt.reads (I : Inv X pins σ H s) (hK : w.K = X.K) : ∀ {v : V} {d : D} {u : Value} {p : PyData}, Dt w H v d → D.pd d = some p → RelV v u → ∃ as, Reads s.heap u p as ∧ Tr s.heap as
  | _, _, _, _, .non, h, r => by
    unfold D.pd at h
    cases h
    cases r
    exact ⟨_, Reads.none, fun _ z => nomatch z⟩
  | _, _, _, _, .bl b, h, r => by
    unfold D.pd at h
    cases h
    cases r
    exact ⟨_, Reads.bool b, fun _ z => nomatch z⟩
  | _, _, _, _, .int i, h, r => by
    unfold D.pd at h
    cases h
    obtain ⟨t, rfl⟩ := r
    exact ⟨_, Reads.int i t, fun _ z => nomatch z⟩
  | _, _, _, _, .str x, h, r => by
    unfold D.pd at h
    cases h
    obtain ⟨t, rfl⟩ := r
    exact ⟨_, Reads.str x t, fun _ z => nomatch z⟩
  | _, _, _, _, .lst (ds := ds) ha _ hl, h, r => by
    unfold D.pd at h
    cases e : D.pdL ds with
    | none =>
      rw [e] at h
      cases h
    | some ps =>
      rw [e] at h
      cases h
      cases r
      obtain ⟨its, rv, ⟨o, n, ho, hc, _, hd⟩, _⟩ := I.list (SqL.of ha)
      obtain ⟨as, hr, ht⟩ := DtL.reads I hK hl e rv
      refine ⟨_, Reads.list ho hc hd hr, fun b hb => ?_⟩
      rcases List.mem_cons.mp hb with rfl | hb
      · exact .inl ⟨_, _, _, ho, hd⟩
      · exact ht b hb
  | _, _, _, _, .fz (ds := ds) ha hl, h, r => by
    unfold D.pd at h
    cases e : D.pdL ds with
    | none =>
      rw [e] at h
      cases h
    | some ps =>
      rw [e] at h
      cases h
      cases r
      obtain ⟨its, rv, ⟨o, n, ho, hc, _, hd⟩, _⟩ := I.list (hK ▸ ha.sq)
      obtain ⟨as, hr, ht⟩ := DtL.reads I hK hl e rv
      refine ⟨_, Reads.list ho hc hd hr, fun b hb => ?_⟩
      rcases List.mem_cons.mp hb with rfl | hb
      · exact .inl ⟨_, _, _, ho, hd⟩
      · exact ht b hb
  | _, _, _, _, .tup (ds := ds) ha hl, h, r => by
    unfold D.pd at h
    cases e : D.pdL ds with
    | none =>
      rw [e] at h
      cases h
    | some ps =>
      rw [e] at h
      cases h
      cases r
      obtain ⟨its, rv, ⟨o, ho, hc, n, hd⟩, _⟩ := I.tuple (hK ▸ ha.sq)
      obtain ⟨as, hr, ht⟩ := DtL.reads I hK hl e rv
      exact ⟨_, Reads.tuple ho hc hd hr, ht⟩
  | _, _, _, _, .dct (a := a) (xs := xs) (ds := ds) ha _ hl, h, r => by
    unfold D.pd at h
    cases e : D.pdK ds with
    | none =>
      rw [e] at h
      cases h
    | some ps =>
      rw [e] at h
      cases h
      cases r
      obtain ⟨z, y, vs, kv, hdict⟩ := I.hok a _ ha
      obtain ⟨o, es, ep, ho, hx, hd, hes⟩ := hdict
      obtain ⟨as, k1, k2, k3⟩ := DtK.reads I hK hl e kv hes.2.1
      refine ⟨_, Reads.dict ho hx.1 hd k1 k2, fun b hb => ?_⟩
      rcases List.mem_append.mp hb with hb | hb
      · rcases List.mem_cons.mp hb with rfl | hb
        · exact .inr y
        · cases hb
      · exact k3 b hb
  | _, _, _, _, .pr _ _ _, h, _ => by unfold D.pd at h; cases h
  | _, _, _, _, .obj _ _ _ _, h, _ => by unfold D.pd at h; cases h
  | _, _, _, _, .loc _, h, _ => by unfold D.pd at h; cases h
  | _, _, _, _, .ty _, h, _ => by unfold D.pd at h; cases h
  | _, _, _, _, .glo _, h, _ => by unfold D.pd at h; cases h
theorem DtL.reads (I : Inv X pins σ H s) (hK : w.K = X.K) : ∀ {v : List V} {d : List D} {u : List Value} {p : List PyData}, DtL w H v d → D.pdL d = some p → Vals v u → ∃ as, ReadsAll s.heap u p as ∧ Tr s.heap as
  | _, _, _, _, .nil, h, r => by
    unfold D.pdL at h
    cases h
    cases r
    exact ⟨_, ReadsAll.nil, fun _ z => nomatch z⟩
  | _, _, _, _, .cons ha hl, h, r => by
    obtain ⟨p, q, h1, h2, rfl⟩ := pdL_cons h
    cases r with
    | cons r1 r2 =>
      obtain ⟨as, q1, t1⟩ := Dt.reads I hK ha h1 r1
      obtain ⟨bs, q2, t2⟩ := DtL.reads I hK hl h2 r2
      exact ⟨_, ReadsAll.cons q1 q2, fun b hb => (List.mem_append.mp hb).elim (t1 b) (t2 b)⟩
theorem DtK.reads (I : Inv X pins σ H s) (hK : w.K = X.K) : ∀ {v : List (Key × V)} {d : List (Key × D)} {u : List (Key × Value)} {es : List DictEntry} {p : List (PyData × PyData)}, DtK w H v d → D.pdK d = some p → KV v u → Pairs (mixKind X.prog X.w) es u →
    ∃ as, ReadsAll s.heap (es.map (·.key)) (p.map (·.1)) [] ∧ ReadsAll s.heap (es.map (·.val)) (p.map (·.2)) as ∧ Tr s.heap as
  | _, _, _, _, _, .nil, h, r, q => by
    unfold D.pdK at h
    cases h
    cases r
    cases q
    exact ⟨_, ReadsAll.nil, ReadsAll.nil, fun _ z => nomatch z⟩
  | _, _, _, _, _, .cons ha hl, h, r, q => by
    obtain ⟨p, w', h1, h2, rfl⟩ := pdK_cons h
    cases r with
    | cons r1 r2 =>
      cases q with
      | cons q1 q2 =>
        rename_i es en
        obtain ⟨as, a1, a2⟩ := Dt.reads I hK ha h1 r1.2
        obtain ⟨bs, b1, b2, b3⟩ := DtK.reads I hK hl h2 r2 (by assumption)
        refine ⟨as ++ bs, ?_, ?_, fun b hb => (List.mem_append.mp hb).elim (a2 b) (b3 b)⟩
        · have q1' : keyIs _ _ = true := q1
          rw [← r1.1] at q1'
          rw [List.map_cons, List.map_cons]
          rcases keyIs_shape q1' with ⟨i, t, e1, e2⟩ | ⟨y, t, e1, e2⟩
          · have e1' := e1
            simp only at e1'
            subst e1'
            rw [e2]
            exact ReadsAll.cons (Reads.int i t) b1
          · have e1' := e1
            simp only at e1'
            subst e1'
            rw [e2]
            exact ReadsAll.cons (Reads.str y t) b1
        · rw [List.map_cons, List.map_cons, q2]
          exact ReadsAll.cons a1 b2
end
end
/-! ### an object that may change, looked at -/
def lk (h : IH) : D → D
  | .loc l => match h[l]? with
    | some (.lst ds) => .lst ds
    | some (.dct kvs) => .dct kvs
    | _ => .loc l
  | d => d
def Wd.rd (w : Wd) : Wd := { w with Z := fun _ => False }
theorem To.rd {w : Wd} {H : Hp} : To w H w.rd H := ⟨rfl, rfl, fun _ _ h => h, fun _ _ e _ => e, fun _ _ _ z => z⟩
theorem lk_dt {w : Wd} {h : IH} {H : Hp} {v : V} {d : D} (r : HR w h H) (t : Dt w H v d) : Dt w.rd H v (lk h d) := by
  cases d with
  | loc l =>
    cases t with
    | @loc a _ hl =>
      unfold lk
      dsimp only
      split
      · rename_i ds e
        obtain ⟨xs, e1, t1⟩ := r.at_ l a _ hl e
        exact .lst e1 (fun z => z) (t1.to To.rd)
      · rename_i ds e
        obtain ⟨xs, e1, t1⟩ := r.at_ l a _ hl e
        exact .dct e1 (fun z => z) (t1.to To.rd)
      · exact .loc hl
  | _ => exact t.to To.rd
/-- comparisons of data -/
def lenNe (d1 d2 : D) : Bool := match lstOf d1, lstOf d2 with
  | some xs, some ys => decide (xs.length ≠ ys.length)
  | _, _ => false
def shp (p : PyData) : Bool := p.plain && decide (p.depth ≤ 64)
theorem shp_plain {p : PyData} (h : shp p = true) : p.plain = true := (Bool.and_eq_true_iff.mp h).1
theorem shp_depth {p : PyData} (h : shp p = true) : p.depth ≤ 64 := of_decide_eq_true (Bool.and_eq_true_iff.mp h).2
theorem shp_of {p : PyData} (h1 : p.plain = true) (h2 : p.depth ≤ 64) : shp p = true := by
  unfold shp
  rw [h1, decide_eq_true h2]
  rfl
theorem shp_list {ps : List PyData} (h : shp (.list ps) = true) : PyData.plainAll ps = true := by simpa [PyData.plain] using shp_plain h
theorem shp_tuple {ps : List PyData} (h : shp (.tuple ps) = true) : PyData.plainAll ps = true := by simpa [PyData.plain] using shp_plain h
theorem room_eq {a b n : Nat} {p : PyData} (h : shp p = true) (hu : a + 64 < n) : a + min p.depth b < n := by
  have := shp_depth h
  omega
theorem room_in2 {a b n : Nat} {p : PyData} (h : shp p = true) (hu : a + 200 < n) : a + 1 + min b p.depth < n := by
  have := shp_depth h
  omega
def eqT (d1 d2 : D) : Option Bool := if lenNe d1 d2 = true then some false else match D.pd d1, D.pd d2 with
  | some p, some q => if shp p = true ∧ shp q = true then some (PyData.eqv p q) else none
  | _, _ => none
def eqP : P2 := fun h x y => (eqT (lk h x) (lk h y)).map D.bl
def neP : P2 := fun h x y => (eqT (lk h x) (lk h y)).map fun b => D.bl (!b)
section
variable {X : Cx}
theorem eqT_some {d1 d2 : D} {b : Bool} (h : eqT d1 d2 = some b) : (∃ xs ys, lstOf d1 = some xs ∧ lstOf d2 = some ys ∧ xs.length ≠ ys.length ∧ b = false) ∨ ∃ p q, D.pd d1 = some p ∧ D.pd d2 = some q ∧ shp p = true ∧ shp q = true ∧ b = PyData.eqv p q := by
  unfold eqT at h
  split at h
  · rename_i hl
    cases h
    unfold lenNe at hl
    split at hl
    · rename_i xs ys e1 e2
      exact .inl ⟨xs, ys, e1, e2, of_decide_eq_true hl, rfl⟩
    · cases hl
  · refine .inr ?_
    split at h
    · rename_i p q e1 e2
      split at h
      · rename_i hs
        cases h
        exact ⟨p, q, e1, e2, hs.1, hs.2, rfl⟩
      · cases h
    · cases h
section
variable {pins : List (Addr × Obj)} {s : Shared} {σ : L2.St} {H : Hp} {w : Wd} {x y : V} {v u : Value} {d1 d2 : D} {xs ys : List D} {Q : Value → Shared → Prop}
theorem eq_len (I : Inv X pins σ H s) (hK : w.K = X.K) (t1 : Dt w H x d1) (t2 : Dt w H y d2) (rx : RelV x v) (ry : RelV y u) (e1 : lstOf d1 = some xs) (e2 : lstOf d2 = some ys) (ne : xs.length ≠ ys.length) (hu : X.A.units < cLine) (q : Q (.bool false) s) : wpAny (model X.prog X.w) X.A (compareOp .Eq v u) Q X.xe s := by
  obtain ⟨a1, vs1, rfl, m1, l1⟩ := lstOf_some e1 t1
  obtain ⟨a2, vs2, rfl, m2, l2⟩ := lstOf_some e2 t2
  cases rx
  cases ry
  obtain ⟨its, r1, p1, _⟩ := I.list (hK ▸ m1.sq)
  obtain ⟨its2, r2, p2, _⟩ := I.list (hK ▸ m2.sq)
  refine PySem.SeqAt.eq_list_lengthsAt p1.isList p2.isList ?_ hu q
  rw [List.size_toArray, List.size_toArray, ← r1.length, ← r2.length, l1.length, l2.length]
  simpa using ne
theorem ne_len (I : Inv X pins σ H s) (hK : w.K = X.K) (t1 : Dt w H x d1) (t2 : Dt w H y d2) (rx : RelV x v) (ry : RelV y u) (e1 : lstOf d1 = some xs) (e2 : lstOf d2 = some ys) (ne : xs.length ≠ ys.length) (hu : X.A.units < cLine) (q : Q (.bool true) s) : wpAny (model X.prog X.w) X.A (compareOp .NotEq v u) Q X.xe s := by
  obtain ⟨a1, vs1, rfl, m1, l1⟩ := lstOf_some e1 t1
  obtain ⟨a2, vs2, rfl, m2, l2⟩ := lstOf_some e2 t2
  cases rx
  cases ry
  obtain ⟨its, r1, p1, _⟩ := I.list (hK ▸ m1.sq)
  obtain ⟨its2, r2, p2, _⟩ := I.list (hK ▸ m2.sq)
  refine PySem.SeqAt.RcNeAt.lists_lengths p1.isList p2.isList ?_ hu X.prog X.w X.xe Q q
  rw [List.size_toArray, List.size_toArray, ← r1.length, ← r2.length, l1.length, l2.length]
  simpa using ne
end
theorem o_eq (hu : X.A.units + 64 < cLine) : Op2 X (compareOp .Eq) eqP := by
  intro pins s σ H w h x y v u d1 d2 d I rx ry hK hm hr t1 t2 hp
  obtain ⟨b, hb, rfl⟩ := Option.map_eq_some_iff.mp hp
  rcases eqT_some hb with ⟨xs, ys, e1, e2, ne, rfl⟩ | ⟨p, q, e1, e2, s1, s2, rfl⟩
  · exact eq_len (w := w.rd) I hK (lk_dt hr t1) (lk_dt hr t2) rx ry e1 e2 ne (by omega) ⟨.bl _, H, I, rfl, fun _ _ e => e, .bl _⟩
  · obtain ⟨as, r1, _⟩ := Dt.reads I (w := w.rd) hK (lk_dt hr t1) e1 rx
    obtain ⟨bs, r2, _⟩ := Dt.reads I (w := w.rd) hK (lk_dt hr t2) e2 ry
    exact SeqAt.eq_plain r1 r2 (shp_plain s1) (shp_plain s2) (room_eq s1 hu) ⟨.bl _, H, I, rfl, fun _ _ e => e, .bl _⟩
theorem o_ne (hu : X.A.units + 64 < cLine) : Op2 X (compareOp .NotEq) neP := by
  intro pins s σ H w h x y v u d1 d2 d I rx ry hK hm hr t1 t2 hp
  obtain ⟨b, hb, rfl⟩ := Option.map_eq_some_iff.mp hp
  rcases eqT_some hb with ⟨xs, ys, e1, e2, ne, rfl⟩ | ⟨p, q, e1, e2, s1, s2, rfl⟩
  · exact ne_len (w := w.rd) I hK (lk_dt hr t1) (lk_dt hr t2) rx ry e1 e2 ne (by omega) ⟨.bl _, H, I, rfl, fun _ _ e => e, .bl _⟩
  · obtain ⟨as, r1, _⟩ := Dt.reads I (w := w.rd) hK (lk_dt hr t1) e1 rx
    obtain ⟨bs, r2, _⟩ := Dt.reads I (w := w.rd) hK (lk_dt hr t2) e2 ry
    exact SeqAt.ne_plain r1 r2 (shp_plain s1) (shp_plain s2) (room_eq s1 hu) ⟨.bl _, H, I, rfl, fun _ _ e => e, .bl _⟩
/-- from a reading -/
theorem Op2.of {f : Value → Value → Sem Value} {r : R2} {p : P2} (hr : OpR X f r) (w : ∀ (w : Wd) (h : IH) (H : Hp) (x y : V) (d1 d2 d : D), w.K = X.K → w.mg = X.mg → HR w h H → Dt w H x d1 → Dt w H y d2 → p h d1 d2 = some d → r x y H (Grow w H d)) : Op2 X f p :=
  fun pins s σ H ww h x y v u d1 d2 d I rx ry hK hm hR t1 t2 hp => hr pins s σ H x y v u _ I rx ry (w ww h H x y d1 d2 d hK hm hR t1 t2 hp)
theorem OpN.of {f : Value} {r : List V → Hp → VK → Prop} {p : Pn} (hr : CallR X f r) (w : ∀ (w : Wd) (h : IH) (H : Hp) (xs : List V) (ds : List D) (d : D), w.K = X.K → w.mg = X.mg → HR w h H → DtL w H xs ds → p h ds = some d → r xs H (Grow w H d)) : OpN X (fun us => call f us) p :=
  fun pins s σ H ww h xs us ds d I rx hK hm hR t hp => hr pins s σ H xs us _ I rx (w ww h H xs ds d hK hm hR t hp)
theorem gr_same {w : Wd} {H : Hp} {v : V} {d : D} (t : Dt w H v d) : Grow w H d v H := ⟨fun _ _ e => e, t⟩
theorem gr_newL {w : Wd} {h : IH} {H : Hp} {p : Addr} {xs : List V} {ds : List D} (r : HR w h H) (hp : H p = none) (t : DtL w H xs ds) : Grow w H (.lst ds) (.ref p) (upd H p (.lst xs)) := ⟨same_new hp, dt_newL r hp t⟩
theorem gr_newT {w : Wd} {h : IH} {H : Hp} {p : Addr} {o : Obj} {xs : List V} {ds : List D} (r : HR w h H) (hp : H p = none) (ho : o.dict = none) (t : DtL w H xs ds) : Grow w H (.tup ds) (.ref p) (upd H p (.frz o (.tup xs))) := ⟨same_new hp, dt_newT r hp ho t⟩
/-- t + u of tuples -/
def rCatN (K : PySem.W.Frag) : R2 := fun x y H Q => ∃ a b xs ys, x = .ref a ∧ y = .ref b ∧ SqT K H a xs ∧ SqT K H b ys ∧ xs.length + ys.length ≤ sizeLine ∧ (xs = [] → Q (.ref b) H) ∧ (xs ≠ [] → ys = [] → Q (.ref a) H) ∧ (xs ≠ [] → ys ≠ [] → ∀ p (o : Obj), H p = none → o.dict = none → Q (.ref p) (upd H p (.frz o (.tup (xs ++ ys)))))
theorem op_catN : OpR X (binaryOp .Add) (rCatN X.K) := by
  intro pins s σ H x y v u Q I rx ry ⟨a, b, xs, ys, e1, e2, ha, hb, hz, q0, q1, q2⟩
  subst e1 e2
  cases rx
  cases ry
  obtain ⟨its, r1, p1, _⟩ := I.tuple ha
  obtain ⟨its2, r2, p2, _⟩ := I.tuple hb
  by_cases hx : xs = []
  · subst hx
    cases r1
    exact cat_tup0 p1 p2 ⟨.ref b, H, I, rfl, q0 rfl⟩
  · exact HT.cat_tup p1 p2 (fun z => hx (r1.nil_iff.mp z)) (fun z => ⟨.ref a, H, I, rfl, q1 hx (r2.nil_iff.mp z)⟩)
      (fun z => ⟨.ref s.heap.objs.size, _, lay_tup I (r1.append r2) (by rw [List.length_append]; exact hz), rfl, q2 hx (fun w => z (r2.nil_iff.mpr w)) _ _ (I.hok.fresh (Nat.le_refl _)) rfl⟩) (by rw [← r1.length, ← r2.length]; exact hz)
/-- tuple(x) -/
theorem call_tupN : CallR X (.type "tuple") (fun xs H Q => ∃ p ys, xs = [.ref p] ∧ ((SqL X.K H p ys ∧ ∀ l (o : Obj), H l = none → o.dict = none → Q (.ref l) (upd H l (.frz o (.tup ys)))) ∨ (SqT X.K H p ys ∧ Q (.ref p) H))) := by
  intro pins s σ H xs us Q I r ⟨p, ys, ex, h⟩
  subst ex
  obtain ⟨u, rfl, rx⟩ := vals1 r
  cases rx
  rcases h with ⟨hq, q⟩ | ⟨hq, q⟩
  · obtain ⟨its, r', pl, hz⟩ := I.list hq
    have hlen := r'.length
    refine call_tuple_list pl.isList (fun h' kp => ?_) (by simp only [List.size_toArray] <;> omega)
    have I1 : Inv X pins σ H { s with heap := h' } := I.kept (t' := s.toks) kp
    exact ⟨.ref h'.objs.size, _, lay_tup I1 r' hz, rfl, q _ _ (I1.hok.fresh (Nat.le_refl _)) rfl⟩
  · obtain ⟨its, r', pl, hz⟩ := I.tuple hq
    exact call_tuple_same pl ⟨.ref p, H, I, rfl, q⟩
/-! ### + - * // % ** -/
def addP : P2 := fun _ x y => match x, y with
  | .int i, .int j => some (.int (i + j))
  | .str x, .str y => if x.length + y.length ≤ sizeLine then some (.str (x ++ y)) else none
  | .lst xs, .lst ys => if xs.length + ys.length ≤ sizeLine then some (.lst (xs ++ ys)) else none
  | .tup xs, .tup ys => if xs.length + ys.length ≤ sizeLine then some (.tup (xs ++ ys)) else none
  | _, _ => none
theorem o_add : Op2 X (binaryOp .Add) addP := by
  intro pins s σ H w h x y v u d1 d2 d I rx ry hK hm hr t1 t2 hp
  unfold addP at hp
  split at hp
  · cases hp
    cases t1
    cases t2
    exact op_add pins s σ H _ _ v u _ I rx ry ⟨_, _, rfl, rfl, gr_same (.int _)⟩
  · split at hp
    · cases hp
      cases t1
      cases t2
      rename_i hl
      exact op_add_str pins s σ H _ _ v u _ I rx ry ⟨_, _, rfl, rfl, hl, gr_same (.str _)⟩
    · cases hp
  · split at hp
    · cases hp
      rename_i hl
      cases t1 with
      | lst a1 n1 l1 =>
        cases t2 with
        | lst a2 n2 l2 => exact op_cat pins s σ H _ _ v u _ I rx ry ⟨_, _, _, _, rfl, rfl, a1, a2, by rw [l1.length, l2.length]; exact hl, fun p hp => gr_newL hr hp (l1.append l2)⟩
    · cases hp
  · split at hp
    · cases hp
      rename_i hl
      cases t1 with
      | tup a1 l1 =>
        cases t2 with
        | tup a2 l2 =>
          refine op_catN pins s σ H _ _ v u _ I rx ry ⟨_, _, _, _, rfl, rfl, hK ▸ a1.sq, hK ▸ a2.sq, by rw [l1.length, l2.length]; exact hl, fun e => ?_, fun _ e => ?_, fun _ _ p o hp ho => gr_newT hr hp ho (l1.append l2)⟩
          · subst e
            cases l1
            exact gr_same (.tup a2 l2)
          · subst e
            cases l2
            rw [List.append_nil]
            exact gr_same (.tup a1 l1)
    · cases hp
  · cases hp
def subP : P2 := fun _ x y => match x, y with
  | .int i, .int j => some (.int (i - j))
  | _, _ => none
theorem o_sub : Op2 X (binaryOp .Sub) subP := Op2.of op_sub fun w h H x y d1 d2 d hK hm hr t1 t2 hp => by
  unfold subP at hp
  split at hp
  · cases hp
    cases t1
    cases t2
    exact ⟨_, _, rfl, rfl, gr_same (.int _)⟩
  · cases hp
instance (i j : Int) : Decidable (CMul i j) := by unfold CMul; infer_instance
instance (i j : Int) : Decidable (CDiv i j) := by unfold CDiv; infer_instance
instance (i j : Int) : Decidable (CPow i j) := by unfold CPow; infer_instance
theorem dtL_rep {w : Wd} {H : Hp} {vs : List V} {ds : List D} (h : DtL w H vs ds) : ∀ k : Nat, DtL w H (List.replicate k vs).flatten (List.replicate k ds).flatten
  | 0 => .nil
  | k + 1 => by
    rw [List.replicate_succ, List.replicate_succ, List.flatten_cons, List.flatten_cons]
    exact h.append (dtL_rep h k)
def repS (x : Str) (n : Nat) : Str := ⟨(List.replicate n x.cps).foldl (· ++ ·) #[]⟩
def mulP : P2 := fun _ x y => match x, y with
  | .int i, .int j => if CMul i j then some (.int (i * j)) else none
  | .lst xs, .int k => if -(2 ^ 63) ≤ k ∧ k < 2 ^ 63 ∧ xs.length * k.toNat ≤ sizeLine then some (.lst (List.replicate k.toNat xs).flatten) else none
  | .str x, .int n => if 1 < n ∧ n ≤ 1000 ∧ 0 < x.length ∧ x.length ≤ 1000 ∧ (repS x n.toNat).length ≤ sizeLine then some (.str (repS x n.toNat)) else none
  | _, _ => none
theorem o_mul : Op2 X (binaryOp .Mult) mulP := by
  intro pins s σ H w h x y v u d1 d2 d I rx ry hK hm hr t1 t2 hp
  unfold mulP at hp
  split at hp
  · split at hp
    · cases hp
      cases t1
      cases t2
      rename_i hc
      exact op_mul pins s σ H _ _ v u _ I rx ry ⟨_, _, rfl, rfl, hc, gr_same (.int _)⟩
    · cases hp
  · split at hp
    · cases hp
      rename_i hc
      cases t1 with
      | lst a1 n1 l1 =>
        cases t2
        exact op_rep pins s σ H _ _ v u _ I rx ry ⟨_, _, _, rfl, rfl, a1, hc.1, hc.2.1, by rw [l1.length]; exact hc.2.2, fun p hp => gr_newL hr hp (dtL_rep l1 _)⟩
    · cases hp
  · split at hp
    · cases hp
      rename_i x n hc
      obtain ⟨h1, h2, h3, h4, hz⟩ := hc
      cases t1
      cases t2
      obtain ⟨t, rfl⟩ := rx
      obtain ⟨t', rfl⟩ := ry
      refine PySem.P.mul_str (by rw [decide_eq_false (by omega), decide_eq_false (by omega)]; rfl) (fun _ _ => ?_) (fun _ _ => ?_) ?_
      · have : (1000 : Int) ≤ (2 ^ 63 - 1) / n := (Int.le_ediv_iff_mul_le (by omega)).mpr (by omega)
        omega
      · have h5 : x.length * n.toNat ≤ 1000 * 1000 := Nat.mul_le_mul h4 (by omega)
        have h6 := sizeLine_eq
        exact decide_eq_false (by omega)
      · have n1 : (n == 1 || x.length == 0) = false := by
          rw [Bool.or_eq_false_iff]
          exact ⟨beq_eq_false_iff_ne.mpr (by omega), beq_eq_false_iff_ne.mpr (by omega)⟩
        rw [if_neg (by omega), if_neg (by rw [n1]; decide)]
        exact ⟨hz, .str _, H, I.tok _, ⟨_, rfl⟩, gr_same (.str _)⟩
    · cases hp
  · cases hp
def modP : P2 := fun _ x y => match x, y with
  | .int i, .int j => if 0 < j then some (.int (i % j)) else none
  | _, _ => none
theorem o_mod : Op2 X (binaryOp .Mod) modP := Op2.of op_mod fun w h H x y d1 d2 d hK hm hr t1 t2 hp => by
  unfold modP at hp
  split at hp
  · split at hp
    · cases hp
      cases t1
      cases t2
      rename_i hc
      exact ⟨_, _, rfl, rfl, hc, gr_same (.int _)⟩
    · cases hp
  · cases hp
def fdivP : P2 := fun _ x y => match x, y with
  | .int i, .int j => if CDiv i j then some (.int (i / j)) else none
  | _, _ => none
theorem o_fdiv : Op2 X (binaryOp .FloorDiv) fdivP := Op2.of op_fdiv fun w h H x y d1 d2 d hK hm hr t1 t2 hp => by
  unfold fdivP at hp
  split at hp
  · split at hp
    · cases hp
      cases t1
      cases t2
      rename_i hc
      exact ⟨_, _, rfl, rfl, hc, gr_same (.int _)⟩
    · cases hp
  · cases hp
def powP : P2 := fun _ x y => match x, y with
  | .int i, .int j => if CPow i j then some (.int (i ^ j.toNat)) else none
  | _, _ => none
theorem o_pow : Op2 X (binaryOp .Pow) powP := Op2.of op_pow fun w h H x y d1 d2 d hK hm hr t1 t2 hp => by
  unfold powP at hp
  split at hp
  · split at hp
    · cases hp
      cases t1
      cases t2
      rename_i hc
      exact ⟨_, _, rfl, rfl, hc, gr_same (.int _)⟩
    · cases hp
  · cases hp
def negP : P1 := fun _ x => match x with
  | .int i => some (.int (-i))
  | _ => none
theorem o_neg : Op1 X (unaryOp .USub) negP := by
  intro pins s σ H w h x v d1 d I rx hK hm hr t1 hp
  unfold negP at hp
  split at hp
  · cases hp
    cases t1
    exact un_neg pins s σ H _ v _ I rx ⟨_, rfl, gr_same (.int _)⟩
  · cases hp
/-! ### < <= > >= -/
def ltP : P2 := fun _ x y => match x, y with
  | .int i, .int j => some (.bl (decide (i < j)))
  | .str x, .str y => some (.bl (decide (x.cps.toList < y.cps.toList)))
  | _, _ => none
def leP : P2 := fun _ x y => match x, y with
  | .int i, .int j => some (.bl (decide (i ≤ j)))
  | .str x, .str y => some (.bl (!decide (y.cps.toList < x.cps.toList)))
  | _, _ => none
def gtP : P2 := fun _ x y => match x, y with
  | .int i, .int j => some (.bl (decide (j < i)))
  | .str x, .str y => some (.bl (decide (y.cps.toList < x.cps.toList)))
  | _, _ => none
def geP : P2 := fun _ x y => match x, y with
  | .int i, .int j => some (.bl (decide (j ≤ i)))
  | .str x, .str y => some (.bl (!decide (x.cps.toList < y.cps.toList)))
  | _, _ => none
theorem o_lt : Op2 X (compareOp .Lt) ltP := by
  intro pins s σ H w h x y v u d1 d2 d I rx ry hK hm hr t1 t2 hp
  unfold ltP at hp
  split at hp
  · cases hp
    cases t1
    cases t2
    exact op_lt pins s σ H _ _ v u _ I rx ry ⟨_, _, rfl, rfl, gr_same (.bl _)⟩
  · cases hp
    cases t1
    cases t2
    exact op_lt_str pins s σ H _ _ v u _ I rx ry ⟨_, _, rfl, rfl, gr_same (.bl _)⟩
  · cases hp
theorem o_le : Op2 X (compareOp .LtE) leP := by
  intro pins s σ H w h x y v u d1 d2 d I rx ry hK hm hr t1 t2 hp
  unfold leP at hp
  split at hp
  · cases hp
    cases t1
    cases t2
    exact op_le pins s σ H _ _ v u _ I rx ry ⟨_, _, rfl, rfl, gr_same (.bl _)⟩
  · cases hp
    cases t1
    cases t2
    exact op_le_str pins s σ H _ _ v u _ I rx ry ⟨_, _, rfl, rfl, gr_same (.bl _)⟩
  · cases hp
theorem o_gt : Op2 X (compareOp .Gt) gtP := by
  intro pins s σ H w h x y v u d1 d2 d I rx ry hK hm hr t1 t2 hp
  unfold gtP at hp
  split at hp
  · cases hp
    cases t1
    cases t2
    exact op_gt pins s σ H _ _ v u _ I rx ry ⟨_, _, rfl, rfl, gr_same (.bl _)⟩
  · cases hp
    cases t1
    cases t2
    exact op_gt_str pins s σ H _ _ v u _ I rx ry ⟨_, _, rfl, rfl, gr_same (.bl _)⟩
  · cases hp
theorem o_ge : Op2 X (compareOp .GtE) geP := by
  intro pins s σ H w h x y v u d1 d2 d I rx ry hK hm hr t1 t2 hp
  unfold geP at hp
  split at hp
  · cases hp
    cases t1
    cases t2
    exact op_ge pins s σ H _ _ v u _ I rx ry ⟨_, _, rfl, rfl, gr_same (.bl _)⟩
  · cases hp
    cases t1
    cases t2
    exact op_ge_str pins s σ H _ _ v u _ I rx ry ⟨_, _, rfl, rfl, gr_same (.bl _)⟩
  · cases hp
/-! ### is None -/
def isNon : D → Bool
  | .non => true
  | _ => false
def isP : P2 := fun _ x y => match y with
  | .non => some (.bl (isNon x))
  | _ => none
def isNotP : P2 := fun _ x y => match y with
  | .non => some (.bl (!isNon x))
  | _ => none
theorem isNon_dt {w : Wd} {H : Hp} {v : V} {d : D} (t : Dt w H v d) : decide (v = .non) = isNon d := by
  cases t <;> simp [isNon]
theorem o_is : Op2 X (compareOp .Is) isP := Op2.of op_isN fun w h H x y d1 d2 d hK hm hr t1 t2 hp => by
  unfold isP at hp
  split at hp
  · cases hp
    cases t2
    exact ⟨rfl, by rw [isNon_dt t1]; exact gr_same (.bl _)⟩
  · cases hp
theorem o_isNot : Op2 X (compareOp .IsNot) isNotP := Op2.of op_notN fun w h H x y d1 d2 d hK hm hr t1 t2 hp => by
  unfold isNotP at hp
  split at hp
  · cases hp
    cases t2
    exact ⟨rfl, by rw [isNon_dt t1]; exact gr_same (.bl _)⟩
  · cases hp
/-! ### subscripts -/
theorem dtL_at {w : Wd} {H : Hp} {vs : List V} {ds : List D} {i : Int} {d : D} (h : DtL w H vs ds) (hd : atI ds i = some d) : ∃ v, atI vs i = some v ∧ Dt w H v d := by
  unfold atI at hd ⊢
  rw [h.length]
  cases e : ixN ds.length i with
  | none =>
    rw [e] at hd
    cases hd
  | some k =>
    rw [e] at hd
    exact h.get (i := k) hd
def ixP : P2 := fun h x y => match x, y with
  | .lst ds, .int i => atI ds i
  | .fz ds, .int i => atI ds i
  | .tup ds, .int i => atI ds i
  | .loc l, .int i => match h[l]? with
    | some (.lst ds) => atI ds i
    | _ => none
  | .str x, .int i => if x.length ≤ sizeLine then (atI x.cps.toList i).map fun c => .str ⟨#[c]⟩ else none
  | _, _ => none
theorem o_ix : Ix2 X ixP := ⟨_, ix_seq, fun w h H x y d1 d2 d Q hK hm hr t1 t2 hp q => by
  unfold ixP at hp
  split at hp
  · cases t1 with
    | lst a1 n1 l1 =>
      cases t2
      obtain ⟨v, hv, tv⟩ := dtL_at l1 hp
      exact .inl ⟨_, _, _, v, rfl, rfl, SqL.of a1, hv, q _ _ (gr_same tv)⟩
  · cases t1 with
    | fz a1 l1 =>
      cases t2
      obtain ⟨v, hv, tv⟩ := dtL_at l1 hp
      exact .inl ⟨_, _, _, v, rfl, rfl, hK ▸ a1.sq, hv, q _ _ (gr_same tv)⟩
  · cases t1 with
    | tup a1 l1 =>
      cases t2
      obtain ⟨v, hv, tv⟩ := dtL_at l1 hp
      exact .inr (.inl ⟨_, _, _, v, rfl, rfl, hK ▸ a1.sq, hv, q _ _ (gr_same tv)⟩)
  · split at hp
    · rename_i e
      cases t1 with
      | loc hl =>
        cases t2
        obtain ⟨xs, e1, l1⟩ := hr.at_ _ _ _ hl e
        obtain ⟨v, hv, tv⟩ := dtL_at l1 hp
        exact .inl ⟨_, _, _, v, rfl, rfl, SqL.of e1, hv, q _ _ (gr_same tv)⟩
    · cases hp
  · split at hp
    · rename_i hl
      obtain ⟨c, hc, rfl⟩ := Option.map_eq_some_iff.mp hp
      cases t1
      cases t2
      exact .inr (.inr ⟨_, _, c, rfl, rfl, hl, hc, q _ _ (gr_same (.str _))⟩)
    · cases hp
  · cases hp⟩
/-! ### len, list, tuple -/
def lenP : Pn := fun h xs => match xs with
  | [x] => match lk h x with
    | .lst ds => some (.int ds.length)
    | .fz ds => some (.int ds.length)
    | .tup ds => some (.int ds.length)
    | .str x => if x.length ≤ sizeLine then some (.int x.length) else none
    | _ => none
  | _ => none
theorem o_len : OpN X (fun us => call (.builtin "len") us) lenP := by
  intro pins s σ H w h xs us ds d I rx hK hm hr t hp
  unfold lenP at hp
  split at hp
  · cases t with
    | cons t tr =>
      cases tr
      have t' := lk_dt hr t
      split at hp
      · cases hp
        rename_i e
        rw [e] at t'
        cases t' with
        | lst a1 n1 l1 => exact call_len_seq pins s σ H _ us _ I rx ⟨_, _, rfl, .inl (SqL.of a1), by rw [l1.length]; exact gr_same (.int _)⟩
      · cases hp
        rename_i e
        rw [e] at t'
        cases t' with
        | fz a1 l1 => exact call_len_seq pins s σ H _ us _ I rx ⟨_, _, rfl, .inl (hK ▸ a1.sq), by rw [l1.length]; exact gr_same (.int _)⟩
      · cases hp
        rename_i e
        rw [e] at t'
        cases t' with
        | tup a1 l1 => exact call_len_seq pins s σ H _ us _ I rx ⟨_, _, rfl, .inr (hK ▸ a1.sq), by rw [l1.length]; exact gr_same (.int _)⟩
      · split at hp
        · cases hp
          rename_i e hl
          rw [e] at t'
          cases t'
          exact call_len_str pins s σ H _ us _ I rx ⟨_, rfl, hl, gr_same (.int _)⟩
        · cases hp
      · cases hp
  · cases hp
def tupP1 : Pn := fun _ xs => match xs with
  | [.lst ds] => some (.tup ds)
  | [.fz ds] => some (.tup ds)
  | [.tup ds] => some (.tup ds)
  | _ => none
theorem o_tuple : OpN X (fun us => call (.type "tuple") us) tupP1 := OpN.of call_tupN fun w h H xs ds d hK hm hr t hp => by
  unfold tupP1 at hp
  split at hp
  · cases hp
    cases t with
    | cons t tr =>
      cases tr
      cases t with
      | lst a1 n1 l1 => exact ⟨_, _, rfl, .inl ⟨SqL.of a1, fun l o hl ho => gr_newT hr hl ho l1⟩⟩
  · cases hp
    cases t with
    | cons t tr =>
      cases tr
      cases t with
      | fz a1 l1 => exact ⟨_, _, rfl, .inl ⟨hK ▸ a1.sq, fun l o hl ho => gr_newT hr hl ho l1⟩⟩
  · cases hp
    cases t with
    | cons t tr =>
      cases tr
      cases t with
      | tup a1 l1 => exact ⟨_, _, rfl, .inr ⟨hK ▸ a1.sq, gr_same (.tup a1 l1)⟩⟩
  · cases hp
end
end WR
set_option Elab.async false
set_option linter.all false
set_option autoImplicit false
set_option maxRecDepth 100000
set_option maxHeartbeats 4000000
namespace WR
open PySem PySem.Spec PyProof.Rows L2
section
variable {X : Cx}
/-! ### repr -/
def reprP : Pn := fun h xs => match xs with
  | [x] => match D.pd (lk h x) with
    | some p => if p.showable = true ∧ p.shown.length ≤ sizeLine ∧ p.depth ≤ 100 then some (.str p.shown) else none
    | none => none
  | _ => none
theorem o_repr (hg : X.A.guards = some []) (hu : X.A.units + 200 < cLine) : OpN X (fun us => call (.builtin "repr") us) reprP := by
  intro pins s σ H w h xs us ds d I rx hK hm hr t hp
  unfold reprP at hp
  split at hp
  · split at hp
    · rename_i p e
      split at hp
      · rename_i hc
        obtain ⟨sh, sz, dp⟩ := hc
        cases hp
        cases t with
        | cons t tr =>
          cases tr
          obtain ⟨u, rfl, ru⟩ := vals1 rx
          obtain ⟨as, hrd, ht⟩ := Dt.reads I (w := w.rd) hK (lk_dt hr t) e ru
          have rn : WT.RdN s.heap u p := WT.RdN.of hrd ht
          cases hrd with
          | none =>
            refine PySem.P.repr_of_none ⟨.str _, H, I.tok _, ⟨_, rfl⟩, ?_⟩
            rw [PyData.shown_none]
            exact gr_same (.str _)
          | bool b =>
            refine PySem.P.repr_of_bool ⟨.str _, H, I.tok _, ⟨_, rfl⟩, ?_⟩
            rw [PyData.shown_bool]
            exact gr_same (.str _)
          | int i t' =>
            refine PySem.P.repr_of_int (by simpa [PyData.showable] using sh) ⟨.str _, H, I.tok _, ⟨_, rfl⟩, ?_⟩
            rw [PyData.shown_int]
            exact gr_same (.str _)
          | str x t' =>
            rw [PyData.shown_str] at sz
            refine PySem.P.repr_of_str ⟨.str _, H, I.tok _, ⟨_, rfl⟩, ?_⟩ sz
            rw [PyData.shown_str]
            exact gr_same (.str _)
          | list h1 h2 h3 h4 => exact WT.repr_N rn sh hg (by omega) sz (fun h' u tk hk => ⟨.str _, H, I.kept hk, ⟨_, rfl⟩, gr_same (.str _)⟩)
          | tuple h1 h2 h3 h4 => exact WT.repr_N rn sh hg (by omega) sz (fun h' u tk hk => ⟨.str _, H, I.kept hk, ⟨_, rfl⟩, gr_same (.str _)⟩)
          | dict h1 h2 h3 h4 h5 => exact WT.repr_N rn sh hg (by omega) sz (fun h' u tk hk => ⟨.str _, H, I.kept hk, ⟨_, rfl⟩, gr_same (.str _)⟩)
      · cases hp
    · cases hp
  · cases hp
/-! ### all, any -/
def blsOf : List D → Option (List Bool)
  | [] => some []
  | .bl b :: ds => (blsOf ds).map (b :: ·)
  | _ => none
theorem blsOf_some {w : Wd} {H : Hp} : ∀ {ds : List D} {vs : List V} {bs : List Bool}, blsOf ds = some bs → DtL w H vs ds → vs = bs.map V.bl
  | [], _, _, h, t => by
    cases t
    cases h
    rfl
  | d :: ds, _, _, h, t => by
    cases t with
    | cons t r =>
      cases t with
      | bl b =>
        obtain ⟨bs, hb, rfl⟩ := Option.map_eq_some_iff.mp (show (blsOf ds).map (b :: ·) = some _ from h)
        rw [blsOf_some hb r]
        rfl
      | _ => cases h
def allP : Pn := fun _ xs => match xs with
  | [.lst ds] => (blsOf ds).map fun bs => .bl (bs.all id)
  | _ => none
def anyP : Pn := fun _ xs => match xs with
  | [.lst ds] => (blsOf ds).map fun bs => .bl (bs.any id)
  | _ => none
theorem o_all (hc : X.calm = true) : OpN X (fun us => call (.builtin "all") us) allP := OpN.of (cr_all hc) fun w h H xs ds d hK hm hr t hp => by
  unfold allP at hp
  split at hp
  · obtain ⟨bs, hb, rfl⟩ := Option.map_eq_some_iff.mp hp
    cases t with
    | cons t tr =>
      cases tr
      cases t with
      | lst a1 n1 l1 =>
        rw [blsOf_some hb l1] at a1
        exact ⟨_, bs, rfl, SqL.of a1, gr_same (.bl _)⟩
  · cases hp
theorem o_any (hc : X.calm = true) : OpN X (fun us => call (.builtin "any") us) anyP := OpN.of (cr_any hc) fun w h H xs ds d hK hm hr t hp => by
  unfold anyP at hp
  split at hp
  · obtain ⟨bs, hb, rfl⟩ := Option.map_eq_some_iff.mp hp
    cases t with
    | cons t tr =>
      cases tr
      cases t with
      | lst a1 n1 l1 =>
        rw [blsOf_some hb l1] at a1
        exact ⟨_, bs, rfl, SqL.of a1, gr_same (.bl _)⟩
  · cases hp
/-! ### in -/
def inT (x y : D) : Option Bool := match x, y with
  | .str i, .str j => if i.cps.size = 1 then some (decide (i.cps[0]! ∈ j.cps.toList)) else none
  | x, y => match D.pd x, D.pd y with
    | some p, some (.list qs) => if shp p = true ∧ shp (.list qs) = true then some (qs.any fun z => PyData.eqv z p) else none
    | some p, some (.tuple qs) => if shp p = true ∧ shp (.tuple qs) = true then some (qs.any fun z => PyData.eqv z p) else none
    | _, _ => none
def inP : P2 := fun h x y => (inT (lk h x) (lk h y)).map .bl
def notInP : P2 := fun h x y => (inT (lk h x) (lk h y)).map fun b => .bl (!b)
theorem sign_of {i : Str} (h : i.cps.size = 1) : i = ⟨#[i.cps[0]!]⟩ := by
  obtain ⟨⟨l⟩⟩ := i
  match l, h with
  | [c], _ => rfl
theorem o_in (hu : X.A.units + 200 < cLine) : Op2 X (compareOp .In) inP := by
  intro pins s σ H w h x y v u d1 d2 d I rx ry hK hm hr t1 t2 hp
  obtain ⟨b, hb, rfl⟩ := Option.map_eq_some_iff.mp hp
  have q1 := lk_dt hr t1
  have q2 := lk_dt hr t2
  unfold inT at hb
  split at hb
  · rename_i i j e1 e2
    split at hb
    · rename_i hs
      cases hb
      rw [e1] at q1
      rw [e2] at q2
      cases q1
      cases q2
      refine op_in_sign pins s σ H _ _ v u _ I rx ry ⟨i.cps[0]!, j, ?_, rfl, gr_same (.bl _)⟩
      exact congrArg V.str (sign_of hs)
    · cases hb
  · split at hb
    · rename_i p qs e1 e2
      split at hb
      · rename_i hs
        cases hb
        obtain ⟨as, r1, _⟩ := Dt.reads I (w := w.rd) hK q1 e1 rx
        obtain ⟨bs, r2, _⟩ := Dt.reads I (w := w.rd) hK q2 e2 ry
        exact SeqAt.in_list_data r2 r1 (shp_list hs.2) (shp_plain hs.1) (room_in2 hs.1 hu) ⟨.bl _, H, I, rfl, gr_same (.bl _)⟩
      · cases hb
    · rename_i p qs e1 e2
      split at hb
      · rename_i hs
        cases hb
        obtain ⟨as, r1, _⟩ := Dt.reads I (w := w.rd) hK q1 e1 rx
        obtain ⟨bs, r2, _⟩ := Dt.reads I (w := w.rd) hK q2 e2 ry
        exact SeqAt.in_tuple_data r2 r1 (shp_tuple hs.2) (shp_plain hs.1) (room_in2 hs.1 hu) ⟨.bl _, H, I, rfl, gr_same (.bl _)⟩
      · cases hb
    · cases hb
theorem o_notIn (hu : X.A.units + 200 < cLine) : Op2 X (compareOp .NotIn) notInP := by
  intro pins s σ H w h x y v u d1 d2 d I rx ry hK hm hr t1 t2 hp
  obtain ⟨b, hb, rfl⟩ := Option.map_eq_some_iff.mp hp
  have q1 := lk_dt hr t1
  have q2 := lk_dt hr t2
  unfold inT at hb
  split at hb
  · rename_i i j e1 e2
    split at hb
    · rename_i hs
      cases hb
      rw [e1] at q1
      rw [e2] at q2
      cases q1
      cases q2
      refine op_notIn_sign pins s σ H _ _ v u _ I rx ry ⟨i.cps[0]!, j, ?_, rfl, gr_same (.bl _)⟩
      exact congrArg V.str (sign_of hs)
    · cases hb
  · split at hb
    · rename_i p qs e1 e2
      split at hb
      · rename_i hs
        cases hb
        obtain ⟨as, r1, _⟩ := Dt.reads I (w := w.rd) hK q1 e1 rx
        obtain ⟨bs, r2, _⟩ := Dt.reads I (w := w.rd) hK q2 e2 ry
        exact SeqAt.notIn_list_data r2 r1 (shp_list hs.2) (shp_plain hs.1) (room_in2 hs.1 hu) ⟨.bl _, H, I, rfl, gr_same (.bl _)⟩
      · cases hb
    · rename_i p qs e1 e2
      split at hb
      · rename_i hs
        cases hb
        obtain ⟨as, r1, _⟩ := Dt.reads I (w := w.rd) hK q1 e1 rx
        obtain ⟨bs, r2, _⟩ := Dt.reads I (w := w.rd) hK q2 e2 ry
        exact SeqAt.notIn_tuple_data r2 r1 (shp_tuple hs.2) (shp_plain hs.1) (room_in2 hs.1 hu) ⟨.bl _, H, I, rfl, gr_same (.bl _)⟩
      · cases hb
    · cases hb
/-! ### max, min of two -/
def max2P : Pn := fun _ xs => match xs with
  | [.int i, .int j] => some (.int (if j > i then j else i))
  | _ => none
def min2P : Pn := fun _ xs => match xs with
  | [.int i, .int j] => some (.int (if j < i then j else i))
  | _ => none
theorem o_max2 (hc : X.calm = true) : OpN X (fun us => call (.builtin "max") us) max2P := OpN.of (call_max2 hc) fun w h H xs ds d hK hm hr t hp => by
  unfold max2P at hp
  split at hp
  · cases hp
    cases t with
    | cons t tr =>
      cases t
      cases tr with
      | cons t tr =>
        cases t
        cases tr
        exact ⟨_, _, rfl, gr_same (.int _)⟩
  · cases hp
theorem o_min2 (hc : X.calm = true) : OpN X (fun us => call (.builtin "min") us) min2P := OpN.of (call_min2 hc) fun w h H xs ds d hK hm hr t hp => by
  unfold min2P at hp
  split at hp
  · cases hp
    cases t with
    | cons t tr =>
      cases t
      cases tr with
      | cons t tr =>
        cases t
        cases tr
        exact ⟨_, _, rfl, gr_same (.int _)⟩
  · cases hp
/-! ### isinstance -/
/-- the type of a datum: a built-in one, a class of the module -/
def tyD (h : IH) : D → Option (String ⊕ Str)
  | .non => some (.inl "NoneType")
  | .bl _ => some (.inl "bool")
  | .int _ => some (.inl "int")
  | .str _ => some (.inl "str")
  | .tup _ => some (.inl "tuple")
  | .lst _ => some (.inl "list")
  | .fz _ => some (.inl "list")
  | .dct _ => some (.inl "dict")
  | .obj c _ => some (.inr c)
  | .loc l => match h[l]? with
    | some (.lst _) => some (.inl "list")
    | some (.dct _) => some (.inl "dict")
    | some (.obj c _) => some (.inr c)
    | none => none
  | _ => none
/-- what a class of the module is known to be: its instances' type may be asked -/
structure ClT (K : PySem.W.Frag) (C : Addr) : Prop where
  cl : Cls K C
  ha : PySem.W.findIn K (.ref C) "__class__" = some (some (.builtin "object.__class__"))
  hn : PySem.W.specialIn K (.builtin "object.__class__") "__get__" = some (some (.builtin "getset_descriptor.__get__"))
  htk : PySem.W.takesIn K (.builtin "object.__class__") = some true
  hm : PySem.W.mroIn K C (.type "object") = some true
def TvOk (cs : List Str) (mg : Str → Option Value) : (String ⊕ Str) → Value → Prop
  | .inl n, tv => tv = .type n
  | .inr c, tv => c ∈ cs ∧ mg c = some tv
def UvOk (mg : Str → Option Value) : (String ⊕ Str) → Value → Prop
  | .inl n, uv => uv = .type n
  | .inr c, uv => mg c = some uv
/-- a table of what isinstance answers: (type, class) -/
def KitOk (K : PySem.W.Frag) (mg : Str → Option Value) (cs : List Str) (tb : (String ⊕ Str) → (String ⊕ Str) → Option Bool) : Prop :=
  (∀ c ∈ cs, ∀ C, mg c = some (.ref C) → ClT K C) ∧ ∀ t u b, tb t u = some b → ∀ tv uv, TvOk cs mg t tv → UvOk mg u uv → PySem.W.kitOne K tv uv = some b
def isiP (tb : (String ⊕ Str) → (String ⊕ Str) → Option Bool) : Pn := fun h xs => match xs with
  | [x, .ty n] => match tyD h x with
    | some t => (tb t (.inl n)).map .bl
    | none => none
  | [x, .glo c] => match tyD h x with
    | some t => (tb t (.inr c)).map .bl
    | none => none
  | _ => none
theorem tyD_some {w : Wd} {h : IH} {H : Hp} {v : V} {d : D} {t : String ⊕ Str} {cs : List Str} (hr : HR w h H) (td : Dt w H v d) (ht : tyD h d = some t) (hcl : ∀ c ∈ cs, ∀ C, w.mg c = some (.ref C) → ClT w.K C) (hin : ∀ c, t = .inr c → c ∈ cs) :
    ∃ tv, TyX w.K H v tv ∧ TvOk cs w.mg t tv := by
  cases td with
  | non => cases ht; exact ⟨_, .base .non, rfl⟩
  | bl b => cases ht; exact ⟨_, .base (.bl b), rfl⟩
  | int i => cases ht; exact ⟨_, .base (.int i), rfl⟩
  | str x => cases ht; exact ⟨_, .base (.str x), rfl⟩
  | lst h1 n1 l1 => cases ht; exact ⟨_, .base (.lst h1), rfl⟩
  | fz h1 l1 =>
    cases ht
    rcases h1 with ⟨h1 | ⟨o, h1⟩, _⟩ | ⟨o, its, n, h1, h2, _⟩
    · exact ⟨_, .base (.lst h1), rfl⟩
    · exact ⟨_, .base (.frz h1), rfl⟩
    · exact ⟨_, .kList h1 h2, rfl⟩
  | tup h1 l1 =>
    cases ht
    rcases h1 with ⟨⟨o, h1, _⟩, _⟩ | ⟨o, its, n, h1, h2, _⟩
    · exact ⟨_, .fTuple h1, rfl⟩
    · exact ⟨_, .kTuple h1 h2, rfl⟩
  | pr h1 n1 l1 => cases ht
  | dct h1 n1 l1 => cases ht; exact ⟨_, .base (.dK h1), rfl⟩
  | @obj a C dx c xs ds hg h1 n1 l1 =>
    cases ht
    have hc := hin _ rfl
    have T := hcl _ hc _ hg
    exact ⟨_, .base (.ins h1 T.cl T.ha T.hn T.htk T.hm), hc, hg⟩
  | @loc a l hl =>
    unfold tyD at ht
    dsimp only at ht
    split at ht
    · rename_i e
      cases ht
      obtain ⟨xs, e1, _⟩ := hr.at_ _ _ _ hl e
      exact ⟨_, .base (.lst e1), rfl⟩
    · rename_i e
      cases ht
      obtain ⟨xs, e1, _⟩ := hr.at_ _ _ _ hl e
      exact ⟨_, .base (.dK e1), rfl⟩
    · rename_i e
      cases ht
      obtain ⟨C, dx, xs, hg, e1, _⟩ := hr.at_ _ _ _ hl e
      have hc := hin _ rfl
      have T := hcl _ hc _ hg
      exact ⟨_, .base (.ins e1 T.cl T.ha T.hn T.htk T.hm), hc, hg⟩
    · cases ht
  | ty n => cases ht
  | glo h => cases ht
theorem o_isi {cs : List Str} {tb : (String ⊕ Str) → (String ⊕ Str) → Option Bool} (ok : KitOk X.K X.mg cs tb) (hin : ∀ c u b, tb (.inr c) u = some b → c ∈ cs) : OpN X (fun us => call (.builtin "isinstance") us) (isiP tb) := OpN.of call_isi fun w h H xs ds d hK hm hr t hp => by
  have go : ∀ {v cv : V} {x : D} {ty u : String ⊕ Str} {uv : Value} {b : Bool}, Dt w H v x → tyD h x = some ty → tb ty u = some b → UvOk X.mg u uv → ClsV cv uv → rIsi X.K [v, cv] H (Grow w H (.bl b)) := fun {v cv x ty u uv b} td ht hb hu hc => by
    obtain ⟨tv, h1, h2⟩ := tyD_some (cs := cs) hr td ht (by rw [hm, hK]; exact ok.1) fun c e => hin c u b (e ▸ hb)
    rw [hK] at h1
    rw [hm] at h2
    exact ⟨v, cv, tv, uv, b, rfl, hc, h1, ok.2 _ _ _ hb tv uv h2 hu, gr_same (.bl _)⟩
  unfold isiP at hp
  split at hp
  · split at hp
    · rename_i ty e
      obtain ⟨b, hb, rfl⟩ := Option.map_eq_some_iff.mp hp
      cases t with
      | cons t tr =>
        cases tr with
        | cons t2 tr =>
          cases tr
          cases t2
          exact go t e hb rfl (.ty _)
    · cases hp
  · split at hp
    · rename_i ty e
      obtain ⟨b, hb, rfl⟩ := Option.map_eq_some_iff.mp hp
      cases t with
      | cons t tr =>
        cases tr with
        | cons t2 tr =>
          cases tr
          cases t2 with
          | glo hg => exact go t e hb (show X.mg _ = _ by rw [← hm]; exact hg) (.own _)
    · cases hp
  · cases hp
end
end WR
set_option Elab.async false
set_option linter.all false
set_option autoImplicit false
set_option maxRecDepth 100000
set_option maxHeartbeats 4000000
namespace WR
open PySem PySem.Spec PyProof.Rows L2
section
variable {X : Cx} {B : Bs} {W : WX} {e o a b c : Expr} {es : List Expr} {lo hi : Option Expr} {pos p2 apos cpos : Pos} {f fa fb fc : En → M D} {g ga : En → M (List D)}
/-! ### slices -/
def oInt : D → Option Int
  | .int i => some i
  | _ => none
theorem oInt_some {d : D} {i : Int} (h : oInt d = some i) : d = .int i := by
  unfold oInt at h
  split at h
  · cases h; rfl
  · cases h
def optM (o : Option (En → M D)) : En → M (Option Int) := fun ρ => match o with
  | none => M.pure none
  | some f => (f ρ).bind fun d => (M.of (oInt d)).bind fun i => M.pure (some i)
def tP (X : Cx) (W : WX) (o : Option (En → M D)) : TO := fun σ H Q => ∃ w hd h ρ, Cur X w hd h ρ σ H ∧
  ((optM o ρ) h).wp (fun i h' => ∀ H' w', Step w H w' h' H' → Q i H') (fun c fs h' => ∀ cls dx H' w', Step w H w' h' H' → ExD w' H' cls dx c fs → W cls dx σ H')
abbrev DP (X : Cx) (W : WX) (e : Option Expr) (o : Option (En → M D)) : Prop := PO X e (tP X W o)
theorem PO.of {e : Option Expr} {t t' : TO} (h : PO X e t) (w : ∀ σ H Q, t' σ H Q → t σ H Q) : PO X e t' := ⟨fun pins s σ H Q I q => h.run pins s σ H Q I (w σ H Q q)⟩
theorem dp_none : DP X W none none := PO.of po_none fun σ H Q ⟨w, hd, h, ρ, c, k⟩ => k H w (Step.refl c.hr)
theorem dp_some (hf : DE X W e f) : DP X W (some e) (some f) := PO.of (po_some hf) fun σ H Q ⟨w, hd, h, ρ, c, k⟩ =>
  tE.run c (wp_bind.mp k) (fun d h1 v H1 w1 q s c1 t => by
    obtain ⟨i, hi, q⟩ := wp_of.mp (wp_bind.mp q)
    cases oInt_some hi
    cases t
    exact ⟨i, rfl, q H1 w1 s⟩) fun _ _ _ z => z
abbrev P3 := IH → D → Option Int → Option Int → Option D
def m3 (p : P3) (d : D) (l u : Option Int) : M D := fun h => match p h d l u with
  | some z => .ok z h
  | none => .no
theorem wp_m3 {p : P3} {x : D} {l u : Option Int} {h : IH} {Q : D → IH → Prop} {E : Str → List (Str × D) → IH → Prop} : ((m3 p x l u) h).wp Q E ↔ ∃ d, p h x l u = some d ∧ Q d h := by
  unfold m3
  cases p h x l u with
  | none => exact ⟨fun z => z.elim, fun ⟨_, z, _⟩ => nomatch z⟩
  | some b => exact ⟨fun z => ⟨b, rfl, z⟩, fun ⟨_, z, q⟩ => by cases z; exact q⟩
def eSl (p : P3) (f : En → M D) (lo hi : Option (En → M D)) : En → M D := fun ρ => (f ρ).bind fun d => (optM lo ρ).bind fun l => (optM hi ρ).bind fun u => m3 p d l u
def cutL {α : Type} (xs : List α) (lo hi : Option Int) : List α := (xs.drop (HT.sIx xs.length 0 lo)).take (HT.sIx xs.length xs.length hi - HT.sIx xs.length 0 lo)
def slP : P3 := fun h d l u => match d with
  | .lst ds => some (.lst (cutL ds l u))
  | .fz ds => some (.lst (cutL ds l u))
  | .tup ds => some (.tup (cutL ds l u))
  | .str z => if z.length ≤ sizeLine then some (.str (Txt.slice z l u)) else none
  | _ => none
theorem dt_cut {w : Wd} {H : Hp} {vs : List V} {ds : List D} {l u : Option Int} (t : DtL w H vs ds) : DtL w H (cutV vs l u) (cutL ds l u) := by
  unfold cutV cutL
  rw [t.length]
  exact (t.drop _).take _
theorem cut_whole {α : Type} {xs : List α} {l u : Option Int} (h : HT.sIx xs.length 0 l = 0 ∧ HT.sIx xs.length xs.length u = xs.length) : cutL xs l u = xs := by
  unfold cutL
  rw [h.1, h.2]
  simp
theorem t_part {o : Option (En → M D)} {w : Wd} {hd : Hd} {h : IH} {ρ : En} {σ : L2.St} {H : Hp} {Q : Option Int → Hp → Prop} {A : Option Int → IH → Prop} {B : Str → List (Str × D) → IH → Prop} (c : Cur X w hd h ρ σ H) (k : ((optM o ρ) h).wp A B)
    (hA : ∀ d h' H' w', A d h' → Step w H w' h' H' → Cur X w' hd h' ρ σ H' → Q d H') (hB : ∀ c fs h', B c fs h' → ∀ cls dx H' w', Step w H w' h' H' → ExD w' H' cls dx c fs → W cls dx σ H') : tP X W o σ H Q :=
  ⟨w, hd, h, ρ, c, k.mono (fun d h' q H' w' s => hA d h' H' w' q s (c.step s)) fun c fs h' q => hB c fs h' q⟩
/-- t[lo:hi] of a tuple: a new one, with its object -/
def rSlN (K : PySem.W.Frag) : V → Option Int → Option Int → Hp → VK → Prop := fun x lo hi H Q => ∃ a xs, x = .ref a ∧ SqT K H a xs ∧ (HT.sIx xs.length 0 lo = 0 ∧ HT.sIx xs.length xs.length hi = xs.length → Q (.ref a) H) ∧ (¬ (HT.sIx xs.length 0 lo = 0 ∧ HT.sIx xs.length xs.length hi = xs.length) → ∀ p (o : Obj), H p = none → o.dict = none → Q (.ref p) (upd H p (.frz o (.tup (cutV xs lo hi)))))
theorem sl_tupN : SlR X (rSlN X.K) := by
  intro pins s σ H x v vl vu lo hi sl Q I rx hs pl pu ⟨a, xs, ex, hx, q1, q2⟩
  subst ex
  cases rx
  obtain ⟨its, r, ht, hz⟩ := I.tuple hx
  have hlen : its.toArray.size = xs.length := by rw [List.size_toArray]; exact r.length.symm
  refine ⟨"tuple", _, PyProof.Rows.slot_tuple_getitem.lookup, ht.typeIs, ?_⟩
  by_cases hw : HT.sIx xs.length 0 lo = 0 ∧ HT.sIx xs.length xs.length hi = xs.length
  · exact getItem_tuple_whole ht hs pl pu (by rw [hlen]; exact hw) ⟨.ref a, H, I, rfl, q1 hw⟩
  · refine HT.getItem_tuple_cut ht hs pl pu (by rw [hlen]; exact hw) ?_ (by rw [hlen]; exact hz)
    rw [hlen]
    exact ⟨.ref s.heap.objs.size, _, lay_tup I ((r.drop (HT.sIx xs.length 0 lo)).take (HT.sIx xs.length xs.length hi - HT.sIx xs.length 0 lo)) (Nat.le_trans (cutV_length xs lo hi) hz), rfl, q2 hw _ _ (I.hok.fresh (Nat.le_refl _)) rfl⟩
theorem d_sl {fl fu : Option (En → M D)} (hf : DE X W e f) (hl : DP X W lo fl) (hu : DP X W hi fu) : DE X W (.Subscript e (.Slice lo hi none p2) pos) (eSl slP f fl fu) :=
  PE.of (pe_slice (SlR.or sl_list (SlR.or sl_tupN C8.sl_txt)) hf hl hu) fun σ H Q ⟨w, hd, h, ρ, c, k⟩ => by
    refine tE.run c (wp_bind.mp k) (fun d1 h1 v1 H1 w1 k1 s1 c1 t1 => ?_) fun _ _ _ z => z
    refine t_part c1 (wp_bind.mp k1) (fun l h2 H2 w2 k2 s2 c2 => ?_) fun _ _ _ z cls dx H' w' s => z cls dx H' w' (s1.trans s)
    have s12 := s1.trans s2
    refine t_part c2 (wp_bind.mp k2) (fun u h3 H3 w3 k3 s3 c3 => ?_) fun _ _ _ z cls dx H' w' s => z cls dx H' w' (s12.trans s)
    obtain ⟨z, hp, q⟩ := wp_m3.mp k3
    have s13 := s12.trans s3
    have t3 := (t1.to (s2.to c1.hr)).to (s3.to c2.hr)
    have nw : ∀ {xs : List V} {ds : List D} (p : Addr), H3 p = none → DtL w3 H3 xs ds → ∀ (z : D), z = .lst ds → (∀ v H' w', Step w H w' h3 H' → Dt w' H' v z → Q v H') → Q (.ref p) (upd H3 p (.lst xs)) := fun {xs ds} p hp' t z hz q => q _ _ w3 (s13.trans (Step.grow c3.hr (same_new hp'))) (hz ▸ dt_newL c3.hr hp' t)
    unfold slP at hp
    split at hp
    · cases hp
      cases t3 with
      | @lst a xs ds a1 n1 l1 => exact .inl ⟨a, xs, rfl, SqL.of a1, fun p hp' => nw p hp' (dt_cut l1) _ rfl q⟩
    · cases hp
      cases t3 with
      | @fz a xs ds a1 l1 => exact .inl ⟨a, xs, rfl, c3.K ▸ a1.sq, fun p hp' => nw p hp' (dt_cut l1) _ rfl q⟩
    · cases hp
      cases t3 with
      | @tup a xs ds a1 l1 =>
        refine .inr (.inl ⟨a, xs, rfl, c3.K ▸ a1.sq, fun hw => ?_, fun hw p o hp' ho => q _ _ w3 (s13.trans (Step.grow c3.hr (same_new hp'))) (dt_newT c3.hr hp' ho (dt_cut l1))⟩)
        rw [l1.length] at hw
        refine q _ _ w3 s13 ?_
        rw [cut_whole hw]
        exact .tup a1 l1
    · split at hp
      · cases hp
        rename_i hz
        cases t3
        exact .inr (.inr ⟨_, rfl, hz, q _ _ w3 s13 (.str _)⟩)
      · cases hp
    · cases hp
/-- a list's slice is a new list -/
def slO (f : En → M D) (lo hi : Option (En → M D)) : En → M (List D) := fun ρ => (f ρ).bind fun d => (optM lo ρ).bind fun l => (optM hi ρ).bind fun u => M.of ((lstOf d).map fun ds => cutL ds l u)
theorem do_sl {fl fu : Option (En → M D)} (hf : DE X W e f) (hl : DP X W lo fl) (hu : DP X W hi fu) : DO X W (.Subscript e (.Slice lo hi none p2) pos) (slO f fl fu) :=
  PE.of (pe_slice sl_list hf hl hu) fun σ H Q ⟨w, hd, h, ρ, c, k⟩ => by
    refine tE.run c (wp_bind.mp k) (fun d1 h1 v1 H1 w1 k1 s1 c1 t1 => ?_) fun _ _ _ z => z
    refine t_part c1 (wp_bind.mp k1) (fun l h2 H2 w2 k2 s2 c2 => ?_) fun _ _ _ z cls dx H' w' s => z cls dx H' w' (s1.trans s)
    have s12 := s1.trans s2
    refine t_part c2 (wp_bind.mp k2) (fun u h3 H3 w3 k3 s3 c3 => ?_) fun _ _ _ z cls dx H' w' s => z cls dx H' w' (s12.trans s)
    obtain ⟨z, hp, q⟩ := wp_of.mp k3
    obtain ⟨ds, hds, rfl⟩ := Option.map_eq_some_iff.mp hp
    have s13 := s12.trans s3
    obtain ⟨a, xs, rfl, m, l1⟩ := lstOf_some hds ((t1.to (s2.to c1.hr)).to (s3.to c2.hr))
    exact ⟨a, xs, rfl, c3.K ▸ m.sq, fun p hp' => q p _ _ (w3.plus p) (s13.trans (Step.plus c3.hr hp')) (s13.there hp') (.inr rfl) (c3.hr.nm hp') upd_same ((dt_cut l1).to (To.plus hp'))⟩
/-! ### list(x) -/
def seqOf (h : IH) : D → Option (List D)
  | .lst ds => some ds
  | .fz ds => some ds
  | .tup ds => some ds
  | .loc l => match h[l]? with
    | some (.lst ds) => some ds
    | _ => none
  | _ => none
def lsM (ds : List D) : M (List D) := fun h => match ds with
  | [d] => match seqOf h d with
    | some xs => .ok xs h
    | none => .no
  | _ => .no
def mList (g : En → M (List D)) : En → M (List D) := fun ρ => (g ρ).bind lsM
theorem seqOf_some {w : Wd} {h : IH} {H : Hp} {v : V} {d : D} {ds : List D} (hr : HR w h H) (hd : seqOf h d = some ds) (t : Dt w H v d) : ∃ a xs, v = .ref a ∧ (SqL w.K H a xs ∨ SqT w.K H a xs) ∧ DtL w H xs ds := by
  cases t with
  | lst a1 n1 l1 => cases hd; exact ⟨_, _, rfl, .inl (SqL.of a1), l1⟩
  | fz a1 l1 => cases hd; exact ⟨_, _, rfl, .inl a1.sq, l1⟩
  | tup a1 l1 => cases hd; exact ⟨_, _, rfl, .inr a1.sq, l1⟩
  | @loc a l hl =>
    unfold seqOf at hd
    dsimp only at hd
    split at hd
    · rename_i e
      cases hd
      obtain ⟨xs, e1, l1⟩ := hr.at_ _ _ _ hl e
      exact ⟨_, _, rfl, .inl (SqL.of e1), l1⟩
    · cases hd
  | _ => cases hd
theorem do_list {p : Pos} (ha : DA X W (e :: es) ga) (hm : X.mg "list" = none) (hg : Gl X "list") (he : starEach (e :: es) X.env = (false, eval e X.env) :: starEach es X.env := by rfl) (hpl : (backTo pos (starEach es X.env)).any (·.1) = false := by rfl) : DO X W (.Call (.Name "list" p) (e :: es) [] pos) (mList ga) :=
  PE.of (pe_callTy call_list_of hg hm PyProof.Rows.boot_list ha (by decide) (by decide) he hpl) fun σ H Q ⟨w, hd, h, ρ, c, k⟩ => by
    refine tL.run c (wp_bind.mp k) (fun d1 h1 v1 H1 w1 k1 s1 c1 t1 => ?_) fun _ _ _ z => z
    unfold lsM at k1
    split at k1
    · split at k1
      · rename_i xs e
        cases t1 with
        | cons t tr =>
          cases tr
          obtain ⟨a, xs', rfl, hs, l1⟩ := seqOf_some c1.hr e t
          rw [c1.K] at hs
          exact ⟨a, xs', rfl, hs, fun p hp' => k1 p _ _ (w1.plus p) (s1.trans (Step.plus c1.hr hp')) (s1.there hp') (.inr rfl) (c1.hr.nm hp') upd_same (l1.to (To.plus hp'))⟩
      · exact k1.elim
    · exact k1.elim
/-! ### methods of lists -/
abbrev Pl := List D → List D → Option (D × List D)
def LM (X : Cx) (id : String) (p : Pl) : Prop := ∃ r, MtR X id r ∧ ∀ (w : Wd) (H : Hp) (a : Addr) (xs : List V) (ds : List D) (vs : List V) (es : List D) (d : D) (ds' : List D) (Q : VK), H a = some (.lst xs) → w.Z a → DtL w H xs ds → DtL w H vs es → p ds es = some (d, ds') →
  (∀ v xs', Dt w H v d → DtL w H xs' ds' → Q v (upd H a (.lst xs'))) → r (.ref a) vs H Q
def pAppend : Pl := fun ds es => match es with
  | [d] => if ds.length < sizeLine then some (.non, ds ++ [d]) else none
  | _ => none
theorem lm_append : LM X "list.append" pAppend := ⟨_, mt_append, fun w H a xs ds vs es d ds' Q e z t1 t2 hp q => by
  unfold pAppend at hp
  split at hp
  · split at hp
    · rename_i hl
      cases hp
      cases t2 with
      | cons t tr =>
        cases tr
        exact ⟨a, xs, _, rfl, rfl, e, by rw [t1.length]; exact hl, q _ _ .non (t1.append (.cons t .nil))⟩
    · cases hp
  · cases hp⟩
def pPop : Pl := fun ds es => match es with
  | [] => match ds[ds.length - 1]? with
    | some d => some (d, ds.dropLast)
    | none => none
  | _ => none
theorem DtL.dropLast {w : Wd} {H : Hp} {vs : List V} {ds : List D} (t : DtL w H vs ds) : DtL w H vs.dropLast ds.dropLast := by
  rw [List.dropLast_eq_take, List.dropLast_eq_take, t.length]
  exact t.take _
theorem lm_pop : LM X "list.pop" pPop := ⟨_, mt_pop, fun w H a xs ds vs es d ds' Q e z t1 t2 hp q => by
  unfold pPop at hp
  split at hp
  · split at hp
    · rename_i e1
      cases hp
      cases t2
      obtain ⟨v, hv, tv⟩ := t1.get e1
      exact ⟨a, xs, v, rfl, rfl, e, by rw [t1.length]; exact hv, q _ _ tv t1.dropLast⟩
    · cases hp
  · cases hp⟩
def pPopAt : Pl := fun ds es => match es with
  | [.int i] => if -(2 ^ 63) ≤ i ∧ i < 2 ^ 63 then (match seqIndex? i ds.length with
    | some k => match ds[k]? with
      | some d => some (d, ds.eraseIdx k)
      | none => none
    | none => none) else none
  | _ => none
theorem lm_popAt : LM X "list.pop" pPopAt := ⟨_, mt_popAt, fun w H a xs ds vs es d ds' Q e z t1 t2 hp q => by
  unfold pPopAt at hp
  split at hp
  · rename_i i
    split at hp
    · rename_i hb
      split at hp
      · rename_i k hk
        split at hp
        · rename_i d0 e1
          cases hp
          cases t2 with
          | cons t tr =>
            cases tr
            cases t
            obtain ⟨v, hv, tv⟩ := t1.get e1
            exact ⟨a, xs, i, k, v, rfl, rfl, e, hb.1, hb.2, by rw [t1.length]; exact hk, hv, q _ _ tv (t1.eraseIdx k)⟩
        · cases hp
      · cases hp
    · cases hp
  · cases hp⟩
def pInsert : Pl := fun ds es => match es with
  | [.int i, d] => if ds.length < sizeLine ∧ 0 ≤ i ∧ i < 2 ^ 63 then some (.non, ds.take i.toNat ++ [d] ++ ds.drop i.toNat) else none
  | _ => none
theorem lm_insert : LM X "list.insert" pInsert := ⟨_, mt_insert, fun w H a xs ds vs es d ds' Q e z t1 t2 hp q => by
  unfold pInsert at hp
  split at hp
  · split at hp
    · rename_i hb
      cases hp
      cases t2 with
      | cons t tr =>
        cases t
        cases tr with
        | cons t tr =>
          cases tr
          exact ⟨a, xs, _, _, rfl, rfl, e, by rw [t1.length]; exact hb.1, hb.2.1, hb.2.2, q _ _ .non (((t1.take _).append (.cons t .nil)).append (t1.drop _))⟩
    · cases hp
  · cases hp⟩
def pExtend : Pl := fun ds es => match es with
  | [.lst xs] => if ds.length + xs.length ≤ sizeLine then some (.non, ds ++ xs) else none
  | _ => none
theorem lm_extend : LM X "list.extend" pExtend := ⟨_, mt_extend, fun w H a xs ds vs es d ds' Q e z t1 t2 hp q => by
  unfold pExtend at hp
  split at hp
  · split at hp
    · rename_i hb
      cases hp
      cases t2 with
      | cons t tr =>
        cases tr
        cases t with
        | lst a1 n1 l1 => exact ⟨a, _, xs, _, rfl, rfl, e, a1, by rw [t1.length, l1.length]; exact hb, q _ _ .non (t1.append l1)⟩
    · cases hp
  · cases hp⟩
/-- the heap with one object changed -/
theorem get_inj {l : List Addr} (nd : l.Nodup) {i j : Nat} {a : Addr} (h1 : l[i]? = some a) (h2 : l[j]? = some a) : i = j := by
  obtain ⟨hi, e1⟩ := List.getElem?_eq_some_iff.mp h1
  obtain ⟨hj, e2⟩ := List.getElem?_eq_some_iff.mp h2
  exact (List.getElem_inj nd).mp (e1.trans e2.symm)
theorem HR.put {w : Wd} {h : IH} {H : Hp} {l : Nat} {a : Addr} {u : HO} {o : IO} (r : HR w h H) (hl : w.m[l]? = some a) (t : OR w (upd H a u) a o) : HR w (h.set l o) (upd H a u) := by
  have hz := r.mz a (List.mem_of_getElem? hl)
  refine ⟨by rw [List.length_set]; exact r.len, r.nd, fun b zb => ?_, r.mz, fun k b o' e1 e2 => ?_⟩
  · by_cases e : b = a
    · exact ⟨u, by rw [e, upd_same]⟩
    · obtain ⟨o, q⟩ := r.dom b zb
      exact ⟨o, by rw [upd_ne e]; exact q⟩
  · by_cases e : k = l
    · subst e
      rw [hl] at e1
      cases e1
      rw [List.getElem?_set_self (by rw [← r.len]; exact (List.getElem?_eq_some_iff.mp hl).1)] at e2
      cases e2
      exact t
    · rw [List.getElem?_set_ne (Ne.symm e)] at e2
      exact (r.at_ k b o' e1 e2).to (To.touch hz) (upd_ne fun q => e (get_inj r.nd e1 (q ▸ hl)))
theorem Step.put {w : Wd} {h : IH} {H : Hp} {l : Nat} {a : Addr} {u : HO} {o : IO} (r : HR w h H) (hl : w.m[l]? = some a) (t : OR w (upd H a u) a o) : Step w H w (h.set l o) (upd H a u) :=
  ⟨rfl, rfl, ⟨[], by simp, fun _ z => nomatch z⟩, fun _ z => z, fun _ z => .inl z, fun b o e n => by rw [upd_ne fun q => n (by rw [q]; exact List.mem_of_getElem? hl)]; exact e, r.put hl t⟩
def locM (d : D) : M Nat := fun h => match d with
  | .loc l => match h[l]? with
    | some (.lst _) => .ok l h
    | _ => .no
  | _ => .no
theorem wp_loc {d : D} {h : IH} {Q : Nat → IH → Prop} {E : Str → List (Str × D) → IH → Prop} (k : ((locM d) h).wp Q E) : ∃ l ds, d = .loc l ∧ h[l]? = some (.lst ds) ∧ Q l h := by
  unfold locM at k
  split at k
  · split at k
    · rename_i l _ ds e
      exact ⟨l, ds, rfl, e, k⟩
    · exact k.elim
  · exact k.elim
def lmM (p : Pl) (l : Nat) (es : List D) : M D := fun h => match h[l]? with
  | some (.lst ds) => match p ds es with
    | some (d, ds') => .ok d (h.set l (.lst ds'))
    | none => .no
  | _ => .no
theorem wp_lm {p : Pl} {l : Nat} {es : List D} {h : IH} {Q : D → IH → Prop} {E : Str → List (Str × D) → IH → Prop} (k : ((lmM p l es) h).wp Q E) : ∃ ds d ds', h[l]? = some (.lst ds) ∧ p ds es = some (d, ds') ∧ Q d (h.set l (.lst ds')) := by
  unfold lmM at k
  split at k
  · rename_i ds e
    split at k
    · rename_i d ds' e2
      exact ⟨ds, d, ds', e, e2, k⟩
    · exact k.elim
  · exact k.elim
def eLm (p : Pl) (f : En → M D) (ga : En → M (List D)) : En → M D := fun ρ => (f ρ).bind fun d => (locM d).bind fun l => (ga ρ).bind fun es => lmM p l es
variable {name : Str} {id : String} {p : Pl}
theorem t_lm {r : V → List V → Hp → VK → Prop} (hr : ∀ (w : Wd) (H : Hp) (a : Addr) (xs : List V) (ds : List D) (vs : List V) (es : List D) (d : D) (ds' : List D) (Q : VK), H a = some (.lst xs) → w.Z a → DtL w H xs ds → DtL w H vs es → p ds es = some (d, ds') →
  (∀ v xs', Dt w H v d → DtL w H xs' ds' → Q v (upd H a (.lst xs'))) → r (.ref a) vs H Q) {σ : L2.St} {H : Hp} {Q : VK} (z : tE X W (eLm p f ga) σ H Q) : tBM X.K "list" r (tE X W f) (tL X W ga) σ H Q := by
  obtain ⟨w, hd, h, ρ, c, k⟩ := z
  refine tE.run c (wp_bind.mp k) (fun d1 h1 v1 H1 w1 k1 s1 c1 t1 => ?_) fun _ _ _ z => z
  obtain ⟨l, ds, rfl, hl, k2⟩ := wp_loc (wp_bind.mp k1)
  cases t1 with
  | @loc a _ ha =>
    obtain ⟨xs, e1, _⟩ := c1.hr.at_ _ _ _ ha hl
    refine ⟨.inl ⟨rfl, _, SqL.of e1⟩, tL.run c1 (wp_bind.mp k2) (fun es h2 vs H2 w2 k3 s2 c2 t2 => ?_) fun _ _ _ z cls dx H' w' s => z cls dx H' w' (s1.trans s)⟩
    obtain ⟨ds2, d, ds', hl2, hp, q⟩ := wp_lm k3
    have ha2 : w2.m[l]? = some a := (s2.to c1.hr).m l a ha
    obtain ⟨xs2, e2, t3⟩ := c2.hr.at_ _ _ _ ha2 hl2
    have hz := c2.hr.mz a (List.mem_of_getElem? ha2)
    refine hr w2 H2 a xs2 ds2 vs es d ds' Q e2 hz t3 t2 hp fun v xs' tv tx => ?_
    exact q _ _ w2 ((s1.trans s2).trans (Step.put c2.hr ha2 ⟨xs', upd_same, tx.to (To.touch hz)⟩)) (tv.to (To.touch hz))
/-- o.m(e, ..), o a list that may change -/
theorem d_lm (slot : Slot "list" name id) (hty : typeOf (.builtin id) = pure (.type "method_descriptor")) (hm : LM X id p) (hf : DE X W o f) (ha : DA X W (e :: es) ga) (hbase : attributeBase o name X.env (eval o X.env) = eval o X.env := by rfl)
    (hfew : ((backTo cpos (starEach (e :: es) X.env)).all (fun x => !x.1) && (backToKw cpos (keywordEach [] X.env)).all (fun x => x.1.isSome)
      && decide ((e :: es).length + ([] : List Keyword).length + (if ([] : List Keyword).isEmpty then 0 else 1) < 30)) = true := by rfl)
    (hline : (apos.endLine == cpos.line) = true := by rfl) (hs : starEach (e :: es) X.env = (false, eval e X.env) :: starEach es X.env := by rfl) (hplain : (backTo cpos (starEach es X.env)).any (·.1) = false := by rfl) : DE X W (.Call (.Attribute o name apos) (e :: es) [] cpos) (eLm p f ga) := by
  obtain ⟨r, h1, h2⟩ := hm
  exact PE.of (pe_bm PySem.F.plainAttrs_list slot hty h1 hf ha hbase hfew hline hs hplain) fun σ H Q z => t_lm h2 z
theorem d_lm0 (slot : Slot "list" name id) (hty : typeOf (.builtin id) = pure (.type "method_descriptor")) (hm : LM X id p) (hf : DE X W o f) (hbase : attributeBase o name X.env (eval o X.env) = eval o X.env := by rfl) (hline : (apos.endLine == cpos.line) = true := by rfl) : DE X W (.Call (.Attribute o name apos) [] [] cpos) (eLm p f aNil) := by
  obtain ⟨r, h1, h2⟩ := hm
  refine PE.of (pe_bm0 PySem.F.plainAttrs_list slot hty h1 hf hbase hline) fun σ H Q ⟨w, hd, h, ρ, c, k⟩ => ?_
  refine tE.run c (wp_bind.mp k) (fun d1 h1 v1 H1 w1 k1 s1 c1 t1 => ?_) fun _ _ _ z => z
  obtain ⟨l, ds, rfl, hl, k2⟩ := wp_loc (wp_bind.mp k1)
  cases t1 with
  | @loc a _ ha =>
    obtain ⟨xs, e1, t3⟩ := c1.hr.at_ _ _ _ ha hl
    have k3 : ((lmM p l []) h1).wp _ _ := k2
    obtain ⟨ds2, d, ds', hl2, hp, q⟩ := wp_lm k3
    rw [hl] at hl2
    cases hl2
    have hz := c1.hr.mz a (List.mem_of_getElem? ha)
    refine ⟨.inl ⟨rfl, _, SqL.of e1⟩, h2 w1 H1 a xs ds [] [] d ds' Q e1 hz t3 .nil hp fun v xs' tv tx => ?_⟩
    exact q _ _ w1 (s1.trans (Step.put c1.hr ha ⟨xs', upd_same, tx.to (To.touch hz)⟩)) (tv.to (To.touch hz))
/-- the list in an own slot changed -/
theorem StR.put {w : Wd} {hd : Hd} {h : IH} {ρ : En} {σ : L2.St} {H : Hp} {i : Nat} {a : Addr} {ds ds' : List D} {xs' : List V} (c : StR X B w hd h ρ σ H) (e : ρ[i]? = some (some (.own ds))) (e1 : σ[i]? = some (some (.ref a))) (z : w.Z a) (n : a ∉ w.m) (t : DtL w H xs' ds') :
    To w H w (upd H a (.lst xs')) ∧ StR X B w hd h (ρ.set i (some (.own ds'))) σ (upd H a (.lst xs')) := by
  have hfr := (c.fr i _ a e rfl e1).1
  have hi : i < ρ.length := (List.getElem?_eq_some_iff.mp e).1
  refine ⟨To.touch z, ⟨⟨c.K, c.mg, c.hk, c.hr.touch z n, ?_⟩, ?_, ?_⟩⟩
  · refine ⟨by rw [List.length_set]; exact c.rp.len, fun j s q => ?_, fun j k s t' nn q1 q2 o1 o2 => ?_⟩
    · rcases set_some q with ⟨rfl, rfl, _⟩ | ⟨hj, q⟩
      · exact ⟨.ref a, e1, a, xs', rfl, z, n, upd_same, t.to (To.touch z)⟩
      · obtain ⟨u, h1, h2⟩ := c.rp.at_ j s q
        exact ⟨u, h1, h2.to (To.touch z) fun b o hv ho zb nb hb => ⟨zb, nb, by
          rw [upd_ne fun q2 => c.rp.ap j i s (.own ds) hj q e ho rfl (by rw [h1, e1, hv, q2])]
          exact hb⟩⟩
    · have q1' : ∃ s0, ρ[j]? = some (some s0) ∧ s0.owned = true := by
        rcases set_some q1 with ⟨rfl, _, _⟩ | ⟨_, q⟩
        · exact ⟨_, e, rfl⟩
        · exact ⟨s, q, o1⟩
      have q2' : ∃ s0, ρ[k]? = some (some s0) ∧ s0.owned = true := by
        rcases set_some q2 with ⟨rfl, _, _⟩ | ⟨_, q⟩
        · exact ⟨_, e, rfl⟩
        · exact ⟨t', q, o2⟩
      obtain ⟨s1, a1, b1⟩ := q1'
      obtain ⟨s2, a2, b2⟩ := q2'
      exact c.rp.ap j k s1 s2 nn a1 a2 b1 b2
  · exact ⟨c.bs.K, c.bs.mg, c.bs.m, c.bs.up, c.bs.new, fun b o hb nb => by rw [upd_ne fun q => by rw [q, hfr] at hb; cases hb]; exact c.bs.ext b o hb nb, c.hr.touch z n⟩
  · intro j s b q o e3
    rcases set_some q with ⟨rfl, rfl, _⟩ | ⟨hj, q⟩
    · exact ⟨(c.fr j _ b e rfl e3).1, fun _ _ z => nomatch z⟩
    · exact c.fr j s b q o e3
def sMut (i : Nat) (p : Pl) (ga : En → M (List D)) : MS := fun ρ h => match ownS ρ i with
  | some ds => (ga ρ h).on ρ fun es h' => match p ds es with
    | some (_, ds') => .nx (ρ.set i (some (.own ds'))) h'
    | none => .no
  | none => .no
/-- x.m(e, ..), x a list of the slot's own -/
theorem s_mut (i : Nat) {x : Str} {vpos : Pos} (slot : Slot "list" name id) (hty : typeOf (.builtin id) = pure (.type "method_descriptor")) (hm : LM X id p) (hN : X.N[i]? = some x) (hv : Vis X.env.scope x) (hd1 : (x == ("__debug__" : Str)) = false) (hcd : (x == ("__classdict__" : Str)) = false) (ha : DA X W (e :: es) ga)
    (hbase : attributeBase (.Name x vpos) name X.env (eval (.Name x vpos) X.env) = eval (.Name x vpos) X.env := by rfl)
    (hfew : ((backTo cpos (starEach (e :: es) X.env)).all (fun x => !x.1) && (backToKw cpos (keywordEach [] X.env)).all (fun x => x.1.isSome)
      && decide ((e :: es).length + ([] : List Keyword).length + (if ([] : List Keyword).isEmpty then 0 else 1) < 30)) = true := by rfl)
    (hline : (apos.endLine == cpos.line) = true := by rfl) (hs : starEach (e :: es) X.env = (false, eval e X.env) :: starEach es X.env := by rfl) (hplain : (backTo cpos (starEach es X.env)).any (·.1) = false := by rfl) : DS X B W (.Expr (.Call (.Attribute (.Name x vpos) name apos) (e :: es) [] cpos) pos) (sMut i p ga) := by
  obtain ⟨r, h1, h2⟩ := hm
  refine PS.of (ps_expr (pe_bm PySem.F.plainAttrs_list slot hty h1 (pe_var hN hv hd1 hcd) ha hbase hfew hline hs hplain) rfl) fun E σ H ⟨w, hd, h, ρ, c, k⟩ => ?_
  unfold sMut at k
  cases eo : ownS ρ i with
  | none =>
    rw [eo] at k
    exact k.elim
  | some ds =>
    rw [eo] at k
    have k' := wp_on.mp k
    obtain ⟨v, e1, a, xs, rfl, z, n, e2, t⟩ := c.rp.at_ i _ (ownS_some eo)
    refine ⟨.ref a, e1, .inl ⟨rfl, _, SqL.of e2⟩, tL.run c.toCur k' (fun es h2' vs H2 w2 q s2 c2 t2 => ?_) fun c' fs h' q cls dx H' w' s x => q cls dx σ H' w' (s.to c.hr) (c.step s) x⟩
    cases ep : p ds es with
    | none =>
      rw [ep] at q
      exact q.elim
    | some r0 =>
      obtain ⟨d, ds'⟩ := r0
      rw [ep] at q
      have c2' := c.step s2
      refine h2 w2 H2 a xs ds vs es d ds' _ (s2.ext a _ e2 n) (s2.up a z) (t.to (s2.to c.hr)) t2 ep fun v xs' tv tx => ?_
      obtain ⟨t3, c3⟩ := c2'.put (ownS_some eo) e1 (s2.up a z) (s2.nm e2 n) tx
      exact q σ _ w2 ((s2.to c.hr).trans t3) c3
/-! ### x[i] = e -/
def sSetO (i : Nat) (fi fv : En → M D) : MS := fun ρ h => (fv ρ h).on ρ fun d h1 => match ownS ρ i with
  | some ds => (fi ρ h1).on ρ fun k h2 => match oInt k with
    | some k => match ixN ds.length k with
      | some j => .nx (ρ.set i (some (.own (ds.set j d)))) h2
      | none => .no
    | none => .no
  | none => .no
def sSetL (fo fi fv : En → M D) : MS := fun ρ h => (fv ρ h).on ρ fun d h1 => (fo ρ h1).on ρ fun o h2 => (fi ρ h2).on ρ fun k h3 => match o, oInt k with
  | .loc l, some k => match h3[l]? with
    | some (.lst ds) => match ixN ds.length k with
      | some j => .nx ρ (h3.set l (.lst (ds.set j d)))
      | none => .no
    | _ => .no
  | _, _ => .no
theorem s_setL {v i : Expr} {tpos : Pos} {fo fi fv : En → M D} (hv : DE X W v fv) (ho : DE X W o fo) (hi : DE X W i fi) (hs : swapsWithSole [.Subscript o i tpos] v pos.line X.env = pure false := by rfl) (hw : swappedStores [.Subscript o i tpos] v X.env = pure none := by rfl) (h1 : (assignEach [.Subscript o i tpos] X.env).map (·.2) = [assign (.Subscript o i tpos) X.env] := by rfl)
    (ha : ∀ v, assign (.Subscript o i tpos) X.env v = (do
      let ov ← holding [v] (eval o X.env)
      let iv ← holding [v, ov] (eval i X.env)
      standAt tpos
      holding [v, ov, iv] (setItem ov iv v)
      release [v, ov, iv] []) := by intro _; rfl) : DS X B W (.Assign [.Subscript o i tpos] v pos) (sSetL fo fi fv) := by
  refine PS.of (ps_asg hv (pg_sub ho hi set_list ha) hs hw h1) fun E σ H ⟨w, hd, h, ρ, c, k⟩ => ?_
  refine tE.stm c k fun d h1 v1 H1 w1 q1 s1 t1 c1 td => ?_
  refine tE.run c1.toCur (wp_on.mp q1) (fun od h2 v2 H2 w2 q2 s2 _ to => ?_) fun _ fs h' q cls dx H' w' s x => q cls dx σ H' w' (t1.trans (s.to c1.hr)) (c1.step s) x
  have c2 := c1.step s2
  have t2 := t1.trans (s2.to c1.hr)
  refine tE.run c2.toCur (wp_on.mp q2) (fun kd h3 v3 H3 w3 q3 s3 _ tk => ?_) fun _ fs h' q cls dx H' w' s x => q cls dx σ H' w' (t2.trans (s.to c2.hr)) (c2.step s) x
  have c3 := c2.step s3
  have t3 := t2.trans (s3.to c2.hr)
  split at q3
  · rename_i l kk ek
    cases oInt_some ek
    split at q3
    · rename_i ds el
      split at q3
      · rename_i j ej
        cases tk
        have to3 := to.to (s3.to c2.hr)
        cases to3 with
        | @loc a _ ha =>
          obtain ⟨xs, e1, tx⟩ := c3.hr.at_ _ _ _ ha el
          have hz := c3.hr.mz a (List.mem_of_getElem? ha)
          have td3 := (td.to (s2.to c1.hr)).to (s3.to c2.hr)
          have sp := Step.put (u := .lst (xs.set j v1)) c3.hr ha (o := .lst (ds.set j d)) ⟨_, upd_same, (tx.set j td3).to (To.touch hz)⟩
          exact ⟨a, xs, kk, j, rfl, rfl, e1, by rw [tx.length]; exact ej, q3 σ _ w3 (t3.trans (sp.to c3.hr)) (c3.step sp)⟩
      · exact q3.elim
    · exact q3.elim
  · exact q3.elim
theorem s_setO (j : Nat) {x : Str} {v i : Expr} {tpos vpos : Pos} {fi fv : En → M D} (hN : X.N[j]? = some x) (hvs : Vis X.env.scope x) (hd1 : (x == ("__debug__" : Str)) = false) (hcd : (x == ("__classdict__" : Str)) = false) (hv : DE X W v fv) (hi : DE X W i fi) (hs : swapsWithSole [.Subscript (.Name x vpos) i tpos] v pos.line X.env = pure false := by rfl) (hw : swappedStores [.Subscript (.Name x vpos) i tpos] v X.env = pure none := by rfl) (h1 : (assignEach [.Subscript (.Name x vpos) i tpos] X.env).map (·.2) = [assign (.Subscript (.Name x vpos) i tpos) X.env] := by rfl)
    (ha : ∀ v, assign (.Subscript (.Name x vpos) i tpos) X.env v = (do
      let ov ← holding [v] (eval (.Name x vpos) X.env)
      let iv ← holding [v, ov] (eval i X.env)
      standAt tpos
      holding [v, ov, iv] (setItem ov iv v)
      release [v, ov, iv] []) := by intro _; rfl) : DS X B W (.Assign [.Subscript (.Name x vpos) i tpos] v pos) (sSetO j fi fv) := by
  refine PS.of (ps_asg hv (pg_sub (pe_var hN hvs hd1 hcd) hi set_list ha) hs hw h1) fun E σ H ⟨w, hd, h, ρ, c, k⟩ => ?_
  refine tE.stm c k fun d h1 v1 H1 w1 q1 s1 t1 c1 td => ?_
  cases eo : ownS ρ j with
  | none =>
    rw [eo] at q1
    exact q1.elim
  | some ds =>
    rw [eo] at q1
    have k' := wp_on.mp q1
    obtain ⟨u, e1, a, xs, rfl, z, n, e2, t⟩ := c1.rp.at_ j _ (ownS_some eo)
    refine ⟨.ref a, e1, tE.run c1.toCur k' (fun kd h2 v2 H2 w2 q2 s2 _ tk => ?_) fun _ fs h' q cls dx H' w' s x => q cls dx σ H' w' (t1.trans (s.to c1.hr)) (c1.step s) x⟩
    have c2 := c1.step s2
    have t2 := t1.trans (s2.to c1.hr)
    cases ek : oInt kd with
    | none => rw [ek] at q2; exact q2.elim
    | some kk =>
      rw [ek] at q2
      cases oInt_some ek
      cases tk
      dsimp only at q2
      cases ej : ixN ds.length kk with
      | none => rw [ej] at q2; exact q2.elim
      | some jj =>
        rw [ej] at q2
        have tx := t.to (s2.to c1.hr)
        obtain ⟨t3, c3⟩ := c2.put (ownS_some eo) e1 (s2.up a z) (s2.nm e2 n) (tx.set jj (td.to (s2.to c1.hr)))
        exact ⟨a, xs, kk, jj, rfl, rfl, s2.ext a _ e2 n, by rw [tx.length]; exact ej, q2 σ _ w2 (t2.trans t3) c3⟩
end
end WR
set_option Elab.async false
set_option linter.all false
set_option autoImplicit false
set_option maxRecDepth 100000
set_option maxHeartbeats 4000000
namespace WR
open PySem PySem.Spec PyProof.Rows L2
/-! ### defs with defaults, keywords; methods -/
structure FunA (K : PySem.W.Frag) (x qual : Str) (st : Stmt) (f : Addr) (fd : FuncData) : Prop where
  ex : ∃ (oc : Value) (od : Option Addr) (dV kV doc pm : Value) (an : Option Addr) (cdv ct : Value) (osl : Array (Option Value)),
    fd = PySem.W.fnOf x qual (defArgs st) (defBody st) (defScope st) dV kV doc pm an cdv ct ∧ K.lookup f = some ⟨oc, od, .func fd, osl⟩ ∧ PySem.W.codeIn K cdv qual = true
def LkF (K : PySem.W.Frag) (f : Addr) (fd : FuncData) : Prop := ∃ oc od osl, K.lookup f = some ⟨oc, od, .func fd, osl⟩
theorem LkF.uniq {K : PySem.W.Frag} {f : Addr} {fd fd' : FuncData} (h : LkF K f fd) (h' : LkF K f fd') : fd = fd' := by
  obtain ⟨_, _, _, e⟩ := h
  obtain ⟨_, _, _, e'⟩ := h'
  rw [e] at e'
  cases e'
  rfl
theorem FunA.lk {K : PySem.W.Frag} {x qual : Str} {st : Stmt} {f : Addr} {fd : FuncData} (F : FunA K x qual st f fd) : LkF K f fd := by
  obtain ⟨oc, od, dV, kV, doc, pm, an, cdv, ct, osl, _, lk, _⟩ := F.ex
  exact ⟨oc, od, osl, lk⟩
section
variable {P : Program} {w : World} {K : PySem.W.Frag} {mg : Str → Option Value} {base : Heap} {CX : CXT} {k : Nat} {f : Addr} {fd : FuncData} {N ps : List Str} {sp : Sp} {x qual : Str} {st : Stmt}
theorem fnA_of (F : FunA K x qual st f fd) (S : FnScope N ps (defScope st)) (len : ∀ vs H Q E, sp vs H Q E → vs.length = ps.length)
    (hbody : ∀ (cdv : Value) (A : Around) (outer : List Env) (s : Shared) (H : Hp) (vs : List V) (Q : VK) (E : XK), RG k (A.deeper (envOfC qual (defScope st) s.heap.objs.size f cdv)) → sp vs H Q E →
      ∃ t, PSs (CxB CX P w K mg base N qual st f cdv A outer s H E) (defBody st) t ∧ t { nx := fun _ H' => Q .non H', rt := Q } (L2.start N vs) H) : FnG P w K mg base CX (k + 1) f fd ps sp := by
  obtain ⟨oc, od, dV, kV, doc, pm, an, cdv, ct, osl, rfl, lk, hcd⟩ := F.ex
  refine ⟨len, fun A outer s H args us vs Q E hr e0 hb rv hsp => ?_⟩
  have keep0 : ∀ b o, base.get? b = some o → s.heap.get? b = some o := fun b o e => (e0.bs b o e).1
  have KX : K.In s.heap := e0.mod.kin.keeps keep0
  have hkind : ∀ y ∈ ps.zip us, (defScope st).names.lookup y.1 = some .local ∨
      ((defScope st).names.lookup y.1 = some .cell ∧ ((cellsFrom (s.heap.objs.size + 1) (defScope st).names []).lookup y.1).isSome = true) := by
    rintro ⟨n, v⟩ hy
    exact (S.par n (List.of_mem_zip hy).1).imp id fun q => ⟨q, PySem.W.cellsFrom_some _ _ _ (.inl q)⟩
  refine codeAny_call_function hr.room.depth (KX _ _ lk) rfl S.co S.gen rfl (PySem.W.codeRec_of KX hcd) (hb _ _ _ _ ?_)
  refine wpAny_newFunctionEnv_cells S.kind hkind fun env he s1 xc => ?_
  subst he
  refine ⟨(e0.mod.nolimit.keeps keep0).keeps xc.toInCall.keep, codeAny_func ?_⟩
  obtain ⟨t, ht, hq⟩ := hbody cdv A outer s H vs Q E (hr.deeper _) hsp
  have I := inv_start (CX := CX) (E := E) S hr.room.hd e0 (len _ _ _ _ hsp) rv xc
  refine wpAny_mono (ht.run [] s1 (L2.start N vs) H _ I hq) (fun fl s' hs => ?_) fun e s' hs => hs
  have fin : ∀ {σ' : L2.St} {H' : Hp} {v : V} {u : Value}, Inv (CxB CX P w K mg base N qual st f cdv A outer s H E) [] σ' H' s' → RelV v u → Q v H' → CE outer P w H s Q u s' := fun {σ' H' v u} J rv q =>
    ⟨v, H', J.os, J.bare, J.base, J.hok, rv, q⟩
  cases fl with
  | ret u => exact let ⟨v, σ', H', J, rv, q⟩ := hs; fin J rv q
  | next => exact let ⟨σ', H', J, q⟩ := hs; fin (v := V.non) (u := Value.none) J rfl q
  | brk => exact let ⟨_, _, _, q⟩ := hs; False.elim q
  | cont => exact let ⟨_, _, _, q⟩ := hs; False.elim q
end
/-- how the values of a call come to the parameters: n positional ones, keywords ks -/
def BndOk (K : PySem.W.Frag) (mg : Str → Option Value) (fd : FuncData) (ps : List Str) (n : Nat) (ks : List Str) (bd : List D → List D → Option (List D)) : Prop :=
  ∀ (s : Shared) (us ws : List Value) (vs zs : List V), K.In s.heap → us.length = n → ws.length = ks.length → Vals vs us → Vals zs ws → ∃ us' vs', us'.length = ps.length ∧ BindsTo s fd ⟨us, ks.zip ws⟩ (ps.zip us') ∧ Vals vs' us' ∧
    ∀ (w : Wd) (H : Hp) (ds es ds' : List D), w.K = K → w.mg = mg → DtL w H vs ds → DtL w H zs es → bd ds es = some ds' → DtL w H vs' ds'
/-- what a def at f does -/
def Prom (Γ : PC) (k : Nat) (f : Addr) (ps : List Str) (sp : Sp) : Prop := ∃ fd, LkF Γ.K f fd ∧ FnG Γ.P Γ.w Γ.K Γ.mg Γ.base (CX Γ.P Γ.w) k f fd ps sp
def BndF (Γ : PC) (f : Addr) (ps : List Str) (n : Nat) (ks : List Str) (bd : List D → List D → Option (List D)) : Prop := ∃ fd, LkF Γ.K f fd ∧ BndOk Γ.K Γ.mg fd ps n ks bd
theorem Prom.mono {Γ : PC} {j k : Nat} {f : Addr} {ps : List Str} {sp : Sp} (h : Prom Γ j f ps sp) (hk : j ≤ k) : Prom Γ k f ps sp := by
  obtain ⟨fd, h1, h2⟩ := h
  exact ⟨fd, h1, h2.mono hk⟩
/-- a def of the module -/
def Gf (Γ : PC) (x : Str) (f : Addr) : Prop := Γ.mg x = some (.ref f) ∧ PySem.W.keepIn Γ.K (.ref f) = true
/-- a promise by values, with keywords -/
def spK (K : PySem.W.Frag) (mg : Str → Option Value) (n m : Nat) (bd : List D → List D → Option (List D)) (ff : List D → M D) : List V → List V → Hp → VK → XK → Prop := fun vs zs H Q E => vs.length = n ∧ zs.length = m ∧ ∃ w h ds es as, w.K = K ∧ w.mg = mg ∧ HR w h H ∧ DtL w H vs ds ∧ DtL w H zs es ∧ bd ds es = some as ∧
  ((ff as) h).wp (fun d h' => ∀ v H' w', Step w H w' h' H' → Dt w' H' v d → Q v H') (fun c fs h' => ∀ cls dx H' w', Step w H w' h' H' → ExD w' H' cls dx c fs → E cls dx H')
def eCallK (n m : Nat) (bd : List D → List D → Option (List D)) (ff : List D → M D) (ga gk : En → M (List D)) : En → M D := fun ρ => (ga ρ).bind fun ds => (gk ρ).bind fun es => (M.of (if ds.length = n ∧ es.length = m then bd ds es else none)).bind ff
abbrev DK (X : Cx) (W : WX) (kws : List Keyword) (f : En → M (List D)) : Prop := PK X kws (tL X W f)
section
variable {Γ : PC} {X : Cx} {B : Bs} {W : WX} {j k n m : Nat} {N : List Str} {sc ow : Scope} {e o : Expr} {es : List Expr} {kws : List Keyword} {x : Str} {pos p apos : Pos} {f : Addr} {ps ks : List Str} {bd : List D → List D → Option (List D)} {ff : List D → M D} {fa : En → M D} {ga gk : En → M (List D)} {nm : Option Str} {kpos : Pos}
theorem PK.of {t t' : TA} (h : PK X kws t) (w : ∀ σ H Q, t' σ H Q → t σ H Q) : PK X kws t' := ⟨fun po pins s σ H Q I q => h.run po pins s σ H Q I (w σ H Q q)⟩
theorem dk_nil : DK X W [] aNil := PK.of pk_nil fun σ H Q ⟨w, hd, h, ρ, c, k⟩ => k [] H w (Step.refl c.hr) .nil
theorem dk_cons (ha : DE X W e fa) (hr : DK X W kws gk) : DK X W (⟨nm, e, kpos⟩ :: kws) (aCons fa gk) :=
  PK.of (pk_cons ha hr) fun σ H Q ⟨w, hd, h, ρ, c, k⟩ => tE.run c (wp_bind.mp k) (fun d1 h1 v1 H1 w1 k1 s1 c1 t1 =>
    tL.run c1 (wp_bind.mp k1) (fun d2 h2 v2 H2 w2 k2 s2 c2 t2 => k2 _ H2 w2 (s1.trans s2) (.cons (t1.to (s2.to c1.hr)) t2)) fun _ _ _ z cls dx H' w' s' => z cls dx H' w' (s1.trans s')) fun _ _ _ z => z
/-- behind the arguments -/
theorem args_K {σ : L2.St} {H : Hp} {Q : VK} (z : tE X W (eCallK n m bd ff ga gk) σ H Q) : tL X W ga σ H fun vs H1 => tL X W gk σ H1 fun zs H2 => spK X.K X.mg n m bd ff vs zs H2 Q fun cls dx H' => W cls dx σ H' := by
  obtain ⟨w, hd, h, ρ, cu, k0⟩ := z
  refine tL.run cu (wp_bind.mp k0) (fun ds h1 vs H1 w1 q s1 c1 t1 => ?_) fun _ _ _ z => z
  refine tL.run c1 (wp_bind.mp q) (fun es h2 zs H2 w2 q s2 c2 t2 => ?_) fun _ _ _ z cls dx H' w' s => z cls dx H' w' (s1.trans s)
  obtain ⟨as, ha, q⟩ := wp_of.mp (wp_bind.mp q)
  split at ha
  · rename_i hl
    have s12 := s1.trans s2
    exact ⟨by rw [t1.length]; exact hl.1, by rw [t2.length]; exact hl.2, w2, h2, ds, es, as, c2.K, c2.mg, c2.hr, t1.to (s2.to c1.hr), t2, ha, q.mono (fun d h' q v H' w' s => q v H' w' (s12.trans s)) fun cc fs h' q cls dx H' w' s => q cls dx H' w' (s12.trans s)⟩
  · cases ha
/-- the callee runs -/
theorem core_call {pins : List (Addr × Obj)} {σ : L2.St} {H : Hp} {s : Shared} {Q : VK} {us ws : List Value} {vs zs : List V} (c : Cok Γ X W k N sc ow) (F : Prom Γ j f ps (spI Γ.K Γ.mg ps.length ff)) (b : BndF Γ f ps n ks bd) (hj : j ≤ k)
    (I : Inv X pins σ H s) (rv : Vals vs us) (rz : Vals zs ws) (q : spK X.K X.mg n ks.length bd ff vs zs H Q fun cls dx H' => W cls dx σ H') : codeAny (model X.prog X.w) X.A (.call (.ref f) ⟨us, ks.zip ws⟩) (fun r s' => match r with
      | .ok (.ret u) => EP X pins σ Q u s'
      | .ok _ => False
      | .error err => X.xe err s') s := by
  obtain ⟨fd, l1, F⟩ := F
  obtain ⟨fd', l2, bo⟩ := b
  obtain rfl := l1.uniq l2
  have hpc := c.pc
  subst hpc
  obtain ⟨hl, hz, w, h, ds, es, as, hK, hm, hR, t1, t2, hb, q⟩ := q
  obtain ⟨us', vs', hl', hbd, rv', ht⟩ := bo s us ws vs zs I.kIn (by rw [← rv.length]; exact hl) (by rw [← rz.length]; exact hz) rv rz
  refine run_G F (c.rg.mono hj) c.tk (us := us') (fun _ => hbd) I rv' ⟨by rw [rv'.length]; exact hl', w, h, as, hK, hm, hR, ht w H ds es as hK hm t1 t2 hb, q⟩
/-- f(e, ..) -/
theorem call0_ (c : Cok Γ X W k N sc ow) (g : Gf Γ x f) (F : Prom Γ j f ps (spI Γ.K Γ.mg ps.length ff)) (b : BndF Γ f ps 0 [] bd) (hj : j ≤ k := by decide) (hg : glB sc x = true := by rfl) (hdb : (x == ("__debug__" : Str)) = false := by rfl) : DE X W (.Call (.Name x p) [] [] pos) (eCallK 0 0 bd ff aNil aNil) := by
  have hpc := c.pc
  subst hpc
  refine ⟨fun pins s σ H Q I z => wpAny_Call_Name_kw (ld_glob I (c.gl hg) g.1 (PySem.W.callWith_K0 I.kIn g.2 ?_) hdb)⟩
  have q := args_K z
  obtain ⟨w, hd, h, ρ, cu, k0⟩ := z
  have k1 : ((M.of (bd [] [])).bind ff h).wp _ _ := k0
  obtain ⟨as, ha, q⟩ := wp_of.mp (wp_bind.mp k1)
  exact call_fin (core_call (zs := []) (ws := []) (us := []) (vs := []) c F b hj I .nil .nil ⟨rfl, rfl, w, h, [], [], as, cu.K, cu.mg, cu.hr, .nil, .nil, ha, q⟩)
theorem callA_ (c : Cok Γ X W k N sc ow) (g : Gf Γ x f) (F : Prom Γ j f ps (spI Γ.K Γ.mg ps.length ff)) (b : BndF Γ f ps n [] bd) (ha : DA X W (e :: es) ga) (hj : j ≤ k := by decide) (hg : glB sc x = true := by rfl) (hdb : (x == ("__debug__" : Str)) = false := by rfl)
    (he : starEach (e :: es) X.env = (false, eval e X.env) :: starEach es X.env := by rfl) (hpl : (backTo pos (starEach es X.env)).any (·.1) = false := by rfl) : DE X W (.Call (.Name x p) (e :: es) [] pos) (eCallK n 0 bd ff ga aNil) := by
  have hpc := c.pc
  subst hpc
  refine ⟨fun pins s σ H Q I z => wpAny_Call_Name_kw (ld_glob I (c.gl hg) g.1 (PySem.W.callWith_K (h₀ := X.base) I.ok.mod.kin g.2 (thn (ha.run pos pins s σ H _ I (args_K z)) fun us s1 ⟨vs, H1, I1, rv, q⟩ => ⟨I1.kIn, ?_⟩) he hpl) hdb)⟩
  obtain ⟨w, hd, h, ρ, cu, q⟩ := q
  exact call_fin (core_call (zs := []) (ws := []) c F b hj I1 rv .nil (q [] H1 w (Step.refl cu.hr) .nil))
theorem callKA_ (c : Cok Γ X W k N sc ow) (g : Gf Γ x f) (F : Prom Γ j f ps (spI Γ.K Γ.mg ps.length ff)) (b : BndF Γ f ps n ks bd) (ha : DA X W (e :: es) ga) (hk : DK X W kws gk) (hj : j ≤ k := by decide) (hg : glB sc x = true := by rfl) (hdb : (x == ("__debug__" : Str)) = false := by rfl)
    (hall : (backToKw pos (keywordEach kws X.env)).all (·.1.isSome) = true := by rfl) (hks : (backToKw pos (keywordEach kws X.env)).filterMap (·.1) = ks := by rfl) (he : starEach (e :: es) X.env = (false, eval e X.env) :: starEach es X.env := by rfl)
    (hpl : ((backTo pos (starEach (e :: es) X.env)).any (·.1) || (backToKw pos (keywordEach kws X.env)).any (·.1.isNone)) = false := by rfl) : DE X W (.Call (.Name x p) (e :: es) kws pos) (eCallK n ks.length bd ff ga gk) := by
  have hpc := c.pc
  subst hpc
  refine ⟨fun pins s σ H Q I z => wpAny_Call_Name_kw (ld_glob I (c.gl hg) g.1 (PySem.W.callWith_KW (h₀ := X.base) I.ok.mod.kin g.2 hall (thn (ha.run pos pins s σ H _ I (args_K z)) fun us s1 ⟨vs, H1, I1, rv, q⟩ => ?_) hpl he) hdb)⟩
  refine thn (hk.run pos pins s1 σ H1 _ I1 q) fun ws s2 ⟨zs, H2, I2, rz, q⟩ => ⟨I2.kIn, ?_⟩
  rw [hks]
  exact call_fin (core_call c F b hj I2 rv rz q)
theorem callK_ (c : Cok Γ X W k N sc ow) (g : Gf Γ x f) (F : Prom Γ j f ps (spI Γ.K Γ.mg ps.length ff)) (b : BndF Γ f ps 0 ks bd) (hk : DK X W kws gk) (hj : j ≤ k := by decide) (hg : glB sc x = true := by rfl) (hdb : (x == ("__debug__" : Str)) = false := by rfl)
    (hall : (backToKw pos (keywordEach kws X.env)).all (·.1.isSome) = true := by rfl) (hks : (backToKw pos (keywordEach kws X.env)).filterMap (·.1) = ks := by rfl)
    (hpl : ((backTo pos (starEach [] X.env)).any (·.1) || (backToKw pos (keywordEach kws X.env)).any (·.1.isNone)) = false := by rfl) : DE X W (.Call (.Name x p) [] kws pos) (eCallK 0 ks.length bd ff aNil gk) := by
  have hpc := c.pc
  subst hpc
  refine ⟨fun pins s σ H Q I z => wpAny_Call_Name_kw (ld_glob I (c.gl hg) g.1 (PySem.W.callWith_KW0 (h₀ := X.base) I.ok.mod.kin g.2 hall (thn (hk.run pos pins s σ H (fun zs H2 => spK X.K X.mg 0 ks.length bd ff [] zs H2 Q fun cls dx H' => W cls dx σ H') I ?_) fun ws s2 ⟨zs, H2, I2, rz, q⟩ => ⟨I2.kIn, ?_⟩) hpl) hdb)⟩
  · obtain ⟨w, hd, h, ρ, cu, q⟩ := args_K z
    exact q [] H w (Step.refl cu.hr) .nil
  · rw [hks]
    exact call_fin (core_call (us := []) (vs := []) c F b hj I2 .nil rz q)
end
end WR
set_option Elab.async false
set_option linter.all false
set_option autoImplicit false
set_option maxRecDepth 100000
set_option maxHeartbeats 4000000
namespace WR
open PySem PySem.Spec PyProof.Rows L2
/-! ### instances -/
/-- a class of the module whose instances are plain -/
structure ClsOk (Γ : PC) (cn : Str) (C : Addr) : Prop where
  mg : Γ.mg cn = some (.ref C)
  cl : Cls Γ.K C
/-- the attributes of an instance -/
def objF (h : IH) : D → Option (Str × List (Str × D))
  | .obj c fs => some (c, fs)
  | .loc l => match h[l]? with
    | some (.obj c fs) => some (c, fs)
    | _ => none
  | _ => none
theorem objF_some {w : Wd} {h : IH} {H : Hp} {v : V} {d : D} {c : Str} {fs : List (Str × D)} (hr : HR w h H) (hd : objF h d = some (c, fs)) (t : Dt w H v d) : ∃ a C dx xs, v = .ref a ∧ w.mg c = some (.ref C) ∧ H a = some (.ins C dx xs) ∧ DtF w H xs fs := by
  cases t with
  | obj hg h1 n1 l1 => cases hd; exact ⟨_, _, _, _, rfl, hg, h1, l1⟩
  | @loc a l hl =>
    unfold objF at hd
    dsimp only at hd
    split at hd
    · rename_i e
      cases hd
      obtain ⟨C, dx, xs, hg, e1, l1⟩ := hr.at_ _ _ _ hl e
      exact ⟨_, _, _, _, rfl, hg, e1, l1⟩
    · cases hd
  | _ => cases hd
def fldM (cs : List Str) (f : Str) (d : D) : M D := fun h => match objF h d with
  | some (c, fs) => if c ∈ cs then (match fs.lookup f with
    | some x => .ok x h
    | none => .no) else .no
  | none => .no
theorem wp_fld {cs : List Str} {f : Str} {d : D} {h : IH} {Q : D → IH → Prop} {E : Str → List (Str × D) → IH → Prop} (k : ((fldM cs f d) h).wp Q E) : ∃ c fs x, objF h d = some (c, fs) ∧ c ∈ cs ∧ fs.lookup f = some x ∧ Q x h := by
  unfold fldM at k
  split at k
  · rename_i c fs e
    split at k
    · rename_i hc
      split at k
      · rename_i x e2
        exact ⟨c, fs, x, e, hc, e2, k⟩
      · exact k.elim
    · exact k.elim
  · exact k.elim
def eFld (cs : List Str) (f : Str) (fo : En → M D) : En → M D := fun ρ => (fo ρ).bind (fldM cs f)
/-- the attributes may be read -/
def FldOk (Γ : PC) (cs : List Str) (f : Str) : Prop := ∀ c ∈ cs, ∀ C, Γ.mg c = some (.ref C) → Cls Γ.K C ∧ NoAttr Γ.K C f
section
variable {Γ : PC} {X : Cx} {B : Bs} {W : WX} {j k n m : Nat} {N : List Str} {sc ow : Scope} {e o v : Expr} {es : List Expr} {kws : List Keyword} {x : Str} {pos p apos : Pos} {f : Addr} {ps ks : List Str} {bd : List D → List D → Option (List D)} {ff : List D → M D} {fa fo fv : En → M D} {ga gk : En → M (List D)} {cs : List Str} {fn cn : Str} {C : Addr}
theorem fld_ (c : Bok Γ X W N sc ow) (T : FldOk Γ cs fn) (ho : DE X W o fo) (hb : attributeBase o fn X.env (eval o X.env) = eval o X.env := by rfl) : DE X W (.Attribute o fn pos) (eFld cs fn fo) := by
  have hpc := c.pc
  subst hpc
  refine PE.of (pe_fld ho hb) fun σ H Q ⟨w, hd, h, ρ, cu, k⟩ => tE.run cu (wp_bind.mp k) (fun d1 h1 v1 H1 w1 k1 s1 c1 t1 => ?_) fun _ _ _ z => z
  obtain ⟨c', fs, y, ho, hc, hl, q⟩ := wp_fld k1
  obtain ⟨a, C, dx, xs, rfl, hg, e1, l1⟩ := objF_some c1.hr ho t1
  rw [c1.mg] at hg
  obtain ⟨T1, T2⟩ := T c' hc C hg
  obtain ⟨u, hu, tu⟩ := l1.lookup hl
  exact ⟨a, C, dx, xs, u, rfl, e1, T1, T2, hu, q _ _ w1 s1 tu⟩
/-! ### self.f = e, in __init__ -/
def slfS (ρ : En) (i : Nat) : Option (Str × List (Str × D)) := match ρ[i]? with
  | some (some (.slf c fs)) => some (c, fs)
  | _ => none
theorem slfS_some {ρ : En} {i : Nat} {c : Str} {fs : List (Str × D)} (h : slfS ρ i = some (c, fs)) : ρ[i]? = some (some (.slf c fs)) := by
  unfold slfS at h
  split at h
  · cases h; assumption
  · cases h
def putD (f : Str) (d : D) : List (Str × D) → List (Str × D)
  | [] => [(f, d)]
  | (g, x) :: r => if g = f then (g, d) :: r else (g, x) :: putD f d r
def sSlf (i : Nat) (cs : List Str) (f : Str) (fv : En → M D) : MS := fun ρ h => (fv ρ h).on ρ fun d h' => match slfS ρ i with
  | some (c, fs) => if c ∈ cs ∧ fs.length < 1000 then .nx (ρ.set i (some (.slf c (putD f d fs)))) h' else .no
  | none => .no
theorem dtF_put {w : Wd} {H : Hp} {f : Str} {y : V} {d : D} (t : Dt w H y d) : ∀ {xs : List (Str × V)} {fs : List (Str × D)}, DtF w H xs fs → DtF w H (putF f y xs) (putD f d fs)
  | _, _, .nil => .cons t .nil
  | _, _, .cons (k := g) h r => by
    unfold putF putD
    by_cases e : g = f
    · rw [if_pos e, if_pos e]
      exact .cons t r
    · rw [if_neg e, if_neg e]
      exact .cons h (dtF_put t r)
/-- the own thing in a slot changed -/
theorem StR.putS {w : Wd} {hd : Hd} {h : IH} {ρ : En} {σ : L2.St} {H : Hp} {i : Nat} {a : Addr} {s0 s1 : Sl} {u : HO} (c : StR X B w hd h ρ σ H) (e : ρ[i]? = some (some s0)) (o0 : s0.owned = true) (e1 : σ[i]? = some (some (.ref a))) (z : w.Z a) (n : a ∉ w.m) (t : SlotR w hd (upd H a u) (.ref a) s1) (o1 : s1.owned = true) (hsl : ∀ c fs, s1 = .slf c fs → ∃ c' fs', s0 = .slf c' fs') :
    To w H w (upd H a u) ∧ StR X B w hd h (ρ.set i (some s1)) σ (upd H a u) := by
  have hfr := (c.fr i _ a e o0 e1).1
  refine ⟨To.touch z, ⟨⟨c.K, c.mg, c.hk, c.hr.touch z n, ?_⟩, ?_, ?_⟩⟩
  · refine ⟨by rw [List.length_set]; exact c.rp.len, fun j s q => ?_, fun j k s t' nn q1 q2 p1 p2 => ?_⟩
    · rcases set_some q with ⟨rfl, rfl, _⟩ | ⟨hj, q⟩
      · exact ⟨.ref a, e1, t⟩
      · obtain ⟨v, h1, h2⟩ := c.rp.at_ j s q
        exact ⟨v, h1, h2.to (To.touch z) fun b o hv ho zb nb hb => ⟨zb, nb, by
          rw [upd_ne fun q2 => c.rp.ap j i s s0 hj q e ho o0 (by rw [h1, e1, hv, q2])]
          exact hb⟩⟩
    · have q1' : ∃ t0, ρ[j]? = some (some t0) ∧ t0.owned = true := by
        rcases set_some q1 with ⟨rfl, _, _⟩ | ⟨_, q⟩
        · exact ⟨_, e, o0⟩
        · exact ⟨s, q, p1⟩
      have q2' : ∃ t0, ρ[k]? = some (some t0) ∧ t0.owned = true := by
        rcases set_some q2 with ⟨rfl, _, _⟩ | ⟨_, q⟩
        · exact ⟨_, e, o0⟩
        · exact ⟨t', q, p2⟩
      obtain ⟨t1, a1, b1⟩ := q1'
      obtain ⟨t2, a2, b2⟩ := q2'
      exact c.rp.ap j k t1 t2 nn a1 a2 b1 b2
  · exact ⟨c.bs.K, c.bs.mg, c.bs.m, c.bs.up, c.bs.new, fun b o hb nb => by rw [upd_ne fun q => by rw [q, hfr] at hb; cases hb]; exact c.bs.ext b o hb nb, c.hr.touch z n⟩
  · intro j s b q o e3
    rcases set_some q with ⟨rfl, rfl, _⟩ | ⟨hj, q⟩
    · have q0 := c.fr j _ b e o0 e3
      exact ⟨q0.1, fun c' fs' z => by obtain ⟨c0, fs0, z0⟩ := hsl c' fs' z; exact q0.2 c0 fs0 z0⟩
    · exact c.fr j s b q o e3
theorem slf_ (c : Bok Γ X W N sc ow) (i : Nat) {pos' vpos : Pos} (T : FldOk Γ cs fn) (hv : DE X W v fv) (h : N[i]? = some x := by rfl) (hvs : visB sc x = true := by rfl) (hs : ∀ env, swapsWith v (some (.Attribute (.Name x vpos) fn pos')) pos.line env = pure false := by intro _; rfl) : DS X B W (.Assign [.Attribute (.Name x vpos) fn pos'] v pos) (sSlf i cs fn fv) := by
  have hpc := c.pc
  subst hpc
  refine PS.of (ps_fld (pe_var (c.ix h) (c.vis hvs) (c.nmv h).1 (c.nmv h).2) hv (hs _)) fun E σ H ⟨w, hd, hh, ρ, cu, k⟩ => ?_
  refine tE.stm cu k fun d h' v1 H' w' q s t c' td => ?_
  cases es : slfS ρ i with
  | none => rw [es] at q; exact q.elim
  | some r =>
    obtain ⟨cc, fs⟩ := r
    rw [es] at q
    dsimp only at q
    split at q
    · rename_i hc
      have er := slfS_some es
      obtain ⟨u, e1, a, C, dx, xs, rfl, z, n, hg, e2, l1⟩ := c'.rp.at_ i _ er
      have hg' := hg
      rw [c'.mg] at hg'
      obtain ⟨T1, T2⟩ := T cc hc.1 C hg'
      obtain ⟨t3, c3⟩ := c'.putS (u := .ins C dx (putF fn v1 xs)) (s1 := .slf cc (putD fn d fs)) er rfl e1 z n ⟨a, C, dx, _, rfl, z, n, hg, upd_same, (dtF_put td l1).to (To.touch z)⟩ rfl (fun _ _ _ => ⟨_, _, rfl⟩)
      exact ⟨.ref a, e1, a, C, dx, xs, rfl, e2, T1, T2, by rw [l1.length]; exact hc.2, q σ _ w' (t.trans t3) c3⟩
    · exact q.elim
/-! ### o.f = e, o an object that may change -/
def sFldL (cs : List Str) (f : Str) (fo fv : En → M D) : MS := fun ρ h => (fv ρ h).on ρ fun d h1 => (fo ρ h1).on ρ fun o h2 => match o with
  | .loc l => match h2[l]? with
    | some (.obj c fs) => if c ∈ cs ∧ fs.length < 1000 then .nx ρ (h2.set l (.obj c (putD f d fs))) else .no
    | _ => .no
  | _ => .no
theorem fldL_ (c : Bok Γ X W N sc ow) {pos' : Pos} (T : FldOk Γ cs fn) (ho : DE X W o fo) (hv : DE X W v fv) (hs : ∀ env, swapsWith v (some (.Attribute o fn pos')) pos.line env = pure false := by intro _; rfl) : DS X B W (.Assign [.Attribute o fn pos'] v pos) (sFldL cs fn fo fv) := by
  have hpc := c.pc
  subst hpc
  refine PS.of (ps_fld ho hv (hs _)) fun E σ H ⟨w, hd, hh, ρ, cu, k⟩ => ?_
  refine tE.stm cu k fun d h' v1 H' w' q s t c' td => ?_
  refine tE.run c'.toCur (wp_on.mp q) (fun od h2 v2 H2 w2 q2 s2 _ to => ?_) fun _ fs h' q cls dx H' w' s x => q cls dx σ H' w' (t.trans (s.to c'.hr)) (c'.step s) x
  have c2 := c'.step s2
  have t2 := t.trans (s2.to c'.hr)
  split at q2
  · split at q2
    · rename_i l _ cc fs el
      split at q2
      · rename_i hc
        cases to with
        | @loc a _ ha =>
          obtain ⟨C, dx, xs, hg, e1, l1⟩ := c2.hr.at_ _ _ _ ha el
          have hg' := hg
          rw [c2.mg] at hg'
          obtain ⟨T1, T2⟩ := T cc hc.1 C hg'
          have hz := c2.hr.mz a (List.mem_of_getElem? ha)
          have sp := Step.put (u := .ins C dx (putF fn v1 xs)) c2.hr ha (o := .obj cc (putD fn d fs)) ⟨C, dx, _, hg, upd_same, (dtF_put (td.to (s2.to c'.hr)) l1).to (To.touch hz)⟩
          exact ⟨a, C, dx, xs, rfl, e1, T1, T2, by rw [l1.length]; exact hc.2, q2 σ _ w2 (t2.trans (sp.to c2.hr)) (c2.step sp)⟩
      · exact q2.elim
    · exact q2.elim
  · exact q2.elim
/-! ### methods -/
def objM (cn m : Str) (d : D) : M Unit := fun h => match objF h d with
  | some (c, fs) => if c = cn ∧ fs.lookup m = none then .ok () h else .no
  | none => .no
theorem wp_obj {cn m : Str} {d : D} {h : IH} {Q : Unit → IH → Prop} {E : Str → List (Str × D) → IH → Prop} (k : ((objM cn m d) h).wp Q E) : ∃ fs, objF h d = some (cn, fs) ∧ fs.lookup m = none ∧ Q () h := by
  unfold objM at k
  split at k
  · rename_i c fs e
    split at k
    · rename_i hc
      obtain ⟨rfl, hl⟩ := hc
      exact ⟨fs, e, hl, k⟩
    · exact k.elim
  · exact k.elim
def eMeth (cn m : Str) (n mk : Nat) (bd : List D → List D → Option (List D)) (ff : List D → M D) (fo : En → M D) (ga gk : En → M (List D)) : En → M D := fun ρ => (fo ρ).bind fun d => (objM cn m d).bind fun _ => (ga ρ).bind fun ds => (gk ρ).bind fun es => (M.of (if ds.length = n ∧ es.length = mk then bd (d :: ds) es else none)).bind ff
/-- a method of a class -/
structure MtOk (Γ : PC) (cn m : Str) (C f : Addr) : Prop where
  cl : ClsOk Γ cn C
  mt : Meth Γ.K C m f
theorem meth_rd {σ : L2.St} {H : Hp} {Q : VK} {mn : Str} (c : Cok Γ X W k N sc ow) (T : MtOk Γ cn mn C f) (z : tE X W (eMeth cn mn n m bd ff fo ga gk) σ H Q) : tE X W fo σ H fun x H1 => ∃ a dx fs, x = .ref a ∧ H1 a = some (.ins C dx fs) ∧ fs.lookup mn = none ∧ tL X W ga σ H1 fun vs H2 => tL X W gk σ H2 fun zs H3 => spK X.K X.mg (n + 1) m bd ff (.ref a :: vs) zs H3 Q fun cls dx H' => W cls dx σ H' := by
  obtain ⟨w, hd, h, ρ, cu, k0⟩ := z
  refine tE.run cu (wp_bind.mp k0) (fun d h1 v1 H1 w1 q s1 c1 t1 => ?_) fun _ _ _ z => z
  obtain ⟨fs, ho, hl, q⟩ := wp_obj (wp_bind.mp q)
  obtain ⟨a, C', dx, xs, rfl, hg, e1, l1⟩ := objF_some c1.hr ho t1
  have hg' := hg
  rw [c1.mg] at hg'
  have hT := T.cl.mg
  rw [← c.pc] at hT
  have hC : C' = C := by
    have : X.mg cn = some (.ref C) := hT
    rw [hg'] at this
    cases this
    rfl
  subst hC
  refine ⟨a, dx, xs, rfl, e1, l1.lookup_none hl, tL.run c1 (wp_bind.mp q) (fun ds h2 vs H2 w2 q s2 c2 t2 => ?_) fun _ _ _ z cls dx H' w' s => z cls dx H' w' (s1.trans s)⟩
  have s12 := s1.trans s2
  refine tL.run c2 (wp_bind.mp q) (fun es h3 zs H3 w3 q s3 c3 t3 => ?_) fun _ _ _ z cls dx H' w' s => z cls dx H' w' (s12.trans s)
  have s13 := s12.trans s3
  obtain ⟨as, ha, q⟩ := wp_of.mp (wp_bind.mp q)
  split at ha
  · rename_i hl
    exact ⟨by rw [List.length_cons, t2.length, hl.1], by rw [t3.length]; exact hl.2, w3, h3, d :: ds, es, as, c3.K, c3.mg, c3.hr, .cons ((t1.to (s2.to c1.hr)).to (s3.to c2.hr)) (t2.to (s3.to c2.hr)), t3, ha, q.mono (fun d h' q v H' w' s => q v H' w' (s13.trans s)) fun cc fs h' q cls dx H' w' s => q cls dx H' w' (s13.trans s)⟩
  · cases ha
theorem methA_ {pl : Sem Bool} {mn : Str} (c : Cok Γ X W k N sc ow) (T : MtOk Γ cn mn C f) (F : Prom Γ j f ps (spI Γ.K Γ.mg ps.length ff)) (b : BndF Γ f ps (n + 1) [] bd) (ho : DE X W o fo) (ha : DA X W (e :: es) ga) (hj : j ≤ k := by decide)
    (hst : starEach (e :: es) X.env = (false, eval e X.env) :: starEach es X.env := by rfl) (hpl : (backTo pos (starEach es X.env)).any (·.1) = false := by rfl)
    (ht : eval (.Call (.Attribute o mn apos) (e :: es) [] pos) X.env = (do
      let ov ← eval o X.env
      standAt apos.atName
      let (f, first) ← holding [ov] (getMethod ov mn pl)
      callWith pos f first (backTo pos (starEach (e :: es) X.env)) (backToKw pos (keywordEach [] X.env))) := by rfl) : DE X W (.Call (.Attribute o mn apos) (e :: es) [] pos) (eMeth cn mn n 0 bd ff fo ga aNil) := by
  refine ⟨fun pins s σ H Q I z => ?_⟩
  refine PySem.W.methodCall_KW (pl := pl) (thn (ho.run pins s σ H _ I (meth_rd c T z)) fun u s1 ⟨x, H1, I1, rx, a, dx, fs, ex, ea, l, q⟩ => ?_) ht
  subst ex
  obtain rfl : u = Value.ref a := rx
  have hpc := c.pc
  subst hpc
  refine getmeth_ok I1 ea T.cl.cl T.mt l ?_
  refine PySem.W.callWith_K (first := [.ref a]) (h₀ := X.base) I.ok.mod.kin T.mt.kp (thn (ha.run pos pins s1 σ H1 _ I1 q) fun us s2 ⟨vs, H2, I2, r, q2⟩ => ⟨I2.kIn, ?_⟩) hst hpl
  obtain ⟨w, hd, h, ρ, cu, q⟩ := q2
  exact call_fin (core_call (zs := []) (ws := []) (us := .ref a :: us) (vs := .ref a :: vs) c F b hj I2 (.cons rfl r) .nil (q [] H2 w (Step.refl cu.hr) .nil))
theorem meth0_ {pl : Sem Bool} {mn : Str} (c : Cok Γ X W k N sc ow) (T : MtOk Γ cn mn C f) (F : Prom Γ j f ps (spI Γ.K Γ.mg ps.length ff)) (b : BndF Γ f ps 1 [] bd) (ho : DE X W o fo) (hj : j ≤ k := by decide)
    (ht : eval (.Call (.Attribute o mn apos) [] [] pos) X.env = (do
      let ov ← eval o X.env
      standAt apos.atName
      let (f, first) ← holding [ov] (getMethod ov mn pl)
      callWith pos f first (backTo pos (starEach [] X.env)) (backToKw pos (keywordEach [] X.env))) := by rfl) : DE X W (.Call (.Attribute o mn apos) [] [] pos) (eMeth cn mn 0 0 bd ff fo aNil aNil) := by
  refine ⟨fun pins s σ H Q I z => ?_⟩
  refine PySem.W.methodCall_KW (pl := pl) (thn (ho.run pins s σ H _ I (meth_rd c T z)) fun u s1 ⟨x, H1, I1, rx, a, dx, fs, ex, ea, l, q⟩ => ?_) ht
  subst ex
  obtain rfl : u = Value.ref a := rx
  have hpc := c.pc
  subst hpc
  refine getmeth_ok I1 ea T.cl.cl T.mt l ?_
  obtain ⟨w, hd, h, ρ, cu, q⟩ := q
  obtain ⟨w2, hd2, h2, ρ2, cu2, q⟩ := q [] H1 w (Step.refl cu.hr) .nil
  exact PySem.W.callWith_K0 (first := [.ref a]) I1.kIn T.mt.kp (call_fin (core_call (zs := []) (ws := []) (us := [.ref a]) (vs := [.ref a]) c F b hj I1 (.cons rfl .nil) .nil (q [] H1 w2 (Step.refl cu2.hr) .nil)))
theorem methK_ {pl : Sem Bool} {mn : Str} (c : Cok Γ X W k N sc ow) (T : MtOk Γ cn mn C f) (F : Prom Γ j f ps (spI Γ.K Γ.mg ps.length ff)) (b : BndF Γ f ps 1 ks bd) (ho : DE X W o fo) (hk : DK X W kws gk) (hj : j ≤ k := by decide)
    (hall : (backToKw pos (keywordEach kws X.env)).all (·.1.isSome) = true := by rfl) (hks : (backToKw pos (keywordEach kws X.env)).filterMap (·.1) = ks := by rfl)
    (hpl : ((backTo pos (starEach [] X.env)).any (·.1) || (backToKw pos (keywordEach kws X.env)).any (·.1.isNone)) = false := by rfl)
    (ht : eval (.Call (.Attribute o mn apos) [] kws pos) X.env = (do
      let ov ← eval o X.env
      standAt apos.atName
      let (f, first) ← holding [ov] (getMethod ov mn pl)
      callWith pos f first (backTo pos (starEach [] X.env)) (backToKw pos (keywordEach kws X.env))) := by rfl) : DE X W (.Call (.Attribute o mn apos) [] kws pos) (eMeth cn mn 0 ks.length bd ff fo aNil gk) := by
  refine ⟨fun pins s σ H Q I z => ?_⟩
  refine PySem.W.methodCall_KW (pl := pl) (thn (ho.run pins s σ H _ I (meth_rd c T z)) fun u s1 ⟨x, H1, I1, rx, a, dx, fs, ex, ea, l, q⟩ => ?_) ht
  subst ex
  obtain rfl : u = Value.ref a := rx
  have hpc := c.pc
  subst hpc
  refine getmeth_ok I1 ea T.cl.cl T.mt l ?_
  refine PySem.W.callWith_KW0 (first := [.ref a]) (h₀ := X.base) I.ok.mod.kin T.mt.kp hall (thn (hk.run pos pins s1 σ H1 (fun zs H2 => spK X.K X.mg 1 ks.length bd ff [.ref a] zs H2 Q fun cls dx H' => W cls dx σ H') I1 ?_) fun ws s2 ⟨zs, H2, I2, rz, q⟩ => ⟨I2.kIn, ?_⟩) hpl
  · obtain ⟨w, hd, h, ρ, cu, q⟩ := q
    exact q [] H1 w (Step.refl cu.hr) .nil
  · rw [hks]
    exact call_fin (core_call (us := [.ref a]) (vs := [.ref a]) c F b hj I2 (.cons rfl .nil) rz q)
/-! ### properties -/
structure PrOk (Γ : PC) (cn f : Str) (C p g : Addr) : Prop where
  cl : ClsOk Γ cn C
  pr : PropOf Γ.K C f p g
def eProp (cn : Str) (ff : List D → M D) (fo : En → M D) : En → M D := fun ρ => (fo ρ).bind fun d => (fun h => match objF h d with
  | some (c, _) => if c = cn then noX (ff [d]) h else .no
  | none => .no)
theorem RG.in1 {k : Nat} {A : Around} (r : RG (k + 1) A) : RG k A.in1 := ⟨r.room.in1, r.gd⟩
theorem prop_ {pp g : Addr} (c : Cok Γ X W k N sc ow) (T : PrOk Γ cn fn C pp g) (F : Prom Γ j g ps (spI Γ.K Γ.mg ps.length ff)) (b : BndF Γ g ps 1 [] bd) (hbd : ∀ d, bd [d] [] = some [d]) (ho : DE X W o fo) (hj : j + 1 ≤ k := by decide) (hab : attributeBase o fn X.env (eval o X.env) = eval o X.env := by rfl) : DE X W (.Attribute o fn pos) (eProp cn ff fo) := by
  obtain ⟨fd, l1, F⟩ := F
  obtain ⟨fd', l2, bo⟩ := b
  obtain rfl := l1.uniq l2
  refine ⟨fun pins s σ H Q I ⟨w, hd, h, ρ, cu, k0⟩ => attr_of hab (thn (ho.run pins s σ H (fun v1 H1 => ∃ a dx xs w1 h1 d, v1 = .ref a ∧ H1 a = some (.ins C dx xs) ∧ Step w H w1 h1 H1 ∧ Cur X w1 hd h1 ρ σ H1 ∧ Dt w1 H1 (.ref a) d ∧ ((ff [d]) h1).wp (fun d h' => ∀ v H' w', Step w H w' h' H' → Dt w' H' v d → Q v H') (fun _ _ _ => False)) I ?_) fun u s1 ⟨v1, H1, I1, rx, a, dx, xs, w1, h1, d, e1, ea, s1', c1, td, q⟩ => ?_)⟩
  · refine tE.run cu (wp_bind.mp k0) (fun d h1 v1 H1 w1 q s1 c1 t1 => ?_) fun _ _ _ z => z
    cases eo : objF h1 d with
    | none => rw [eo] at q; exact q.elim
    | some r =>
      obtain ⟨cc, fs⟩ := r
      rw [eo] at q
      dsimp only at q
      split at q
      · rename_i hc
        subst hc
        obtain ⟨a, C', dx, xs, rfl, hg, e1, l1⟩ := objF_some c1.hr eo t1
        have hg' := hg
        rw [c1.mg] at hg'
        have hT := T.cl.mg
        rw [← c.pc] at hT
        have hT' : X.mg cc = some (.ref C) := hT
        rw [hg'] at hT'
        cases hT'
        exact ⟨a, dx, xs, w1, h1, d, rfl, e1, s1, c1, t1, wp_noX.mp q⟩
      · exact q.elim
  · subst e1
    obtain rfl : u = Value.ref a := rx
    have hpc := c.pc
    subst hpc
    obtain ⟨mA, O, _, _, _, _⟩ := ins_get I1.hok ea
    obtain ⟨od, J, _⟩ := O.look
    obtain ⟨rest, hrec⟩ := T.pr.rec_
    have I2 := I1.tok (s1.toks + 1)
    have hc : (PySem.W.clsIn X.K C).isSome = true := by
      obtain ⟨cd, hc, _⟩ := PySem.W.any_some T.cl.cl.hd
      rw [show (pcOf X).K = X.K from rfl] at hc
      rw [hc]
      rfl
    obtain ⟨us', vs', hl', hbd', rv', ht⟩ := bo { s1 with toks := s1.toks + 1 } [.ref a] [] [.ref a] [] I2.kIn rfl rfl (.cons rfl .nil) .nil
    refine PySem.W.get_bind I1.kIn J (PySem.W.plainGet_of (T.cl.cl.get fn)).1 (PySem.W.findObj_data hc T.pr.at_ T.pr.get T.pr.tak) (PySem.W.plainGet_of (T.cl.cl.get fn)).2 (wpAny_call (PySem.W.prop_get (s := { s1 with toks := s1.toks + 1 }) I1.kIn hrec ?_))
    have sp : spI X.K X.mg ps.length ff vs' H1 Q (fun _ _ _ => False) := ⟨by rw [rv'.length]; exact hl', w1, h1, [d], c1.K, c1.mg, c1.hr, ht w1 H1 [d] [] [d] c1.K c1.mg (.cons td .nil) .nil (hbd d), q.mono (fun d h' q v H' w' s => q v H' w' (s1'.trans s)) fun _ _ _ z => z.elim⟩
    refine codeAny_mono (F.run X.A.in1 X.stack { s1 with toks := s1.toks + 1 } H1 ⟨[.ref a], []⟩ us' vs' Q _ ((c.rg.mono hj).in1) I2.env0.in1 hbd' rv' sp) fun r s' hq => ?_
    cases r with
    | error er =>
      obtain ⟨_, _, _, _, _, _, _, _, _, _, _, _, _, _, _, _, z⟩ := XE.of_call (W := fun _ _ _ _ => False) I2 (fun cls d H' z => z) hq
      exact z.elim
    | ok fl =>
      cases fl with
      | ret u =>
        obtain ⟨v, H', I3, rv, q3⟩ := I2.after hq
        show wpAny _ _ (handedOut u) _ _ _
        rw [PySem.W.handedOut_of (handed_of rv)]
        exact wpAny_pure ⟨v, H', I3, rv, q3⟩
      | next => exact False.elim hq
      | brk => exact False.elim hq
      | cont => exact False.elim hq
end
end WR
set_option Elab.async false
set_option linter.all false
set_option autoImplicit false
set_option maxRecDepth 100000
set_option maxHeartbeats 4000000
namespace WR
open PySem PySem.Spec PyProof.Rows L2
section
variable {Γ : PC} {X : Cx} {B : Bs} {W : WX} {j k n m : Nat} {N : List Str} {sc ow : Scope} {e o v : Expr} {es : List Expr} {kws : List Keyword} {x : Str} {pos p apos : Pos} {f : Addr} {ps ks : List Str} {bd : List D → List D → Option (List D)} {fa fo fv : En → M D} {ga gk : En → M (List D)} {cs : List Str} {fn cn : Str} {C : Addr}
/-! ### comprehensions by where one stands -/
theorem takes_no {X : Cx} : Takes X wN := fun u s' ⟨_, _, _, _, _, _, _, _, _, _, _, _, _, _, _, _, z⟩ => z.elim
theorem Cok.blk (c : Cok Γ X W k N sc ow) (scope : Scope) (s : Shared) (H : Hp) (C : Addr) (cl : List (Str × Addr)) (fp : List Addr) : Cok Γ (Blk X scope s H C cl fp) wN k N (relS scope sc) scope where
  pc := c.pc
  hN := c.hN
  hsc := by
    show relS scope X.env.scope = relS scope sc
    rw [c.hsc]
  nd := c.nd
  nm := c.nm
  tk := takes_no
  ps := PassesOwn.never
  un := c.un
  gd := c.gd
  fn := fun x h => by
    show (scope.names.lookup x == some .cell) = true
    rw [h]
    rfl
  rg := c.rg
  calm := c.calm
theorem sw_line {elt : Expr} {gs : List Comprehension} {scope : Scope} {pos py : Pos} {y : Str} {l : Nat} {env : Env} (hl : (py.line == pos.line) = false) : swapsWith (.ListComp elt gs scope pos) (some (.Name y py)) l env = pure false := by
  unfold swapsWith
  simp only [Expr.pos, hl]
  simp only [Bool.and_false, Bool.false_and]
theorem sw_cell {elt : Expr} {gs : List Comprehension} {scope : Scope} {pos py : Pos} {y : Str} {l : Nat} {env : Env} (hy : env.scope.names.lookup y = some .cell) : swapsWith (.ListComp elt gs scope pos) (some (.Name y py)) l env = pure false := by
  have ky : env.kindOf y = some .cell := hy
  unfold swapsWith
  simp only [ky]
  have : ((some NameKind.cell : Option NameKind) == some NameKind.local) = false := by rfl
  simp only [this, Bool.and_false, Bool.false_and]
variable {elt tg iter : Expr} {ifs : List Expr} {spos : Pos} {ff : En → M D} {g : En → M (List D)} {tf : D → En → Option En} {t : En → M Bool} {scope : Scope} {own : List (Str × Nat)}
theorem lc_ (c : Cok Γ X W k N sc ow) (own : List (Str × Nat)) (hi : DI X W tg iter g) (ok : blkC N sc scope own = true) (hg : ∀ X', Cok Γ X' wN k N (relS scope sc) scope → DG X' tg tf (own.map (·.2))) (ht : ∀ X', Cok Γ X' wN k N (relS scope sc) scope → PTs X' ifs (tB0 X'.K X'.mg t))
    (he : ∀ X', Cok Γ X' wN k N (relS scope sc) scope → DE X' wN elt ff) (hf : ∀ x, foldedSetIterable iter X.env x = pure x := by intro _; rfl) : DO X W (.ListComp elt [⟨tg, iter, ifs, 0⟩] scope pos) (sizM (mLc g (own.map (·.2)) tf t ff)) :=
  do_lc c.calm (c.hN ▸ c.nd) hi (by rw [c.hN, c.hsc]; exact blkOk_by ok) (fun s H C cl fp => hg _ (c.blk scope s H C cl fp)) (fun s H C cl fp => ht _ (c.blk scope s H C cl fp)) (fun s H C cl fp => he _ (c.blk scope s H C cl fp)) hf
theorem setLc_ (c : Cok Γ X W k N sc ow) (y : Nat) {yn : Str} {py : Pos} (own : List (Str × Nat)) (hi : DI X W tg iter g) (ok : blkC N sc scope own = true) (hg : ∀ X', Cok Γ X' wN k N (relS scope sc) scope → DG X' tg tf (own.map (·.2))) (ht : ∀ X', Cok Γ X' wN k N (relS scope sc) scope → PTs X' ifs (tB0 X'.K X'.mg t))
    (he : ∀ X', Cok Γ X' wN k N (relS scope sc) scope → DE X' wN elt ff) (hk : sc.kind = .function := by rfl) (hl : (py.line == pos.line) = true := by rfl) (ha : (scope.names.any fun (n, k) => n == yn && (k == .local || k == .cell)) = false := by rfl) (hy : N[y]? = some yn := by rfl) (hyl : sc.names.lookup yn = some .local := by rfl) (hf : ∀ x, foldedSetIterable iter X.env x = pure x := by intro _; rfl) : DS X B W (.Assign [.Name yn py] (.ListComp elt [⟨tg, iter, ifs, 0⟩] scope pos) spos) (sAsg (eFz (sizM (mLc g (own.map (·.2)) tf t ff))) (tgN y)) :=
  s_setLc y c.calm (c.hN ▸ c.nd) (sw_true (by rw [c.hsc]; exact hk) (by rw [c.hsc]; exact hyl) hl ha) hi (by rw [c.hN, c.hsc]; exact blkOk_by ok) (fun s H C cl fp => hg _ (c.blk scope s H C cl fp)) (fun s H C cl fp => ht _ (c.blk scope s H C cl fp)) (fun s H C cl fp => he _ (c.blk scope s H C cl fp)) (c.ix hy) (by rw [c.hsc]; exact hyl) hf
theorem ownLc_ (c : Cok Γ X W k N sc ow) (y : Nat) {yn : Str} {py : Pos} (own : List (Str × Nat)) (hi : DI X W tg iter g) (ok : blkC N sc scope own = true) (hg : ∀ X', Cok Γ X' wN k N (relS scope sc) scope → DG X' tg tf (own.map (·.2))) (ht : ∀ X', Cok Γ X' wN k N (relS scope sc) scope → PTs X' ifs (tB0 X'.K X'.mg t))
    (he : ∀ X', Cok Γ X' wN k N (relS scope sc) scope → DE X' wN elt ff) (hk : sc.kind = .function := by rfl) (hl : (py.line == pos.line) = true := by rfl) (ha : (scope.names.any fun (n, k) => n == yn && (k == .local || k == .cell)) = false := by rfl) (hy : N[y]? = some yn := by rfl) (hyl : sc.names.lookup yn = some .local := by rfl) (hf : ∀ x, foldedSetIterable iter X.env x = pure x := by intro _; rfl) : DS X B W (.Assign [.Name yn py] (.ListComp elt [⟨tg, iter, ifs, 0⟩] scope pos) spos) (sOwn y (sizM (mLc g (own.map (·.2)) tf t ff))) :=
  s_ownLc y c.calm (c.hN ▸ c.nd) (sw_true (by rw [c.hsc]; exact hk) (by rw [c.hsc]; exact hyl) hl ha) hi (by rw [c.hN, c.hsc]; exact blkOk_by ok) (fun s H C cl fp => hg _ (c.blk scope s H C cl fp)) (fun s H C cl fp => ht _ (c.blk scope s H C cl fp)) (fun s H C cl fp => he _ (c.blk scope s H C cl fp)) (c.ix hy) (by rw [c.hsc]; exact hyl) hf
end
/-! ### C(..): a new instance -/
def spN (K : PySem.W.Frag) (mg : Str → Option Value) (C : Addr) (n : Nat) (f : List D → M (List (Str × D))) : Sp := fun vs H Q E => vs.length = n ∧ ∃ x rest H1 dx, vs = .ref x :: rest ∧ H = upd (upd H1 dx (.own x)) x (.ins C dx []) ∧ H1 x = none ∧ H1 dx = none ∧ dx ≠ x ∧
  ∃ w h ds, w.K = K ∧ w.mg = mg ∧ HR w h H1 ∧ DtL w H1 rest ds ∧
    ((f ds) h).wp (fun fs h' => ∀ H' w' xs dx', Step w H1 w' h' H' → w'.Z x → x ∉ w'.m → H' x = some (.ins C dx' xs) → DtF w' H' xs fs → Q .non H') (fun c fs h' => ∀ cls dx H' w', Step w H1 w' h' H' → ExD w' H' cls dx c fs → E cls dx H')
def startN (cn : Str) (n : Nat) (ds : List D) : En := some (.slf cn []) :: startE (n - 1) ds
def runN (cn : Str) (ar n : Nat) (F : MS) : List D → M (List (Str × D)) := fun ds h => if ds.length + 1 = ar then (match F (startN cn n ds) h with
  | .nx ρ h' => match slfS ρ 0 with
    | some (c, fs) => if c = cn then .ok fs h' else .no
    | none => .no
  | .ex c fs _ h' => .ex c fs h'
  | _ => .no) else .no
theorem Rep.cons {w : Wd} {hd : Hd} {H : Hp} {σ : L2.St} {ρ : En} {v : V} {s : Sl} (r : Rep w hd H σ ρ) (no : ∀ (i : Nat) (t : Sl), ρ[i]? = some (some t) → t.owned = false) (h : SlotR w hd H v s) : Rep w hd H (some v :: σ) (some s :: ρ) where
  len := by simp [r.len]
  at_ := fun i t q => by
    cases i with
    | zero =>
      simp at q
      subst q
      exact ⟨v, rfl, h⟩
    | succ i =>
      obtain ⟨u, h1, h2⟩ := r.at_ i t (by simpa using q)
      exact ⟨u, by simpa using h1, h2⟩
  ap := fun i j s t nn q1 q2 o1 o2 => by
    cases i with
    | succ i => rw [no i s (by simpa using q1)] at o1; cases o1
    | zero =>
      cases j with
      | zero => exact absurd rfl nn
      | succ j => rw [no j t (by simpa using q2)] at o2; cases o2
section
variable {Γ : PC} {k : Nat} {f C : Addr} {fd : FuncData} {N ps : List Str} {x qual : Str} {st : Stmt} {F : MS} {cn : Str}
/-- __init__ -/
theorem fn_denN (Fu : FunA Γ.K x qual st f fd) (Sc : FnScope N ps (defScope st)) (hn : nmsOk N = true) (hN : 0 < N.length) (hC : Γ.mg cn = some (.ref C)) (hbody : ∀ (X : Cx) (B : Bs) (W : WX), Fok Γ X W k N (defScope st) (defScope st) → DSs X B W (defBody st) F) :
    Prom Γ (k + 1) f ps (spN Γ.K Γ.mg C ps.length (runN cn ps.length N.length F)) := by
  refine ⟨fd, Fu.lk, fnA_of Fu Sc (fun vs H Q E h => h.1) fun cdv A outer s H vs Q E hr h => ?_⟩
  obtain ⟨hl, x0, rest, H1, dx, rfl, rfl, hx, hdx, ne, w, h, ds, hK, hm, hR, t, k0⟩ := h
  unfold runN at k0
  rw [if_pos (by rw [← t.length]; exact hl)] at k0
  have s1 := Step.grow hR (same_new (o := .own x0) hdx)
  have hx1 : upd H1 dx (.own x0) x0 = none := by rw [upd_ne ne.symm]; exact hx
  have s2 := Step.plus s1.hr hx1 (o := .ins C dx [])
  have s12 := s1.trans s2
  have nmx : x0 ∉ w.m := hR.nm hx
  have est : L2.start N (.ref x0 :: rest) = some (.ref x0) :: L2.start N.tail rest := by
    unfold L2.start
    have : N.length - (V.ref x0 :: rest).length = N.tail.length - rest.length := by simp; omega
    rw [this]
    rfl
  have rp : Rep (w.plus x0) none (upd (upd H1 dx (.own x0)) x0 (.ins C dx [])) (L2.start N (.ref x0 :: rest)) (startN cn N.length ds) := by
    rw [est]
    unfold startN
    have e1 : N.length - 1 = N.tail.length := by simp
    rw [e1]
    exact (rep_start (t.to (s12.to hR))).cons (fun i s q => startE_own q) ⟨x0, C, dx, [], rfl, .inr rfl, nmx, by show w.mg cn = _; rw [hm]; exact hC, upd_same, .nil⟩
  refine ⟨_, hbody _ ⟨w, H1, hR.dom, some x0⟩ _ (cok_body Sc hn hr), w.plus x0, none, h, startN cn N.length ds, ⟨⟨hK, hm, trivial, s2.hr, rp⟩, s12, fun i s a q o e => ?_⟩, ?_⟩
  · cases i with
    | zero =>
      rw [est] at e
      simp at e
      subst e
      exact ⟨hx, fun _ _ _ => rfl⟩
    | succ i =>
      unfold startN at q
      rw [startE_own (n := N.length - 1) (i := i) (ds := ds) (s := s) (by simpa using q)] at o
      cases o
  · cases q : F (startN cn N.length ds) h with
    | nx ρ' h' =>
      rw [q] at k0
      dsimp only at k0
      intro σ' H' w' _ c'
      cases es : slfS ρ' 0 with
      | none => rw [es] at k0; exact k0.elim
      | some r =>
        obtain ⟨cc, fs⟩ := r
        rw [es] at k0
        dsimp only at k0
        split at k0
        · rename_i hcc
          subst hcc
          have er := slfS_some es
          obtain ⟨u, e1, a, C', dx', xs, rfl, z, n, hg, e2, l1⟩ := c'.rp.at_ 0 _ er
          have ex := (c'.fr 0 _ a er rfl e1).2 _ _ rfl
          cases ex
          have hg' := hg
          rw [c'.mg] at hg'
          have hC' : Γ.mg cc = some (.ref C') := hg'
          rw [hC] at hC'
          cases hC'
          exact k0 H' w' xs dx' c'.bs z n e2 l1
        · exact k0.elim
    | rt d h' => rw [q] at k0; exact k0.elim
    | bk ρ' h' => rw [q] at k0; exact k0.elim
    | ct ρ' h' => rw [q] at k0; exact k0.elim
    | ex c fs ρ' h' => rw [q] at k0; exact fun cls dx σ' H' w' _ c' x' => k0 cls dx H' w' c'.bs x'
    | ro ds' h' => rw [q] at k0; exact k0.elim
    | no => rw [q] at k0; exact k0.elim
end
/-- what a class must have to be made -/
structure MkOk (Γ : PC) (cn : Str) (C f : Addr) : Prop where
  mg : Γ.mg cn = some (.ref C)
  mm : Mk Γ.K C f
/-- binding behind self -/
def spMk (K : PySem.W.Frag) (mg : Str → Option Value) (n m : Nat) (bd : List D → List D → Option (List D)) (ff : List D → M (List (Str × D))) (C : Addr) : List V → List V → Hp → VK → XK → Prop := fun vs zs H Q E => vs.length = n ∧ zs.length = m ∧ ∃ w h ds es as, w.K = K ∧ w.mg = mg ∧ HR w h H ∧ DtL w H vs ds ∧ DtL w H zs es ∧ bd ds es = some as ∧
  ((ff as) h).wp (fun fs h' => ∀ x H' w' xs dx', Step w H w' h' H' → H x = none → w'.Z x → x ∉ w'.m → H' x = some (.ins C dx' xs) → DtF w' H' xs fs → Q (.ref x) H') (fun c fs h' => ∀ cls dx H' w', Step w H w' h' H' → ExD w' H' cls dx c fs → E cls dx H')
/-- self first, then the parameters by bd -/
def BndN (Γ : PC) (f : Addr) (ps : List Str) (n : Nat) (ks : List Str) (bd : List D → List D → Option (List D)) : Prop := ∃ fd, LkF Γ.K f fd ∧
  ∀ (s : Shared) (self : Value) (us ws : List Value) (vs zs : List V), Γ.K.In s.heap → us.length = n → ws.length = ks.length → Vals vs us → Vals zs ws → ∃ us' vs', us'.length + 1 = ps.length ∧ BindsTo s fd ⟨self :: us, ks.zip ws⟩ (ps.zip (self :: us')) ∧ Vals vs' us' ∧
    ∀ (w : Wd) (H : Hp) (ds es ds' : List D), w.K = Γ.K → w.mg = Γ.mg → DtL w H vs ds → DtL w H zs es → bd ds es = some ds' → DtL w H vs' ds'
section
variable {Γ : PC} {X : Cx} {B : Bs} {W : WX} {j k n m : Nat} {N : List Str} {sc ow : Scope} {e o v : Expr} {es : List Expr} {kws : List Keyword} {pos p apos : Pos} {f C : Addr} {ps ks : List Str} {bd : List D → List D → Option (List D)} {ff : List D → M (List (Str × D))} {ga gk : En → M (List D)} {cn : Str}
theorem core_make {pins : List (Addr × Obj)} {σ : L2.St} {H : Hp} {s : Shared} {Q : VK} {us ws : List Value} {vs zs : List V} (c : Cok Γ X W k N sc ow) (T : MkOk Γ cn C f) (F : Prom Γ j f ps (spN Γ.K Γ.mg C ps.length ff)) (b : BndN Γ f ps n ks bd) (hj : j + 1 ≤ k)
    (I : Inv X pins σ H s) (rv : Vals vs us) (rz : Vals zs ws) (q : spMk X.K X.mg n ks.length bd ff C vs zs H Q fun cls dx H' => W cls dx σ H') : wpAny (model X.prog X.w) X.A (call (.ref C) us (ks.zip ws)) (EP X pins σ Q) X.xe s := by
  obtain ⟨fd, l1, F⟩ := F
  obtain ⟨fd', l2, bo⟩ := b
  obtain rfl := l1.uniq l2
  have hpc := c.pc
  subst hpc
  obtain ⟨hl, hz, w, h, ds, es, as, hK, hm, hR, t1, t2, hb, q⟩ := q
  have I2 := Inv.made (C := C) I
  have hx : H (s.heap.objs.size + 1) = none := I.hok.fresh (Nat.le_succ _)
  have hdx : H s.heap.objs.size = none := I.hok.fresh (Nat.le_refl _)
  have ne : s.heap.objs.size ≠ s.heap.objs.size + 1 := Nat.ne_of_lt (Nat.lt_succ_self _)
  obtain ⟨us', vs', hl', hbd, rv', ht⟩ := bo { s with heap := (s.heap.push PySem.W.emptyDict).push (PySem.W.instObj C s.heap.objs.size) } (.ref (s.heap.objs.size + 1)) us ws vs zs I2.kIn (by rw [← rv.length]; exact hl) (by rw [← rz.length]; exact hz) rv rz
  have r2 : Vals (V.ref (s.heap.objs.size + 1) :: vs') (Value.ref (s.heap.objs.size + 1) :: us') := .cons rfl rv'
  have sp : spN X.K X.mg C ps.length ff (.ref (s.heap.objs.size + 1) :: vs') (upd (upd H s.heap.objs.size (.own (s.heap.objs.size + 1))) (s.heap.objs.size + 1) (.ins C s.heap.objs.size [])) (fun v H2 => v = .non ∧ Q (.ref (s.heap.objs.size + 1)) H2) (fun cls dx H' => W cls dx σ H') :=
    ⟨by rw [List.length_cons, rv'.length]; exact hl', _, vs', H, _, rfl, rfl, hx, hdx, ne, w, h, as, hK, hm, hR, ht w H ds es as hK hm t1 t2 hb, q.mono (fun fs h' q H' w' xs dx' s z n e t => ⟨rfl, q _ H' w' xs dx' s hx z n e t⟩) fun _ _ _ z => z⟩
  refine wpAny_call (make_map (f := f) I.kIn T.mm.makes T.mm.init (beq_iff_eq.mp T.mm.fn) (codeAny_mono (F.run _ X.stack _ _ ⟨Value.ref (s.heap.objs.size + 1) :: us, ks.zip ws⟩ (Value.ref (s.heap.objs.size + 1) :: us') _ _ _ ((c.rg.mono hj).make C us (ks.zip ws))
    (I2.env0.make C us (ks.zip ws)) hbd r2 sp) fun r s' hq' => ?_))
  cases r with
  | error e => exact c.tk e s' (by
      have z := XE.of_call (W := fun cls d σ' H' => W cls d σ' H') I2 (E := fun cls dx H' => W cls dx σ H') (fun cls d H' z => z) hq'
      exact z)
  | ok fl =>
    cases fl with
    | ret u =>
      obtain ⟨v, H', I3, rv, ev, q3⟩ := I2.after hq'
      subst ev
      exact ⟨rv, ⟨V.ref (s.heap.objs.size + 1), H', I3, rfl, q3⟩⟩
    | next => exact False.elim hq'
    | brk => exact False.elim hq'
    | cont => exact False.elim hq'
def mkM (n m : Nat) (bd : List D → List D → Option (List D)) (ff : List D → M (List (Str × D))) (ga gk : En → M (List D)) : En → M (List (Str × D)) := fun ρ => (ga ρ).bind fun ds => (gk ρ).bind fun es => (M.of (if ds.length = n ∧ es.length = m then bd ds es else none)).bind ff
def eMk (cn : Str) (g : En → M (List (Str × D))) : En → M D := fun ρ => (g ρ).bind fun fs => M.pure (.obj cn fs)
def eMkL (cn : Str) (g : En → M (List (Str × D))) : En → M D := fun ρ => (g ρ).bind fun fs => newM (.obj cn fs)
/-- an instance of one's own -/
def tN (X : Cx) (W : WX) (C : Addr) (g : En → M (List (Str × D))) : TE := fun σ H Q => ∃ w hd h ρ, Cur X w hd h ρ σ H ∧
  ((g ρ) h).wp (fun fs h' => ∀ x H' w' xs dx', Step w H w' h' H' → H x = none → w'.Z x → x ∉ w'.m → H' x = some (.ins C dx' xs) → DtF w' H' xs fs → Q (.ref x) H') (fun c fs h' => ∀ cls dx H' w', Step w H w' h' H' → ExD w' H' cls dx c fs → W cls dx σ H')
def DN (X : Cx) (W : WX) (cn : Str) (e : Expr) (g : En → M (List (Str × D))) : Prop := ∃ C, X.mg cn = some (.ref C) ∧ PE X e (tN X W C g)
theorem args_N {C : Addr} {σ : L2.St} {H : Hp} {Q : VK} (z : tN X W C (mkM n m bd ff ga gk) σ H Q) : tL X W ga σ H fun vs H1 => tL X W gk σ H1 fun zs H2 => spMk X.K X.mg n m bd ff C vs zs H2 Q fun cls dx H' => W cls dx σ H' := by
  obtain ⟨w, hd, h, ρ, cu, k0⟩ := z
  refine tL.run cu (wp_bind.mp k0) (fun ds h1 vs H1 w1 q s1 c1 t1 => ?_) fun _ _ _ z => z
  refine tL.run c1 (wp_bind.mp q) (fun es h2 zs H2 w2 q s2 c2 t2 => ?_) fun _ _ _ z cls dx H' w' s => z cls dx H' w' (s1.trans s)
  obtain ⟨as, ha, q⟩ := wp_of.mp (wp_bind.mp q)
  split at ha
  · rename_i hl
    have s12 := s1.trans s2
    exact ⟨by rw [t1.length]; exact hl.1, by rw [t2.length]; exact hl.2, w2, h2, ds, es, as, c2.K, c2.mg, c2.hr, t1.to (s2.to c1.hr), t2, ha, q.mono (fun d h' q x H' w' xs dx' s hx => q x H' w' xs dx' (s12.trans s) (s12.there hx)) fun cc fs h' q cls dx H' w' s => q cls dx H' w' (s12.trans s)⟩
  · cases ha
theorem mkA_ (c : Cok Γ X W k N sc ow) (T : MkOk Γ cn C f) (F : Prom Γ j f ps (spN Γ.K Γ.mg C ps.length ff)) (b : BndN Γ f ps n [] bd) (ha : DA X W (e :: es) ga) (hj : j + 1 ≤ k := by decide) (hg : glB sc cn = true := by rfl) (hdb : (cn == ("__debug__" : Str)) = false := by rfl)
    (he : starEach (e :: es) X.env = (false, eval e X.env) :: starEach es X.env := by rfl) (hpl : (backTo pos (starEach es X.env)).any (·.1) = false := by rfl) : DN X W cn (.Call (.Name cn p) (e :: es) [] pos) (mkM n 0 bd ff ga aNil) := by
  have hpc := c.pc
  subst hpc
  refine ⟨C, T.mg, ⟨fun pins s σ H Q I z => wpAny_Call_Name_kw (ld_glob I (c.gl hg) T.mg (PySem.W.callWith_K (h₀ := X.base) I.ok.mod.kin T.mm.kp (thn (ha.run pos pins s σ H _ I (args_N z)) fun us s1 ⟨vs, H1, I1, rv, q⟩ => ⟨I1.kIn, ?_⟩) he hpl) hdb)⟩⟩
  obtain ⟨w, hd, h, ρ, cu, q⟩ := q
  exact core_make (zs := []) (ws := []) c T F b hj I1 rv .nil (q [] H1 w (Step.refl cu.hr) .nil)
theorem mkK_ (c : Cok Γ X W k N sc ow) (T : MkOk Γ cn C f) (F : Prom Γ j f ps (spN Γ.K Γ.mg C ps.length ff)) (b : BndN Γ f ps 0 ks bd) (hk : DK X W kws gk) (hj : j + 1 ≤ k := by decide) (hg : glB sc cn = true := by rfl) (hdb : (cn == ("__debug__" : Str)) = false := by rfl)
    (hall : (backToKw pos (keywordEach kws X.env)).all (·.1.isSome) = true := by rfl) (hks : (backToKw pos (keywordEach kws X.env)).filterMap (·.1) = ks := by rfl)
    (hpl : ((backTo pos (starEach [] X.env)).any (·.1) || (backToKw pos (keywordEach kws X.env)).any (·.1.isNone)) = false := by rfl) : DN X W cn (.Call (.Name cn p) [] kws pos) (mkM 0 ks.length bd ff aNil gk) := by
  have hpc := c.pc
  subst hpc
  refine ⟨C, T.mg, ⟨fun pins s σ H Q I z => wpAny_Call_Name_kw (ld_glob I (c.gl hg) T.mg (PySem.W.callWith_KW0 (h₀ := X.base) I.ok.mod.kin T.mm.kp hall (thn (hk.run pos pins s σ H (fun zs H2 => spMk X.K X.mg 0 ks.length bd ff C [] zs H2 Q fun cls dx H' => W cls dx σ H') I ?_) fun ws s2 ⟨zs, H2, I2, rz, q⟩ => ⟨I2.kIn, ?_⟩) hpl) hdb)⟩⟩
  · obtain ⟨w, hd, h, ρ, cu, q⟩ := args_N z
    exact q [] H w (Step.refl cu.hr) .nil
  · rw [hks]
    exact core_make (us := []) (vs := []) c T F b hj I2 .nil rz q
/-- an instance that is never changed -/
theorem d_mk {g : En → M (List (Str × D))} (h : DN X W cn e g) : DE X W e (eMk cn g) := by
  obtain ⟨C, hC, h⟩ := h
  exact PE.of h fun σ H Q ⟨w, hd, h, ρ, c, k⟩ => ⟨w, hd, h, ρ, c, (wp_bind.mp k).mono (fun fs h' q x H' w' xs dx' s hx z n e t =>
    q _ _ _ (s.frz c.hr hx n) (.obj (show w'.mg cn = _ by rw [s.mg, c.mg]; exact hC) e (fun q => q.2 rfl) (t.to To.minus))) fun _ _ _ z => z⟩
/-- an instance that may change -/
theorem d_mkL {g : En → M (List (Str × D))} (h : DN X W cn e g) : DE X W e (eMkL cn g) := by
  obtain ⟨C, hC, h⟩ := h
  exact PE.of h fun σ H Q ⟨w, hd, h, ρ, c, k⟩ => ⟨w, hd, h, ρ, c, (wp_bind.mp k).mono (fun fs h' q x H' w' xs dx' s hx z n e t => by
    obtain ⟨w2, e1, e2, e3, e4, r2, t2⟩ := loc_move s.hr z n (o := .obj cn fs) ⟨C, dx', xs, by rw [s.mg, c.mg]; exact hC, e, t⟩
    obtain ⟨m, hm, hf⟩ := s.m
    have s2 : Step w H w2 (h' ++ [.obj cn fs]) H' := ⟨e1.trans s.K, e2.trans s.mg, ⟨m ++ [x], by rw [e3, hm, List.append_assoc], fun a ha => by
      rcases List.mem_append.mp ha with ha | ha
      · exact hf a ha
      · simp at ha
        rw [ha]
        exact hx⟩, fun a z => by rw [e4]; exact s.up a z, fun a z => s.new a (by rw [← e4]; exact z), s.ext, r2⟩
    refine q _ _ _ s2 (.loc ?_)
    rw [e3, ← s.hr.len, List.getElem?_append_right (Nat.le_refl _)]
    simp) fun _ _ _ z => z⟩
end
end WR
set_option Elab.async false
set_option linter.all false
set_option autoImplicit false
set_option maxRecDepth 100000
set_option maxHeartbeats 4000000
namespace WR
open PySem PySem.Spec PyProof.Rows L2
/-- an error's class of the program, with its attribute -/
structure XErr (P : Program) (K : PySem.W.Frag) (mg : Str → Option Value) (x : Str) (C : Addr) (fld : Option Str) : Prop where
  cls : ∃ Bn newId B initId bmB fI, WT.XCls P K Bn newId B initId bmB C fI fld
  fld : ∀ f, fld = some f → WT.XFld f
  sup : mg "super" = none
  mg : mg x = some (.ref C)
  kp : PySem.W.keepIn K (.ref C) = true
  db : (x == ("__debug__" : Str)) = false
  rs : PySem.W.subIn K (.ref C) (.type "BaseException") = some true ∧ PySem.W.typeIn K (.ref C) = some (.type "type")
theorem gl_of {X : Cx} {pins : List (Addr × Obj)} {σ : L2.St} {H : Hp} {s : Shared} (I : Inv X pins σ H s) (hm : X.mg "super" = none) : WT.XGl s.heap := by
  obtain ⟨mb, h1, h2⟩ := I.mod.blt
  exact ⟨X.mg, mb, I.mod.glob.keeps I.bk, hm, h1.keeps I.bk, (h2 "super" (by decide)).trans (by decide +kernel)⟩
theorem depth_of {k : Nat} {A : Around} (hr : RG k A) : A.depth + 1 < recursionLimit := by
  have := hr.room.dp
  omega
/-! ### raise -/
def sRaise (cn f : Str) (fe : En → M D) : MS := fun ρ h => (fe ρ h).on ρ fun d h' => .ex cn [(f, d)] ρ h'
def sRaise0 (cn : Str) : MS := fun ρ h => .ex cn [] ρ h
section
variable {Γ : PC} {X : Cx} {B : Bs} {W : WX} {k : Nat} {N : List Str} {sc ow : Scope} {e : Expr} {x f : Str} {C : Addr} {p pos kpos : Pos} {fe : En → M D}
theorem raise_ (c : Cok Γ X W k N sc ow) (T : XErr Γ.P Γ.K Γ.mg x C (some f)) (h : DE X W e fe) (hg : glB sc x = true := by rfl) (he : starEach [e] X.env = (false, eval e X.env) :: starEach [] X.env := by rfl) : DS X B W (.Raise (some (.Call (.Name x p) [e] [] pos)) none kpos) (sRaise x f fe) := by
  have hpc := c.pc
  subst hpc
  obtain ⟨Bn, newId, Bb, initId, bmB, fI, Tc⟩ := T.cls
  have hR : Raises X (.ref C) := raises_own T.rs.1 T.rs.2
  refine PS.of (ps_raise (t := fun σ H Q => ∃ w hd h ρ, Cur X w hd h ρ σ H ∧ ((fe ρ) h).wp (fun d h' => ∀ cls dx H' w', Step w H w' h' H' → ExD w' H' cls dx x [(f, d)] → Q cls dx H') (fun c fs h' => ∀ cls dx H' w', Step w H w' h' H' → ExD w' H' cls dx c fs → W cls dx σ H')) c.calm c.tk fun pins s σ H Q I ⟨w, hd, hh, ρ, cu, k0⟩ => ?_) fun E σ H ⟨w, hd, hh, ρ, cu, k0⟩ => ⟨w, hd, hh, ρ, cu.toCur, (wp_on.mp k0).mono (fun d h' q cls dx H' w' s z => q cls dx σ H' w' (s.to cu.hr) (cu.step s) z) fun c' fs h' q cls dx H' w' s z => q cls dx σ H' w' (s.to cu.hr) (cu.step s) z⟩
  refine wpAny_Call_Name_kw (ld_glob I (c.gl hg) T.mg (PySem.W.callWith_K (h₀ := X.base) I.ok.mod.kin T.kp (thn ((da_cons h da_nil he).run pos pins s σ H (fun vs H1 => ∃ v d w1 h1, vs = [v] ∧ Step w H w1 h1 H1 ∧ Cur X w1 hd h1 ρ σ H1 ∧ Dt w1 H1 v d ∧ ∀ cls dx H' w', Step w H w' h1 H' → ExD w' H' cls dx x [(f, d)] → Q cls dx H') I ?_) fun us s1 z => ⟨?_, ?_⟩) he rfl) T.db)
  · refine ⟨w, hd, hh, ρ, cu, ?_⟩
    refine wp_bind.mpr (k0.mono (fun d h' q => ?_) fun _ _ _ z => z)
    intro vs H1 w1 s1 t1
    cases t1 with
    | cons t h2 =>
      cases h2
      exact ⟨_, d, w1, h', rfl, s1, cu.step s1, t, q⟩
  · obtain ⟨vs, H1, I1, _⟩ := z
    exact I1.kIn
  · obtain ⟨vs, H1, I1, rv, v, d, w1, h1, rfl, s1', c1, t1, q⟩ := z
    cases rv with
    | @cons _ u _ us' ru rx' =>
      cases rx'
      obtain ⟨hp, gs, dr, tk', os⟩ := s1
      refine wpAny_call (WT.x_made Tc T.fld (depth_of c.rg) I1.kIn (gl_of I1 T.sup) I1.nolimit .pos fun h' tk2 a m => ?_)
      obtain ⟨kk, ha, t1', dx, ho, d1, rfl, hd', hne, hn⟩ := m
      obtain ⟨Gp, g1, g2⟩ := restrict h' fun b => decide (b ≠ a)
      have gk : ∀ b, b ≠ a → Gp.get? b = h'.get? b := fun b hb => g1 b (decide_eq_true hb)
      have ga : Gp.get? a = none := g2 a (by simp)
      have fd := I1.hok.fresh hd'
      have fa := I1.hok.fresh ha
      have nha : ∀ {b : Addr} {o : Obj}, hp.get? b = some o → b ≠ a := fun {b o} z => Nat.ne_of_lt (Nat.lt_of_lt_of_le (Heap.lt_size z) ha)
      have I2 : Inv X pins σ (upd H1 d1 (.xd [(f, v)])) ⟨Gp, gs, dr, tk2, os⟩ := I1.laid (t' := tk2) (h' := Gp) (o := .xd [(f, v)]) (fun b o z => by rw [gk b (nha z)]; exact kk b o z) hd' ⟨_, hn.at fun o z => by rw [gk d1 hne]; exact z, relO_put (fs := []) ru fun _ => True.intro⟩
      have s2 := Step.grow c1.hr (same_new (o := .xd [(f, v)]) fd)
      refine ⟨a, _, _, ⟨Gp, gs, dr, tk2, os⟩, upd H1 d1 (.xd [(f, v)]), .ref C, some d1, rfl, I2, fun b o z => ?_, ga, ho, ⟨rfl, rfl⟩, rfl, rfl, by rw [upd_ne hne.symm]; exact fa, rfl, I1.bare, hR, q _ _ _ w1 (s1'.trans s2) ⟨C, by rw [c1.mg]; exact T.mg, rfl, .inr ⟨d1, _, rfl, upd_same, c1.hr.nz fd, .cons (t1.to (To.grow (same_new fd))) .nil⟩⟩⟩
      by_cases hb : b = a
      · rw [hb, ga] at z
        cases z
      · rw [← gk b hb]
        exact z
theorem raise0_ (c : Cok Γ X W k N sc ow) (T : XErr Γ.P Γ.K Γ.mg x C none) (hg : glB sc x = true := by rfl) : DS X B W (.Raise (some (.Call (.Name x p) [] [] pos)) none kpos) (sRaise0 x) := by
  have hpc := c.pc
  subst hpc
  obtain ⟨Bn, newId, Bb, initId, bmB, fI, Tc⟩ := T.cls
  have hR : Raises X (.ref C) := raises_own T.rs.1 T.rs.2
  refine PS.of (ps_raise (t := fun σ H Q => Q (.ref C) none H) c.calm c.tk fun pins s σ H Q I q => ?_) fun E σ H ⟨w, hd, hh, ρ, cu, k0⟩ => k0 (.ref C) none σ H w To.refl cu ⟨C, by rw [cu.mg]; exact T.mg, rfl, .inl ⟨rfl, rfl⟩⟩
  refine wpAny_Call_Name_kw (ld_glob I (c.gl hg) T.mg (PySem.W.callWith_K0 I.kIn T.kp ?_) T.db)
  obtain ⟨hp, gs, dr, tk', os⟩ := s
  refine wpAny_call (WT.x_made Tc T.fld (depth_of c.rg) I.kIn (gl_of I T.sup) I.nolimit .non fun h' tk2 a m => ?_)
  obtain ⟨kk, ha, t1, dx, ho, rfl⟩ := m
  have na : hp.get? a = none := by
    cases z : hp.get? a with
    | none => rfl
    | some o => exact absurd (Nat.lt_of_lt_of_le (Heap.lt_size z) ha) (Nat.lt_irrefl _)
  exact ⟨a, _, _, ⟨hp, gs, dr, tk', os⟩, H, .ref C, none, rfl, I, kk, na, ho, ⟨rfl, rfl⟩, rfl, rfl, I.hok.fresh ha, rfl, I.bare, hR, q⟩
end
/-! ### try .. except -/
/-- no slot holds an error -/
def noE (ρ : En) : Bool := ρ.all fun s => match s with
  | some (.exn _ _) => false
  | _ => true
/-- behind a suite: the name i is unset; nothing is raised there -/
def endS (i : Option Nat) (r : SR) : SR := match i with
  | none => (match r with
    | .ex _ _ _ _ => .no
    | r => r)
  | some i => match r with
    | .nx ρ h => if noE (ρ.set i none) = true then .nx (ρ.set i none) h else .no
    | .bk ρ h => if noE (ρ.set i none) = true then .bk (ρ.set i none) h else .no
    | .ct ρ h => if noE (ρ.set i none) = true then .ct (ρ.set i none) h else .no
    | .ex _ _ _ _ => .no
    | r => r
structure Hdl where
  x : Str
  i : Option Nat
  F : MS
/-- which clause takes an error of class c: by the table sub -/
def hdlM (sub : Str → Str → Option Bool) (c : Str) (fs : List (Str × D)) : List Hdl → MS
  | [] => fun _ _ => .no
  | d :: r => fun ρ h => match sub c d.x with
    | some true => (match d.i with
      | none => endS none (d.F ρ h)
      | some i => endS (some i) (d.F (ρ.set i (some (.exn c fs))) h))
    | some false => hdlM sub c fs r ρ h
    | none => .no
def sTry (sub : Str → Str → Option Bool) (F : MS) (hs : List Hdl) : MS := fun ρ h => match F ρ h with
  | .ex c fs ρ' h' => if noE ρ' = true then hdlM sub c fs hs ρ' h' else .no
  | r => r
/-- the table is right -/
def SubOk (K : PySem.W.Frag) (mg : Str → Option Value) (sub : Str → Str → Option Bool) : Prop := ∀ c x b, sub c x = some b → ∀ C, mg c = some (.ref C) → ∃ cv, (mg x = some cv ∨ (mg x = none ∧ bootBuiltins x = some cv ∧ x ≠ "__name__")) ∧ PySem.W.exmOne K (.ref C) cv = some b
section
variable {Γ : PC} {X : Cx} {B : Bs} {W : WX} {k : Nat} {N : List Str} {sc ow : Scope} {body : List Stmt} {h₀ : ExceptHandler} {hds : List ExceptHandler} {pos : Pos} {F : MS}
/-- the context of a suite -/
structure Sok (Γ : PC) (X : Cx) (N : List Str) (sc ow : Scope) : Prop extends Bok Γ X wN N sc ow
/-- the clauses -/
inductive HdD (Γ : PC) (B : Bs) (N : List Str) (sc ow : Scope) : List Hdl → List ExceptHandler → Prop
  | nil : HdD Γ B N sc ow [] []
  | cons {x : Str} {F : MS} {b₀ : Stmt} {suite : List Stmt} {np pos' : Pos} {r : List Hdl} {hds : List ExceptHandler} (hg : glB sc x = true) (hdb : (x == ("__debug__" : Str)) = false) (h : ∀ X', Bok Γ X' wN N sc ow → DSs X' B wN (b₀ :: suite) F) (t : HdD Γ B N sc ow r hds) :
      HdD Γ B N sc ow (⟨x, none, F⟩ :: r) (.ExceptHandler (some (.Name x np)) none (b₀ :: suite) pos' :: hds)
  | as {x n : Str} {i : Nat} {F : MS} {b₀ : Stmt} {suite : List Stmt} {np pos' : Pos} {r : List Hdl} {hds : List ExceptHandler} (hg : glB sc x = true) (hdb : (x == ("__debug__" : Str)) = false) (hi : N[i]? = some n) (hln : sc.names.lookup n = some .local) (h : ∀ X', Bok Γ X' wN N sc ow → DSs X' B wN (b₀ :: suite) F) (t : HdD Γ B N sc ow r hds) :
      HdD Γ B N sc ow (⟨x, some i, F⟩ :: r) (.ExceptHandler (some (.Name x np)) (some n) (b₀ :: suite) pos' :: hds)
theorem noE_at {ρ : En} (h : noE ρ = true) {i : Nat} {c : Str} {fs : List (Str × D)} (q : ρ[i]? = some (some (.exn c fs))) : False := by
  have := List.all_eq_true.mp h _ (List.mem_of_getElem? q)
  cases this
theorem Rep.hd {w : Wd} {hd hd' : Hd} {H : Hp} {σ : L2.St} {ρ : En} (r : Rep w hd H σ ρ) (h : noE ρ = true) : Rep w hd' H σ ρ where
  len := r.len
  at_ := fun i s q => by
    obtain ⟨v, h1, h2⟩ := r.at_ i s q
    refine ⟨v, h1, ?_⟩
    cases s with
    | val d => exact h2
    | own ds => exact h2
    | slf c fs => exact h2
    | exn c fs => exact (noE_at h q).elim
  ap := r.ap
theorem Rep.setX {w : Wd} {hd : Hd} {H : Hp} {σ : L2.St} {ρ : En} {i : Nat} {v : V} {c : Str} {fs : List (Str × D)} (r : Rep w hd H σ ρ) (t : SlotR w hd H v (.exn c fs)) : Rep w hd H (σ.set i (some v)) (ρ.set i (some (.exn c fs))) where
  len := by simp [r.len]
  at_ := fun j s q => by
    rcases set_some q with ⟨rfl, rfl, hi⟩ | ⟨hj, q⟩
    · exact ⟨v, by rw [List.getElem?_set_self (by rw [r.len]; exact hi)], t⟩
    · obtain ⟨u, h1, h2⟩ := r.at_ j s q
      exact ⟨u, by rw [List.getElem?_set_ne (Ne.symm hj)]; exact h1, h2⟩
  ap := fun j k s t' nn q1 q2 o1 o2 => by
    rcases set_some q1 with ⟨rfl, rfl, _⟩ | ⟨hj, q1⟩
    · cases o1
    · rcases set_some q2 with ⟨rfl, rfl, _⟩ | ⟨hk, q2⟩
      · cases o2
      · rw [List.getElem?_set_ne (Ne.symm hj), List.getElem?_set_ne (Ne.symm hk)]
        exact r.ap j k s t' nn q1 q2 o1 o2
/-- the clauses at work: the error lies at a -/
theorem handle_ok {sub : Str → Str → Option Bool} {pins : List (Addr × Obj)} {Ed : Ends} {Bh : Heap} {s3 : Shared} {σ : L2.St} {H : Hp} {a : Addr} {cls : Value} {dx : Option Addr} {w w0 : Wd} {H0 : Hp} {h : IH} {ρ : En} {c : Str} {fs : List (Str × D)} (c0 : Fok Γ X W k N sc ow) (sb : SubOk Γ.K Γ.mg sub) (ok : X.Ok)
    (J : ∀ h4, Bh.StaysIn h4 → s3.heap.UpToSlots h4 → Inv X pins σ H { s3 with heap := h4 }) (fl : HandSPX.FlyingZ Bh (X.env :: X.outer) a (Zc cls dx) s3.heap) (na : H a = none) (nL : a ≠ X.env.locals) (nF : a ∉ X.fs) (us : s3.heap.UpToSlots s3.heap)
    (to : To w0 H0 w H) (st : StR X B w none h ρ σ H) (hno : noE ρ = true) (z : ExD w H cls dx c fs) {hs : List Hdl} {hh : List ExceptHandler} (hd : HdD Γ B N sc ow hs hh) (k0 : (hdlM sub c fs hs ρ h).wp (outS X B W w0 none H0 Ed)) :
      wpAny (model X.prog X.w) X.A (handleBy (.ref a) X.env hh) (SP X pins Ed) X.xe s3 := by
  obtain ⟨C, hC, rfl, hfs⟩ := z
  have hCX : X.mg c = some (.ref C) := by rw [← st.mg]; exact hC
  have hCG : Γ.mg c = some (.ref C) := by rw [← c0.pc]; exact hCX
  have test : ∀ {x : Str} {cv : Value} {np : Pos} {Q : Value → Shared → Prop} {E : Value → Shared → Prop}, Names X x cv → Q cv s3 → wpAny (model X.prog X.w) (X.A.mark (some (.ref a))) (eval (.Name x np) X.env) Q E s3 := fun {x cv np Q E} hc q => by
    obtain ⟨oe, vs, he, hz, hdd⟩ := fl.there
    have S3 := (J s3.heap fl.1 us).suite he hdd na nL nF
    obtain ⟨hg, hdbg, hm | ⟨hm, hv, hnn⟩⟩ := hc
    · exact ld_glob (X := X.suite a ((a, oe) :: (X.pn ++ pins))) S3 hg hm q hdbg
    · exact ld_blt (X := X.suite a ((a, oe) :: (X.pn ++ pins))) S3 hg hm hv q hnn hdbg
  have ask : ∀ {cv : Value} {b : Bool}, PySem.W.exmOne X.K (.ref C) cv = some b → PySem.W.Looks (model X.prog X.w) s3.heap (excMatches (.ref a) cv) b := fun {cv b} e => by
    obtain ⟨oe, vs, he, hz, hdd⟩ := fl.there
    exact PySem.W.exm_one (M := model X.prog X.w) (e := a) (cls := .ref C) (J s3.heap fl.1 us).kIn (fun A Q E s k q => wpAny_typeOf_ref (k _ _ he) (by rw [hz.1]; exact q)) e
  have names : ∀ {x : Str} {b : Bool}, glB sc x = true → (x == ("__debug__" : Str)) = false → sub c x = some b → ∃ cv, Names X x cv ∧ PySem.W.exmOne X.K (.ref C) cv = some b := fun {x b} hg hdb hs => by
    obtain ⟨cv, h1, h2⟩ := sb c x b hs C hCG
    have e1 := c0.pc
    subst e1
    exact ⟨cv, ⟨c0.gl hg, hdb, h1⟩, h2⟩
  have bok : ∀ (oe : Obj) (pn : List (Addr × Obj)), Bok Γ (X.suite a ((a, oe) :: pn)) wN N sc ow := fun oe pn =>
    { pc := c0.pc, hN := c0.hN, hsc := c0.hsc, nd := c0.nd, nm := c0.nm, tk := takes_no, ps := PassesOwn.never, un := c0.un, gd := c0.gd, fn := c0.fn }
  induction hd with
  | nil => exact k0.elim
  | @cons x F b₀ suite np pos' r hds hg hdb hF t ih =>
    unfold hdlM at k0
    dsimp only at k0
    refine wpAny_handleBy_cons (codeAny_handlers_test ?_) (by intro q; cases q)
    split at k0
    · rename_i hs
      obtain ⟨cv, hn, he1⟩ := names hg hdb hs
      refine test hn ((ask he1).here (codeAny_handlers_suite (HandSPX.lands_againZ fl fun h4 fl4 up4 => ?_)))
      obtain ⟨oe, vs, he, hz, hdd⟩ := fl4.there
      have S4 := (J h4 fl4.1 up4).suite he hdd na nL nF
      have st' : StR (X.suite a ((a, oe) :: (X.pn ++ pins))) B w none h ρ σ H := ⟨⟨st.K, st.mg, trivial, st.hr, st.rp⟩, st.bs, st.fr⟩
      have back : ∀ {w' : Wd} {h' : IH} {ρ' : En} {σ' : L2.St} {H' : Hp}, StR (X.suite a ((a, oe) :: (X.pn ++ pins))) B w' none h' ρ' σ' H' → StR X B w' none h' ρ' σ' H' := fun c' => ⟨⟨c'.K, c'.mg, trivial, c'.hr, c'.rp⟩, c'.bs, c'.fr⟩
      refine wpAny_mono ((hF _ (bok oe _)).run [] _ σ H Ed S4 ⟨w, none, h, ρ, st', ?_⟩) (fun fw s6 hq => ?_) (fun _ _ z => z.elim)
      · unfold endS at k0
        dsimp only at k0
        cases q : F ρ h with
        | nx ρ' h' => rw [q] at k0; exact fun σ' H' w' t' c' => k0 σ' H' w' (to.trans t') (back c')
        | rt d h' => rw [q] at k0; exact k0
        | bk ρ' h' => rw [q] at k0; exact fun σ' H' w' t' c' => k0 σ' H' w' (to.trans t') (back c')
        | ct ρ' h' => rw [q] at k0; exact fun σ' H' w' t' c' => k0 σ' H' w' (to.trans t') (back c')
        | ex c' fs' ρ' h' => rw [q] at k0; exact k0.elim
        | ro ds h' => rw [q] at k0; exact k0
        | no => rw [q] at k0; exact k0.elim
      · cases fw with
        | ret u => exact let ⟨v, σ', H', J', rv, q⟩ := hq; ⟨v, σ', H', J'.unsuite ok, rv, q⟩
        | _ => exact let ⟨σ', H', J', q⟩ := hq; ⟨σ', H', J'.unsuite ok, q⟩
    · rename_i hs
      obtain ⟨cv, hn, he1⟩ := names hg hdb hs
      exact test hn ((ask he1).here (ih k0))
    · exact k0.elim
  | @as x n i F b₀ suite np pos' r hds hg hdb hi hln hF t ih =>
    unfold hdlM at k0
    dsimp only at k0
    refine wpAny_handleBy_cons (codeAny_handlers_test ?_) (by intro q; cases q)
    split at k0
    · rename_i hs
      obtain ⟨cv, hn, he1⟩ := names hg hdb hs
      refine test hn ((ask he1).here (codeAny_handlers_suite_as (HandSPX.lands_againZ fl fun h4 fl4 up4 => ?_)))
      obtain ⟨oe, vs, he, hz, hdd⟩ := fl4.there
      have S4 := (J h4 fl4.1 up4).suite he hdd na nL nF
      have hlnX : X.env.kindOf n = some .local := by
        show X.env.scope.names.lookup n = _
        rw [c0.hsc]
        exact hln
      have hNX : X.N.Nodup := c0.hN ▸ c0.nd
      have hiX := c0.ix hi
      refine store_ok (X := X.suite a ((a, oe) :: (X.pn ++ pins))) (v := .ref a) S4 hNX hiX (.inl hlnX) rfl (fun s5 S5 => ?_) (.inr hlnX)
      have hk' : HdOk (X.suite a ((a, oe) :: (X.pn ++ pins))) (some (a, dx, C)) := ⟨X, oe, X.pn ++ pins, rfl, hz, _, hdd⟩
      have st' : StR (X.suite a ((a, oe) :: (X.pn ++ pins))) B w (some (a, dx, C)) h (ρ.set i (some (.exn c fs))) (σ.set i (some (.ref a))) H := by
        refine ⟨⟨st.K, st.mg, hk', st.hr, (st.rp.hd hno).setX ⟨a, dx, C, rfl, rfl, hC, hfs.imp (fun ⟨q1, q2⟩ => ⟨q2, q1⟩) id⟩⟩, st.bs, fun j s b q o e => ?_⟩
        rcases set_some q with ⟨rfl, rfl, _⟩ | ⟨hj, q⟩
        · cases o
        · rw [List.getElem?_set_ne (Ne.symm hj)] at e
          exact st.fr j s b q o e
      have back : ∀ {w' : Wd} {h' : IH} {ρ' : En} {σ' : L2.St} {H' : Hp}, noE (ρ'.set i none) = true → StR (X.suite a ((a, oe) :: (X.pn ++ pins))) B w' (some (a, dx, C)) h' ρ' σ' H' → StR X B w' none h' (ρ'.set i none) (σ'.set i none) H' := fun {w' h' ρ' σ' H'} hn' c' => by
        refine ⟨⟨c'.K, c'.mg, trivial, c'.hr, (c'.rp.unset i).hd hn'⟩, c'.bs, fun j s b q o e => ?_⟩
        obtain ⟨hj, q⟩ := set_none q
        rw [List.getElem?_set_ne (Ne.symm hj)] at e
        exact c'.fr j s b q o e
      refine wpAny_mono ((hF _ (bok oe _)).run [] s5 _ H { nx := fun σ' H' => Ed.nx (σ'.set i none) H', rt := Ed.rt, bk := fun σ' H' => Ed.bk (σ'.set i none) H', ct := fun σ' H' => Ed.ct (σ'.set i none) H' } S5 ⟨w, some (a, dx, C), h, _, st', ?_⟩) (fun fw s6 hq => ?_) (fun _ _ z => z.elim)
      · unfold endS at k0
        dsimp only at k0
        cases q : F (ρ.set i (some (.exn c fs))) h with
        | nx ρ' h' =>
          rw [q] at k0
          dsimp only at k0
          split at k0
          · rename_i hn'
            exact fun σ' H' w' t' c' => k0 _ H' w' (to.trans t') (back hn' c')
          · exact k0.elim
        | rt d h' => rw [q] at k0; exact k0
        | bk ρ' h' =>
          rw [q] at k0
          dsimp only at k0
          split at k0
          · rename_i hn'
            exact fun σ' H' w' t' c' => k0 _ H' w' (to.trans t') (back hn' c')
          · exact k0.elim
        | ct ρ' h' =>
          rw [q] at k0
          dsimp only at k0
          split at k0
          · rename_i hn'
            exact fun σ' H' w' t' c' => k0 _ H' w' (to.trans t') (back hn' c')
          · exact k0.elim
        | ex c' fs' ρ' h' => rw [q] at k0; exact k0.elim
        | ro ds h' => rw [q] at k0; exact k0
        | no => rw [q] at k0; exact k0.elim
      · cases fw with
        | ret u => exact let ⟨v, σ', H', J', rv, q⟩ := hq; gone_ok (J'.unsuite ok) hNX hiX hlnX fun s7 J7 => ⟨v, _, H', J7, rv, q⟩
        | _ => exact let ⟨σ', H', J', q⟩ := hq; gone_ok (J'.unsuite ok) hNX hiX hlnX fun s7 J7 => ⟨_, H', J7, q⟩
    · rename_i hs
      obtain ⟨cv, hn, he1⟩ := names hg hdb hs
      exact test hn ((ask he1).here (ih k0))
    · exact k0.elim
theorem try_ {sub : Str → Str → Option Bool} {hs : List Hdl} (c : Fok Γ X W k N sc ow) (sb : SubOk Γ.K Γ.mg sub) (hb : ∀ X' W', Cok Γ X' W' k N sc ow → DSs X' B W' body F) (hh : HdD Γ B N sc ow hs (h₀ :: hds)) : DS X B W (.Try body (h₀ :: hds) [] [] pos) (sTry sub F hs) := by
  refine ⟨fun pins s σ H Ed I ⟨w, hd, h, ρ, cu, k0⟩ => ?_⟩
  obtain rfl := calm_hd c.calm cu.hk
  have ok := I.ok
  have hfr : X.A.frames = some (X.env :: X.outer) := by rw [ok.frames, c.stk]
  have stT : ∀ {pn xe} {w' : Wd} {h' : IH} {ρ' : En} {σ' : L2.St} {H' : Hp}, StR X B w' none h' ρ' σ' H' → StR (X.tr pn xe) B w' none h' ρ' σ' H' := fun c' => ⟨⟨c'.K, c'.mg, trivial, c'.hr, c'.rp⟩, c'.bs, c'.fr⟩
  have stF : ∀ {pn xe} {w' : Wd} {h' : IH} {ρ' : En} {σ' : L2.St} {H' : Hp}, StR (X.tr pn xe) B w' none h' ρ' σ' H' → StR X B w' none h' ρ' σ' H' := fun c' => ⟨⟨c'.K, c'.mg, trivial, c'.hr, c'.rp⟩, c'.bs, c'.fr⟩
  let W' : WX := fun cls dx σ' H' => ∃ w' h' ρ' c' fs', To w H w' H' ∧ StR X B w' none h' ρ' σ' H' ∧ ExD w' H' cls dx c' fs' ∧ noE ρ' = true ∧ (hdlM sub c' fs' hs ρ' h').wp (outS X B W w none H Ed)
  refine wpAny_Try_except (wpAny_mono ((hb (X.tr (X.pn ++ pins) _) W' { pc := c.pc, hN := c.hN, hsc := c.hsc, nd := c.nd, nm := c.nm, tk := ?tk, ps := PassesOwn.looking, un := c.un, gd := c.gd, fn := c.fn, rg := c.rg, calm := c.calm }).run [] s σ H Ed (I.toTry _) ⟨w, none, h, ρ, stT cu, ?_⟩) (fun fw s1 hq => ?_) (fun _ _ z => z))
  case tk =>
    intro u s' xx
    obtain ⟨a, Bh, sI, pins', σ', H', cls, dx, rfl, J', nb, up, sky, na, os, ag, w', h', ρ', c', fs', to, st, z, hno, k1⟩ := xx
    have J0 : Inv X pins σ' H' sI := J'.ofTry ok
    show wpAny (model X.prog X.w) X.A (noteFrame (.ref a) X.env) _ _ _
    refine Sky.land Zc.steady hfr c.frm (c.stk ▸ sky) fun h3 fl3 up3 => ?_
    obtain ⟨oe, vs, he, hz, hdd⟩ := fl3.there
    have nfr : a ∉ frs (X.env :: X.outer) := fun hm => by
      obtain ⟨_, o', e', hnf⟩ := fl3.2.2.1.mem hm
      rw [he] at e'
      cases e'
      exact hnf _ hdd
    have nL : a ≠ X.env.locals := fun z => nfr (List.mem_filterMap.mpr ⟨X.env, List.mem_cons_self, by rw [c.frm, z]⟩)
    have nF : a ∉ X.fs := fun hm => by
      obtain ⟨e, h1, h2⟩ := List.mem_filterMap.mp hm
      exact nfr (List.mem_filterMap.mpr ⟨e, List.mem_cons_of_mem _ h1, h2⟩)
    exact handle_ok (s3 := { s' with heap := h3 }) c sb ok (fun h4 st' up4 => J0.landed nb st' ((up.trans up3).trans up4) os ag) fl3 na nL nF (Heap.UpToSlots.of_keeps fun _ _ z => z) to st hno z hh k1
  · unfold sTry at k0
    cases q : F ρ h with
    | nx ρ' h' => rw [q] at k0; exact fun σ' H' w' t' c' => k0 σ' H' w' t' (stF c')
    | rt d h' => rw [q] at k0; exact k0
    | bk ρ' h' => rw [q] at k0; exact fun σ' H' w' t' c' => k0 σ' H' w' t' (stF c')
    | ct ρ' h' => rw [q] at k0; exact fun σ' H' w' t' c' => k0 σ' H' w' t' (stF c')
    | ex c' fs' ρ' h' =>
      rw [q] at k0
      dsimp only at k0
      split at k0
      · rename_i hno
        exact fun cls dx σ' H' w' t' c'' x' => ⟨w', h', ρ', c', fs', t', stF c'', x', hno, k0⟩
      · exact k0.elim
    | ro ds h' => rw [q] at k0; exact k0
    | no => rw [q] at k0; exact k0.elim
  · cases fw with
    | next => exact let ⟨σ', H', J', q⟩ := hq; wpAny_execs_nil ⟨σ', H', J'.ofTry ok, q⟩
    | ret u => exact let ⟨v, σ', H', J', rv, q⟩ := hq; ⟨v, σ', H', J'.ofTry ok, rv, q⟩
    | _ => exact let ⟨σ', H', J', q⟩ := hq; ⟨σ', H', J'.ofTry ok, q⟩
end
end WR
set_option Elab.async false
set_option linter.all false
set_option autoImplicit false
set_option maxRecDepth 100000
set_option maxHeartbeats 4000000
namespace WR
open PySem PySem.Spec PyProof.Rows L2
/-! ### the error that a suite holds -/
def excS (ρ : En) (i : Nat) : Option (Str × List (Str × D)) := match ρ[i]? with
  | some (some (.exn c fs)) => some (c, fs)
  | _ => none
theorem excS_some {ρ : En} {i : Nat} {c : Str} {fs : List (Str × D)} (h : excS ρ i = some (c, fs)) : ρ[i]? = some (some (.exn c fs)) := by
  unfold excS at h
  split at h
  · cases h; assumption
  · cases h
def eXis (tb : Str → D → Option Bool) (i : Nat) (t : D) : En → M D := fun ρ => M.of ((excS ρ i).bind fun r => (tb r.1 t).map .bl)
/-- isinstance of errors, by a table -/
def XtOk (K : PySem.W.Frag) (mg : Str → Option Value) (tb : Str → D → Option Bool) : Prop := ∀ c t b, tb c t = some b → ∀ C, mg c = some (.ref C) → ExcC K C ∧ ((∃ n, t = .ty n ∧ PySem.W.kitOne K (.ref C) (.type n) = some b) ∨ ∃ x, t = .glo x ∧ ∀ tv, mg x = some tv → PySem.W.kitOne K (.ref C) tv = some b)
theorem boot_isinst : bootBuiltins "isinstance" = some (.builtin "isinstance") := by decide +kernel
section
variable {Γ : PC} {X : Cx} {W : WX} {N : List Str} {sc ow : Scope} {e : Expr} {x f : Str} {p p1 pos : Pos}
theorem xis_ {tb : Str → D → Option Bool} {t : D} (c : Bok Γ X W N sc ow) (i : Nat) (T : XtOk Γ.K Γ.mg tb) (he : DE X W e (eCst t)) (hm : Γ.mg "isinstance" = none) (h : N[i]? = some x := by rfl) (hv : visB sc x = true := by rfl) (hg : glB sc "isinstance" = true := by rfl) (hs : starEach [e] X.env = [(false, eval e X.env)] := by rfl) (hpl : (backTo pos (starEach [e] X.env)).any (·.1) = false := by rfl) : DE X W (.Call (.Name "isinstance" p) [.Name x p1, e] [] pos) (eXis tb i t) := by
  have hpc := c.pc
  subst hpc
  refine ⟨fun pins s σ H Q I ⟨w, hd, hh, ρ, cu, k0⟩ => ?_⟩
  obtain ⟨d, hd0, k1⟩ := wp_of.mp k0
  obtain ⟨⟨cc, fs⟩, hex, hb⟩ := Option.bind_eq_some_iff.mp hd0
  obtain ⟨b, hb2, rfl⟩ := Option.map_eq_some_iff.mp hb
  obtain ⟨v, e1, a, dx, C, rfl, rfl, hC, hfs⟩ := cu.rp.at_ i _ (excS_some hex)
  obtain ⟨X0, oe, pn, hX, hz, hf⟩ := cu.hk
  have hCX : X.mg cc = some (.ref C) := by rw [← cu.mg]; exact hC
  obtain ⟨A, ht⟩ := T cc t b hb2 C hCX
  have go : CallR X (.builtin "isinstance") (fun xs H' Q' => ∃ cv uv, xs = [.ref a, cv] ∧ (∀ u, RelV cv u → u = uv) ∧ PySem.W.kitOne X.K (.ref C) uv = some b ∧ (∀ d, dx = some d → ∃ xs, H' d = some (.xd xs)) ∧ Q' (.bl b) H') := by
    intro pins s σ H' xs us Q' I' r q
    obtain ⟨cv, uv, rfl, hu, hk, hdx, q⟩ := q
    obtain ⟨u1, u2, rfl, r1, r2⟩ := vals2 r
    obtain rfl : u1 = Value.ref a := r1
    obtain rfl := hu u2 r2
    have ha : s.heap.get? a = some oe := (I'.pin (a, oe) (List.mem_append_left _ (by rw [hX]; exact List.mem_cons_self))).1
    obtain ⟨vs, hdt⟩ := hf
    have hno : PySem.W.notCls oe = true := by unfold PySem.W.notCls; rw [hdt] <;> rfl
    obtain ⟨od, J⟩ : ∃ od, PySem.W.InstAt s.heap a oe C od := by
      cases dx with
      | none => exact ⟨none, ha, hz.1, hno, by rw [hz.2]; trivial⟩
      | some d =>
        obtain ⟨xs, e2⟩ := hdx d rfl
        have ox : ObjOk X.prog X.w H' s.heap d (.xd xs) := I'.hok d _ e2
        obtain ⟨mA, hns, hr⟩ := ox
        obtain ⟨od, ho, hl⟩ := lookIn_ns hns
        exact ⟨some od, ha, hz.1, hno, by rw [hz.2]; exact ho⟩
    exact PySem.W.kia_one (PySem.W.kitx_exc (show (PySem.W.clsIn X.K C).isSome = true by obtain ⟨cd, hc, _⟩ := PySem.W.any_some A.hd; rw [show (pcOf X).K = X.K from rfl] at hc; rw [hc]; rfl) A.hg A.hk A.hs A.ha A.hn A.ht A.hm) I'.kIn J hk (fun z => nomatch z) fun tk => ⟨.bl b, H', I'.tok tk, rfl, q⟩
  refine (pe_callB go (c.gl hg) hm boot_isinst (pa_cons (pe_var (c.ix h) (c.vis hv) (c.nmv h).1 (c.nmv h).2) (da_cons he da_nil hs) rfl) (by decide) (by decide) rfl hpl).run pins s σ H Q I ?_
  refine ⟨.ref a, e1, w, _, hh, ρ, cu, ?_⟩
  intro vs H' w' s' t'
  cases t' with
  | cons t1 t2 =>
    cases t2
    have hxd : ∀ d, dx = some d → ∃ xs, H' d = some (.xd xs) := fun d ed => by
      rcases hfs with ⟨e, _⟩ | ⟨d', xs, e2, e3, n, _⟩
      · rw [e] at ed
        cases ed
      · rw [e2] at ed
        cases ed
        exact ⟨xs, (s'.to cu.hr).ext _ _ e3 n⟩
    rcases ht with ⟨n, rfl, hk⟩ | ⟨g, rfl, hk⟩
    · cases t1
      exact ⟨_, .type n, rfl, fun u r => r, hk, hxd, k1 _ _ w' s' (.bl b)⟩
    · cases t1 with
      | @glo a' _ hg' => exact ⟨_, .ref a', rfl, fun u r => r, hk _ (show X.mg g = _ by rw [← s'.mg.trans cu.mg]; exact hg'), hxd, k1 _ _ w' s' (.bl b)⟩
def eXf (cs : List Str) (i : Nat) (f : Str) : En → M D := fun ρ => M.of ((excS ρ i).bind fun r => if r.1 ∈ cs then r.2.lookup f else none)
def XfOk (K : PySem.W.Frag) (mg : Str → Option Value) (cs : List Str) (f : Str) : Prop := ∀ c ∈ cs, ∀ C, mg c = some (.ref C) → XfC K C ∧ PySem.W.findIn K (.ref C) f = some none
theorem xf_ {cs : List Str} (c : Bok Γ X W N sc ow) (i : Nat) (T : XfOk Γ.K Γ.mg cs f) (h : N[i]? = some x := by rfl) (hv : visB sc x = true := by rfl) (hb : ∀ env, attributeBase (.Name x p1) f env (eval (.Name x p1) env) = eval (.Name x p1) env := by intro _; rfl) : DE X W (.Attribute (.Name x p1) f pos) (eXf cs i f) := by
  have hpc := c.pc
  subst hpc
  refine ⟨fun pins s σ H Q I ⟨w, hd, hh, ρ, cu, k0⟩ => ?_⟩
  obtain ⟨d, hd0, k1⟩ := wp_of.mp k0
  obtain ⟨⟨cc, fs⟩, hex, hl⟩ := Option.bind_eq_some_iff.mp hd0
  split at hl
  · rename_i hcs
    obtain ⟨v, e1, a, dx, C, rfl, rfl, hC, hfs⟩ := cu.rp.at_ i _ (excS_some hex)
    obtain ⟨X0, oe, pn, hX, hz, hf⟩ := cu.hk
    have hCX : X.mg cc = some (.ref C) := by rw [← cu.mg]; exact hC
    obtain ⟨T1, T2⟩ := T cc hcs C hCX
    rcases hfs with ⟨_, rfl⟩ | ⟨dd, xs, rfl, e3, n3, l3⟩
    · cases hl
    · obtain ⟨u, hu, tu⟩ := l3.lookup hl
      have pv : PE X (.Name x p1) _ := pe_var (c.ix h) (c.vis hv) (c.nmv h).1 (c.nmv h).2
      subst hX
      exact (pe_xf (X := X0) T1 T2 hz hf pv (hb _)).run pins s σ H Q I ⟨.ref a, e1, rfl, rfl, dd, xs, u, rfl, e3, hu, k1 u H w (Step.refl cu.hr) tu⟩
  · cases hl
end
end WR
set_option Elab.async false
set_option linter.all false
set_option autoImplicit false
set_option maxRecDepth 100000
set_option maxHeartbeats 4000000
namespace WR
open PySem PySem.Spec PyProof.Rows L2
section
variable {X : Cx} {B : Bs} {W : WX} {e a b c : Expr} {es : List Expr} {pos p vp : Pos} {f fa fb : En → M D} {ga : En → M (List D)}
/-! ### comparisons that only read -/
def CmpR (X : Cx) (op : CmpOp) (q : D → D → Option Bool) : Prop := ∀ (pins : List (Addr × Obj)) (s : Shared) (σ : L2.St) (H : Hp) (w : Wd) (x y : V) (v u : Value) (d1 d2 : D) (b : Bool), Inv X pins σ H s → RelV x v → RelV y u → w.K = X.K → Dt w H x d1 → Dt w H y d2 → q d1 d2 = some b →
  wpAny (model X.prog X.w) X.A (compareOp op v u) (EP X pins σ fun z H' => z = .bl b ∧ H' = H) X.xe s
def neT (x y : D) : Option Bool := (eqT x y).map (!·)
def notInT (x y : D) : Option Bool := (inT x y).map (!·)
theorem cr_of {op : CmpOp} {q : D → D → Option Bool} (h : ∀ (pins : List (Addr × Obj)) (s : Shared) (σ : L2.St) (H : Hp) (w : Wd) (x y : V) (v u : Value) (d1 d2 : D) (b : Bool), Inv X pins σ H s → RelV x v → RelV y u → w.K = X.K → Dt w H x d1 → Dt w H y d2 → q d1 d2 = some b → ∀ Q : VK, Q (.bl b) H → wpAny (model X.prog X.w) X.A (compareOp op v u) (EP X pins σ Q) X.xe s) : CmpR X op q :=
  fun pins s σ H w x y v u d1 d2 b I rx ry hK t1 t2 hq => h pins s σ H w x y v u d1 d2 b I rx ry hK t1 t2 hq _ ⟨rfl, rfl⟩
theorem c_eq (hu : X.A.units + 200 < cLine) : CmpR X .Eq eqT := cr_of fun pins s σ H w x y v u d1 d2 b I rx ry hK t1 t2 hq Q q => by
  rcases eqT_some hq with ⟨xs, ys, e1, e2, ne, rfl⟩ | ⟨p, q', e1, e2, s1, s2, rfl⟩
  · exact eq_len I hK t1 t2 rx ry e1 e2 ne (by omega) ⟨.bl _, H, I, rfl, q⟩
  · obtain ⟨as, r1, _⟩ := Dt.reads I hK t1 e1 rx
    obtain ⟨bs, r2, _⟩ := Dt.reads I hK t2 e2 ry
    exact SeqAt.eq_plain r1 r2 (shp_plain s1) (shp_plain s2) (room_eq s1 (by omega)) ⟨.bl _, H, I, rfl, q⟩
theorem c_ne (hu : X.A.units + 200 < cLine) : CmpR X .NotEq neT := cr_of fun pins s σ H w x y v u d1 d2 b I rx ry hK t1 t2 hq Q q => by
  obtain ⟨b', hb, rfl⟩ := Option.map_eq_some_iff.mp hq
  rcases eqT_some hb with ⟨xs, ys, e1, e2, ne, rfl⟩ | ⟨p, q', e1, e2, s1, s2, rfl⟩
  · exact ne_len I hK t1 t2 rx ry e1 e2 ne (by omega) ⟨.bl _, H, I, rfl, q⟩
  · obtain ⟨as, r1, _⟩ := Dt.reads I hK t1 e1 rx
    obtain ⟨bs, r2, _⟩ := Dt.reads I hK t2 e2 ry
    exact SeqAt.ne_plain r1 r2 (shp_plain s1) (shp_plain s2) (room_eq s1 (by omega)) ⟨.bl _, H, I, rfl, q⟩
theorem c_in (hu : X.A.units + 200 < cLine) : CmpR X .In inT := cr_of fun pins s σ H w x y v u d1 d2 b I rx ry hK t1 t2 hb Q q => by
  unfold inT at hb
  split at hb
  · rename_i i j
    split at hb
    · rename_i hs
      cases hb
      cases t1
      cases t2
      exact op_in_sign pins s σ H _ _ v u _ I rx ry ⟨i.cps[0]!, j, congrArg V.str (sign_of hs), rfl, q⟩
    · cases hb
  · split at hb
    · rename_i p qs e1 e2
      split at hb
      · rename_i hs
        cases hb
        obtain ⟨as, r1, _⟩ := Dt.reads I hK t1 e1 rx
        obtain ⟨bs, r2, _⟩ := Dt.reads I hK t2 e2 ry
        exact SeqAt.in_list_data r2 r1 (shp_list hs.2) (shp_plain hs.1) (room_in2 hs.1 hu) ⟨.bl _, H, I, rfl, q⟩
      · cases hb
    · rename_i p qs e1 e2
      split at hb
      · rename_i hs
        cases hb
        obtain ⟨as, r1, _⟩ := Dt.reads I hK t1 e1 rx
        obtain ⟨bs, r2, _⟩ := Dt.reads I hK t2 e2 ry
        exact SeqAt.in_tuple_data r2 r1 (shp_tuple hs.2) (shp_plain hs.1) (room_in2 hs.1 hu) ⟨.bl _, H, I, rfl, q⟩
      · cases hb
    · cases hb
theorem c_notIn (hu : X.A.units + 200 < cLine) : CmpR X .NotIn notInT := cr_of fun pins s σ H w x y v u d1 d2 b I rx ry hK t1 t2 hq Q q => by
  obtain ⟨b', hb, rfl⟩ := Option.map_eq_some_iff.mp hq
  unfold inT at hb
  split at hb
  · rename_i i j
    split at hb
    · rename_i hs
      cases hb
      cases t1
      cases t2
      exact op_notIn_sign pins s σ H _ _ v u _ I rx ry ⟨i.cps[0]!, j, congrArg V.str (sign_of hs), rfl, q⟩
    · cases hb
  · split at hb
    · rename_i p qs e1 e2
      split at hb
      · rename_i hs
        cases hb
        obtain ⟨as, r1, _⟩ := Dt.reads I hK t1 e1 rx
        obtain ⟨bs, r2, _⟩ := Dt.reads I hK t2 e2 ry
        exact SeqAt.notIn_list_data r2 r1 (shp_list hs.2) (shp_plain hs.1) (room_in2 hs.1 hu) ⟨.bl _, H, I, rfl, q⟩
      · cases hb
    · rename_i p qs e1 e2
      split at hb
      · rename_i hs
        cases hb
        obtain ⟨as, r1, _⟩ := Dt.reads I hK t1 e1 rx
        obtain ⟨bs, r2, _⟩ := Dt.reads I hK t2 e2 ry
        exact SeqAt.notIn_tuple_data r2 r1 (shp_tuple hs.2) (shp_plain hs.1) (room_in2 hs.1 hu) ⟨.bl _, H, I, rfl, q⟩
      · cases hb
    · cases hb
/-- beside a list of the slot's own, on the right | on the left -/
def eCmpOr (q : D → D → Option Bool) (fa : En → M D) (i : Nat) : En → M D := fun ρ => (M.of (ownS ρ i)).bind fun ds => (fa ρ).bind fun x => M.of ((q x (.lst ds)).map .bl)
def eCmpOl (q : D → D → Option Bool) (i : Nat) (fb : En → M D) : En → M D := fun ρ => (M.of (ownS ρ i)).bind fun ds => (fb ρ).bind fun y => M.of ((q (.lst ds) y).map .bl)
def rCR (X : Cx) (q : D → D → Option Bool) : R2 := fun x y H Q => ∃ w d1 d2 b, w.K = X.K ∧ Dt w H x d1 ∧ Dt w H y d2 ∧ q d1 d2 = some b ∧ Q (.bl b) H
theorem cmpR_R {op : CmpOp} {q : D → D → Option Bool} (o : CmpR X op q) : OpR X (compareOp op) (rCR X q) := fun pins s σ H x y v u Q I rx ry ⟨w, d1, d2, b, hK, t1, t2, hq, k⟩ =>
  thn (o pins s σ H w x y v u d1 d2 b I rx ry hK t1 t2 hq) fun _ _ ⟨z, H', I', r', e1, e2⟩ => ⟨z, H', I', r', by rw [e1, e2]; exact k⟩
theorem own_rd {w : Wd} {hd : Hd} {H : Hp} {σ : L2.St} {ρ : En} {i : Nat} {ds : List D} (r : Rep w hd H σ ρ) (e : ownS ρ i = some ds) : ∃ a xs, σ[i]? = some (some (.ref a)) ∧ H a = some (.lst xs) ∧ a ∉ w.m ∧ w.Z a ∧ DtL w H xs ds := by
  obtain ⟨v, e1, a, xs, rfl, z, n, e2, t⟩ := r.at_ i _ (ownS_some e)
  exact ⟨a, xs, e1, e2, n, z, t⟩
theorem t_cmpOr {op : CmpOp} {q : D → D → Option Bool} {i : Nat} {σ : L2.St} {H : Hp} {Q : VK} (z : tE X W (eCmpOr q fa i) σ H Q) : tOp (rCR X q) (tE X W fa) (fun σ H Q => ∃ x, σ[i]? = some (some x) ∧ Q x H) σ H Q := by
  obtain ⟨w, hd, h, ρ, c, k⟩ := z
  obtain ⟨ds, ho, k⟩ := wp_of.mp (wp_bind.mp k)
  obtain ⟨a, xs, e1, e2, n, z, t⟩ := own_rd c.rp ho
  refine tE.run c (wp_bind.mp k) (fun d1 h1 v1 H1 w1 k1 s1 c1 t1 => ?_) fun _ _ _ z => z
  obtain ⟨d, hd, k2⟩ := wp_of.mp k1
  obtain ⟨b, hb, rfl⟩ := Option.map_eq_some_iff.mp hd
  exact ⟨.ref a, e1, w1.rd, d1, .lst ds, b, c1.K, t1.to To.rd, .lst (s1.ext a _ e2 n) (fun z => z) ((t.to (s1.to c.hr)).to To.rd), hb, k2 _ _ w1 s1 (.bl b)⟩
theorem t_cmpOl {op : CmpOp} {q : D → D → Option Bool} {i : Nat} {σ : L2.St} {H : Hp} {Q : VK} (z : tE X W (eCmpOl q i fb) σ H Q) : tOp (rCR X q) (fun σ H Q => ∃ x, σ[i]? = some (some x) ∧ Q x H) (tE X W fb) σ H Q := by
  obtain ⟨w, hd, h, ρ, c, k⟩ := z
  obtain ⟨ds, ho, k⟩ := wp_of.mp (wp_bind.mp k)
  obtain ⟨a, xs, e1, e2, n, z, t⟩ := own_rd c.rp ho
  refine ⟨.ref a, e1, tE.run c (wp_bind.mp k) (fun d1 h1 v1 H1 w1 k1 s1 c1 t1 => ?_) fun _ _ _ z => z⟩
  obtain ⟨d, hd, k2⟩ := wp_of.mp k1
  obtain ⟨b, hb, rfl⟩ := Option.map_eq_some_iff.mp hd
  exact ⟨w1.rd, .lst ds, d1, b, c1.K, .lst (s1.ext a _ e2 n) (fun z => z) ((t.to (s1.to c.hr)).to To.rd), t1.to To.rd, hb, k2 _ _ w1 s1 (.bl b)⟩
section
variable {Γ : PC} {N : List Str} {sc ow : Scope} {x : Str} {op : CmpOp} {q : D → D → Option Bool}
theorem cmpOr_ (c : Bok Γ X W N sc ow) (i : Nat) (ho : CmpR X op q) (ha : DE X W a fa) (h : N[i]? = some x := by rfl) (hv : visB sc x = true := by rfl) (hm : behindInMarks op (.Name x vp) = false := by first | exact nomark _ | with_unfolding_all rfl) : DE X W (.Compare a [op] [.Name x vp] pos) (eCmpOr q fa i) :=
  PE.of (pe_cmpR (cmpR_R ho) ha (pe_var (c.ix h) (c.vis hv) (c.nmv h).1 (c.nmv h).2) hm) fun _ _ _ z => t_cmpOr (op := op) z
theorem cmpOrT_ (c : Bok Γ X W N sc ow) (i : Nat) (ho : CmpR X op q) (ha : DE X W a fa) (h : N[i]? = some x := by rfl) (hv : visB sc x = true := by rfl) (hm : behindInMarks op (.Name x vp) = false := by first | exact nomark _ | with_unfolding_all rfl) : DT X W (.Compare a [op] [.Name x vp] pos) (tst (eCmpOr q fa i)) :=
  PT.of (pt_cmpR (cmpR_R ho) ha (pe_var (c.ix h) (c.vis hv) (c.nmv h).1 (c.nmv h).2) hm) fun _ _ _ z => t_tst z fun _ y => t_cmpOr (op := op) y
theorem cmpOl_ (c : Bok Γ X W N sc ow) (i : Nat) (ho : CmpR X op q) (hb : DE X W b fb) (h : N[i]? = some x := by rfl) (hv : visB sc x = true := by rfl) (hm : behindInMarks op b = false := by first | exact nomark _ | with_unfolding_all rfl) : DE X W (.Compare (.Name x vp) [op] [b] pos) (eCmpOl q i fb) :=
  PE.of (pe_cmpR (cmpR_R ho) (pe_var (c.ix h) (c.vis hv) (c.nmv h).1 (c.nmv h).2) hb hm) fun _ _ _ z => t_cmpOl (op := op) z
theorem cmpOlT_ (c : Bok Γ X W N sc ow) (i : Nat) (ho : CmpR X op q) (hb : DE X W b fb) (h : N[i]? = some x := by rfl) (hv : visB sc x = true := by rfl) (hm : behindInMarks op b = false := by first | exact nomark _ | with_unfolding_all rfl) : DT X W (.Compare (.Name x vp) [op] [b] pos) (tst (eCmpOl q i fb)) :=
  PT.of (pt_cmpR (cmpR_R ho) (pe_var (c.ix h) (c.vis hv) (c.nmv h).1 (c.nmv h).2) hb hm) fun _ _ _ z => t_tst z fun _ y => t_cmpOl (op := op) y
/-- len(x), x[k] of a list of the slot's own -/
def eLenO (i : Nat) : En → M D := fun ρ => (M.of (ownS ρ i)).bind fun ds => M.pure (.int ds.length)
def eIxO (i : Nat) (fb : En → M D) : En → M D := fun ρ => (M.of (ownS ρ i)).bind fun ds => (fb ρ).bind fun k => M.of ((oInt k).bind fun k => atI ds k)
theorem lenO_ (c : Bok Γ X W N sc ow) (i : Nat) (hm : Γ.mg "len" = none) (h : N[i]? = some x := by rfl) (hv : visB sc x = true := by rfl) (hg : glB sc "len" = true := by rfl) : DE X W (.Call (.Name "len" p) [.Name x vp] [] pos) (eLenO i) := by
  have hpc := c.pc
  subst hpc
  refine PE.of (pe_callB call_len_seq (c.gl hg) hm PySem.boot_len (pa_cons (pe_var (c.ix h) (c.vis hv) (c.nmv h).1 (c.nmv h).2) pa_nil rfl) (by decide) (by decide) rfl rfl) fun σ H Q ⟨w, hd, hh, ρ, cu, k⟩ => ?_
  obtain ⟨ds, ho, k⟩ := wp_of.mp (wp_bind.mp k)
  obtain ⟨a, xs, e1, e2, n, z, t⟩ := own_rd cu.rp ho
  exact ⟨.ref a, e1, a, xs, rfl, .inl (SqL.of e2), by rw [t.length]; exact k _ H w (Step.refl cu.hr) (.int _)⟩
theorem ixO_ (c : Bok Γ X W N sc ow) (i : Nat) (hb : DE X W b fb) (h : N[i]? = some x := by rfl) (hv : visB sc x = true := by rfl) (hs : PlainIx b := by intro _ _; rfl) : DE X W (.Subscript (.Name x vp) b pos) (eIxO i fb) := by
  refine PE.of (pe_ix ix_list (pe_var (c.ix h) (c.vis hv) (c.nmv h).1 (c.nmv h).2) hb hs) fun σ H Q ⟨w, hd, hh, ρ, cu, k⟩ => ?_
  obtain ⟨ds, ho, k⟩ := wp_of.mp (wp_bind.mp k)
  obtain ⟨a, xs, e1, e2, n, z, t⟩ := own_rd cu.rp ho
  refine ⟨.ref a, e1, tE.run cu (wp_bind.mp k) (fun kd h1 v1 H1 w1 k1 s1 c1 t1 => ?_) fun _ _ _ z => z⟩
  obtain ⟨d, hd, k2⟩ := wp_of.mp k1
  obtain ⟨kk, hk, hd⟩ := Option.bind_eq_some_iff.mp hd
  cases oInt_some hk
  cases t1
  obtain ⟨v, hv, tv⟩ := dtL_at (t.to (s1.to cu.hr)) hd
  exact ⟨a, xs, kk, v, rfl, rfl, SqL.of (s1.ext a _ e2 n), hv, k2 v H1 w1 s1 tv⟩
end
/-! ### a, b = x, y -/
def sPar2 (i j : Nat) (ga : En → M (List D)) : MS := fun ρ h => (ga ρ h).on ρ fun ds h' => match ds with
  | [x, y] => .nx ((ρ.set i (some (.val x))).set j (some (.val y))) h'
  | _ => .no
theorem StR.set {w : Wd} {hd : Hd} {h : IH} {ρ : En} {σ : L2.St} {H : Hp} {i : Nat} {v : V} {d : D} (c : StR X B w hd h ρ σ H) (t : Dt w H v d) : StR X B w hd h (ρ.set i (some (.val d))) (σ.set i (some v)) H :=
  c.tgt (c.rp.set t) fun j s hj ho => by
    rcases set_some hj with ⟨rfl, rfl, _⟩ | ⟨hne, hj⟩
    · cases ho
    · exact ⟨hj, by rw [List.getElem?_set_ne (Ne.symm hne)]⟩
def locOk (sc : Scope) (x : Str) : Bool := match sc.names.lookup x with
  | some .local => true
  | _ => false
theorem locOk_is {sc : Scope} {x : Str} (h : locOk sc x = true) : sc.names.lookup x = some .local := by
  unfold locOk at h
  split at h
  · assumption
  · cases h
/-- an environment with that scope -/
def envSc (sc : Scope) : Env := { scope := sc, locals := 0, globals := 0, cells := [], qual := Str.empty, func := none, code := .none, frame := none, builtins := 0 }
theorem swapped_sc {ts : List Expr} {e : Expr} {env : Env} {sc : Scope} (h : env.scope = sc) : swappedStores ts e env = swappedStores ts e (envSc sc) := by
  have k1 : env.blockKind = (envSc sc).blockKind := by
    unfold Env.blockKind
    rw [h]
    rfl
  have k2 : ∀ x, env.kindOf x = (envSc sc).kindOf x := fun x => by
    unfold Env.kindOf
    rw [h]
    rfl
  unfold swappedStores
  simp only [k1, k2]
section
variable {Γ : PC} {k : Nat} {N : List Str} {sc ow : Scope} {x y z : Str} {px py pz pt pt2 : Pos} {kt k2}
theorem par2_ (cc : Cok Γ X W k N sc ow) (i j : Nat) (ha : DA X W [a, b] ga) (hi : N[i]? = some x := by rfl) (hj : N[j]? = some y := by rfl) (hij : i ≠ j := by decide) (hx : locOk sc x = true := by rfl) (hy : locOk sc y = true := by rfl)
    (hw : swappedStores [.Tuple [.Name x px, .Name y py] kt pt] (.Tuple [a, b] k2 pt2) (envSc sc) = pure (some [x, y]) := by rfl) : DS X B W (.Assign [.Tuple [.Name x px, .Name y py] kt pt] (.Tuple [a, b] k2 pt2) pos) (sPar2 i j ga) := by
  refine PS.of (ps_par cc.calm (cc.hN ▸ cc.nd) (cc.ix hi) (cc.ix hj) hij (by rw [cc.hsc]; exact locOk_is hx) (by rw [cc.hsc]; exact locOk_is hy) ha (by rw [swapped_sc cc.hsc]; exact hw)) fun E σ H ⟨w, hd, h, ρ, c, k0⟩ => ?_
  refine tL.stm c k0 fun ds h' v H' w' q s t c' td => ?_
  split at q
  · cases td with
    | cons t1 td =>
      cases td with
      | cons t2 td =>
        cases td
        exact ⟨_, _, rfl, q _ H' w' t ((c'.set t1).set t2)⟩
  · exact q.elim
def sPar3 (i j l : Nat) (ga : En → M (List D)) : MS := fun ρ h => (ga ρ h).on ρ fun ds h' => match ds with
  | [x, y, z] => .nx (((ρ.set i (some (.val x))).set j (some (.val y))).set l (some (.val z))) h'
  | _ => .no
theorem par3_ {c : Expr} (cc : Cok Γ X W k N sc ow) (i j l : Nat) (ha : DA X W [a, b, c] ga) (hi : N[i]? = some x := by rfl) (hj : N[j]? = some y := by rfl) (hl : N[l]? = some z := by rfl) (hij : i ≠ j := by decide) (hil : i ≠ l := by decide) (hjl : j ≠ l := by decide) (hx : locOk sc x = true := by rfl) (hy : locOk sc y = true := by rfl) (hz : locOk sc z = true := by rfl)
    (hw : swappedStores [.Tuple [.Name x px, .Name y py, .Name z pz] kt pt] (.Tuple [a, b, c] k2 pt2) (envSc sc) = pure (some [x, y, z]) := by rfl) : DS X B W (.Assign [.Tuple [.Name x px, .Name y py, .Name z pz] kt pt] (.Tuple [a, b, c] k2 pt2) pos) (sPar3 i j l ga) := by
  refine PS.of (ps_par3 cc.calm (cc.hN ▸ cc.nd) (cc.ix hi) (cc.ix hj) (cc.ix hl) hij hil hjl (by rw [cc.hsc]; exact locOk_is hx) (by rw [cc.hsc]; exact locOk_is hy) (by rw [cc.hsc]; exact locOk_is hz) ha (by rw [swapped_sc cc.hsc]; exact hw)) fun E σ H ⟨w, hd, h, ρ, c, k0⟩ => ?_
  refine tL.stm c k0 fun ds h' v H' w' q s t c' td => ?_
  split at q
  · cases td with
    | cons t1 td =>
      cases td with
      | cons t2 td =>
        cases td with
        | cons t3 td =>
          cases td
          exact ⟨_, _, _, rfl, q _ H' w' t (((c'.set t1).set t2).set t3)⟩
  · exact q.elim
/-- several targets that are no plain locals: a tuple is made and taken apart -/
theorem asgT_ {f : En → M D} {tg : Expr} {tf : D → En → Option En} {vs : List Nat} (cc : Cok Γ X W k N sc ow) (hf : DE X W e f) (hg : DG X tg tf vs) (hs : ∀ env, swapsWithSole [tg] e pos.line env = pure false := by intro _; rfl) (hw : swappedStores [tg] e (envSc sc) = pure none := by rfl)
    (h1 : ∀ env, (assignEach [tg] env).map (·.2) = [assign tg env] := by intro _; rfl) : DS X B W (.Assign [tg] e pos) (sAsg f tf) := s_asg hf hg (hs _) (by rw [swapped_sc cc.hsc]; exact hw) (h1 _)
end
/-! ### {} ; texts joined -/
def eDict0 : En → M D := fun _ => M.pure (.dct [])
theorem d_dict0 : DE X W (.Dict [] [] pos) eDict0 := PE.of pe_dnewK fun σ H Q ⟨w, hd, h, ρ, c, k⟩ => fun p hp => k _ _ w (Step.grow c.hr (same_new hp)) (.dct upd_same (c.hr.nz hp) .nil)
def strsOf : List D → Option (List Str)
  | [] => some []
  | .str x :: ds => (strsOf ds).map (x :: ·)
  | _ => none
theorem strsOf_some {w : Wd} {H : Hp} : ∀ {ds : List D} {vs : List V} {xs : List Str}, strsOf ds = some xs → DtL w H vs ds → vs = xs.map V.str
  | [], _, _, h, t => by
    cases t
    cases h
    rfl
  | d :: ds, _, _, h, t => by
    cases t with
    | cons t r =>
      cases t with
      | str x =>
        obtain ⟨xs, hx, rfl⟩ := Option.map_eq_some_iff.mp (show (strsOf ds).map (x :: ·) = some _ from h)
        rw [strsOf_some hx r]
        rfl
      | _ => cases h
/-- methods of texts -/
abbrev Ps := Str → List D → Option D
def SM (X : Cx) (id : String) (p : Ps) : Prop := ∃ r, MtR X id r ∧ ∀ (w : Wd) (h : IH) (H : Hp) (x : Str) (vs : List V) (es : List D) (d : D) (Q : VK), w.K = X.K → HR w h H → DtL w H vs es → p x es = some d → (∀ v H', Grow w H d v H' → Q v H') → r (.str x) vs H Q
def asS : D → Option Str
  | .str x => some x
  | _ => none
def eSm (p : Ps) (f : En → M D) (ga : En → M (List D)) : En → M D := fun ρ => (f ρ).bind fun d => (M.of (asS d)).bind fun x => (ga ρ).bind fun es => M.of (p x es)
theorem asS_some {d : D} {x : Str} (h : asS d = some x) : d = .str x := by
  unfold asS at h
  split at h
  · cases h; rfl
  · cases h
theorem d_sm {o : Expr} {name : Str} {id : String} {p : Ps} {apos cpos : Pos} (slot : Slot "str" name id) (hty : typeOf (.builtin id) = pure (.type "method_descriptor")) (hm : SM X id p) (hf : DE X W o f) (ha : DA X W (e :: es) ga) (hbase : attributeBase o name X.env (eval o X.env) = eval o X.env := by rfl)
    (hfew : ((backTo cpos (starEach (e :: es) X.env)).all (fun x => !x.1) && (backToKw cpos (keywordEach [] X.env)).all (fun x => x.1.isSome)
      && decide ((e :: es).length + ([] : List Keyword).length + (if ([] : List Keyword).isEmpty then 0 else 1) < 30)) = true := by rfl)
    (hline : (apos.endLine == cpos.line) = true := by rfl) (hs : starEach (e :: es) X.env = (false, eval e X.env) :: starEach es X.env := by rfl) (hplain : (backTo cpos (starEach es X.env)).any (·.1) = false := by rfl) : DE X W (.Call (.Attribute o name apos) (e :: es) [] cpos) (eSm p f ga) := by
  obtain ⟨r, h1, h2⟩ := hm
  refine PE.of (pe_bm PySem.F.plainAttrs_str slot hty h1 hf ha hbase hfew hline hs hplain) fun σ H Q ⟨w, hd, h, ρ, c, k⟩ => ?_
  refine tE.run c (wp_bind.mp k) (fun d1 h1 v1 H1 w1 k1 s1 c1 t1 => ?_) fun _ _ _ z => z
  obtain ⟨x, hx, k2⟩ := wp_of.mp (wp_bind.mp k1)
  cases asS_some hx
  cases t1
  refine ⟨rfl, tL.run c1 (wp_bind.mp k2) (fun es h2' vs H2 w2 k3 s2 c2 t2 => ?_) fun _ _ _ z cls dx H' w' s => z cls dx H' w' (s1.trans s)⟩
  obtain ⟨d, hp, q⟩ := wp_of.mp k3
  exact h2 w2 h2' H2 x vs es d Q c2.K c2.hr t2 hp fun v H' g => q v H' w2 ((s1.trans s2).trans (Step.grow c2.hr g.1)) g.2
def pJoin : Ps := fun a es => match es with
  | [d] => match (match d with | .lst ds => some ds | .fz ds => some ds | .tup ds => some ds | _ => none) with
    | some ds => match strsOf ds with
      | some ys => if (ys.map (·.length)).sum + ys.length * a.length ≤ 16777216 then some (.str (Txt.join a ys)) else none
      | none => none
    | none => none
  | _ => none
theorem sm_join : SM X "str.join" pJoin := ⟨_, mt_join, fun w h H x vs es d Q hK hr t hp q => by
  unfold pJoin at hp
  split at hp
  · rename_i d0
    split at hp
    · rename_i ds e
      split at hp
      · rename_i ys ey
        split at hp
        · rename_i hz
          cases hp
          cases t with
          | cons t tr =>
            cases tr
            have go : ∀ {a : Addr} {xs : List V}, (SqL X.K H a xs ∨ SqT X.K H a xs) → DtL w H xs ds → ∃ a_1 p, ∃ ys_1 : List Str, V.str x = .str a_1 ∧ [V.ref a] = [.ref p] ∧ (SqL X.K H p (ys_1.map V.str) ∨ SqT X.K H p (ys_1.map V.str)) ∧ (ys_1.map (·.length)).sum + ys_1.length * a_1.length ≤ 16777216 ∧ Q (.str (Txt.join a_1 ys_1)) H := fun {a xs} hs l => by
              have e1 := strsOf_some ey l
              subst e1
              exact ⟨x, a, ys, rfl, rfl, hs, hz, q _ _ (gr_same (.str _))⟩
            split at e
            · cases e
              cases t with
              | lst a1 n1 l1 => exact go (.inl (SqL.of a1)) l1
            · cases e
              cases t with
              | fz a1 l1 => exact go (.inl (hK ▸ a1.sq)) l1
            · cases e
              cases t with
              | tup a1 l1 => exact go (.inr (hK ▸ a1.sq)) l1
            · cases e
        · cases hp
      · cases hp
    · cases hp
  · cases hp⟩
end
end WR
set_option Elab.async false
set_option linter.all false
set_option autoImplicit false
set_option maxRecDepth 100000
set_option maxHeartbeats 4000000
namespace WR
open PySem PySem.Spec PyProof.Rows L2
section
variable {Γ : PC} {X : Cx} {B : Bs} {W : WX} {j k n m : Nat} {N : List Str} {sc ow : Scope} {e o a b tg iter : Expr} {es : List Expr} {kws : List Keyword} {body : List Stmt} {x : Str} {pos p apos : Pos} {f fa fb : En → M D} {g ga gk : En → M (List D)} {F : MS}
theorem glob_ {d : D} (c : Bok Γ X W N sc ow) (h : Con Γ.K Γ.mg x d) (hg : glB sc x = true := by rfl) (hd : (x == ("__debug__" : Str)) = false := by rfl) : DE X W (.Name x pos) (eCst d) := by
  have hpc := c.pc
  subst hpc
  exact d_glob h (c.gl hg) hd
theorem ty_ {t : String} (c : Bok Γ X W N sc ow) (hm : Γ.mg x = none) (hv : bootBuiltins x = some (.type t)) (hn : x ≠ "__name__") (hg : glB sc x = true := by rfl) (hd : (x == ("__debug__" : Str)) = false := by rfl) : DE X W (.Name x pos) (eCst (.ty t)) := by
  have hpc := c.pc
  subst hpc
  exact d_ty hm hv (c.gl hg) hn hd
theorem q_eq (c : Bok Γ X W N sc ow) : Op2 X (compareOp .Eq) eqP := o_eq (by have := c.un; omega)
theorem q_ne (c : Bok Γ X W N sc ow) : Op2 X (compareOp .NotEq) neP := o_ne (by have := c.un; omega)
theorem q_in (c : Bok Γ X W N sc ow) : Op2 X (compareOp .In) inP := o_in c.un
theorem q_notIn (c : Bok Γ X W N sc ow) : Op2 X (compareOp .NotIn) notInP := o_notIn c.un
theorem callB_ {id : String} {q : Pn} (c : Bok Γ X W N sc ow) (ho : OpN X (fun us => call (.builtin id) us) q) (ha : DA X W (e :: es) ga) (hm : Γ.mg x = none) (hv : bootBuiltins x = some (.builtin id)) (hn : x ≠ "__name__") (hg : glB sc x = true := by rfl) (hdb : (x == ("__debug__" : Str)) = false := by rfl)
    (he : starEach (e :: es) X.env = (false, eval e X.env) :: starEach es X.env := by rfl) (hpl : (backTo pos (starEach es X.env)).any (·.1) = false := by rfl) : DE X W (.Call (.Name x p) (e :: es) [] pos) (eN q ga) := by
  have hpc := c.pc
  subst hpc
  exact d_callB ho ha hm hv (c.gl hg) hn hdb he hpl
theorem callT_ {T : String} {q : Pn} (c : Bok Γ X W N sc ow) (ho : OpN X (fun us => call (.type T) us) q) (ha : DA X W (e :: es) ga) (hm : Γ.mg x = none) (hv : bootBuiltins x = some (.type T)) (hn : x ≠ "__name__") (hg : glB sc x = true := by rfl) (hdb : (x == ("__debug__" : Str)) = false := by rfl)
    (he : starEach (e :: es) X.env = (false, eval e X.env) :: starEach es X.env := by rfl) (hpl : (backTo pos (starEach es X.env)).any (·.1) = false := by rfl) : DE X W (.Call (.Name x p) (e :: es) [] pos) (eN q ga) := by
  have hpc := c.pc
  subst hpc
  exact d_callT ho ha hm hv (c.gl hg) hn hdb he hpl
theorem bt_repr : bootBuiltins "repr" = some (.builtin "repr") := by decide +kernel
theorem bt_len : bootBuiltins "len" = some (.builtin "len") := by decide +kernel
theorem bt_all : bootBuiltins "all" = some (.builtin "all") := by decide +kernel
theorem bt_any : bootBuiltins "any" = some (.builtin "any") := by decide +kernel
theorem bt_max : bootBuiltins "max" = some (.builtin "max") := by decide +kernel
theorem bt_min : bootBuiltins "min" = some (.builtin "min") := by decide +kernel
theorem bt_tuple : bootBuiltins "tuple" = some (.type "tuple") := by decide +kernel
theorem bt_str : bootBuiltins "str" = some (.type "str") := by decide +kernel
theorem bt_int : bootBuiltins "int" = some (.type "int") := by decide +kernel
theorem bt_bool : bootBuiltins "bool" = some (.type "bool") := by decide +kernel
theorem bt_listT : bootBuiltins "list" = some (.type "list") := by decide +kernel
theorem bt_dict : bootBuiltins "dict" = some (.type "dict") := by decide +kernel
theorem bt_ValueError : bootBuiltins "ValueError" = some (.type "ValueError") := by decide +kernel
theorem bt_KeyError : bootBuiltins "KeyError" = some (.type "KeyError") := by decide +kernel
theorem len_ (c : Bok Γ X W N sc ow) (hm : Γ.mg "len" = none) (ha : DA X W (e :: es) ga) (hg : glB sc "len" = true := by rfl) (he : starEach (e :: es) X.env = (false, eval e X.env) :: starEach es X.env := by rfl) (hpl : (backTo pos (starEach es X.env)).any (·.1) = false := by rfl) : DE X W (.Call (.Name "len" p) (e :: es) [] pos) (eN lenP ga) :=
  callB_ c o_len ha hm bt_len (by decide) hg (by rfl) he hpl
theorem repr_ (c : Bok Γ X W N sc ow) (hm : Γ.mg "repr" = none) (ha : DA X W (e :: es) ga) (hg : glB sc "repr" = true := by rfl) (he : starEach (e :: es) X.env = (false, eval e X.env) :: starEach es X.env := by rfl) (hpl : (backTo pos (starEach es X.env)).any (·.1) = false := by rfl) : DE X W (.Call (.Name "repr" p) (e :: es) [] pos) (eN reprP ga) :=
  callB_ c (o_repr c.gd c.un) ha hm bt_repr (by decide) hg (by rfl) he hpl
theorem all_ (c : Cok Γ X W k N sc ow) (hm : Γ.mg "all" = none) (ha : DA X W (e :: es) ga) (hg : glB sc "all" = true := by rfl) (he : starEach (e :: es) X.env = (false, eval e X.env) :: starEach es X.env := by rfl) (hpl : (backTo pos (starEach es X.env)).any (·.1) = false := by rfl) : DE X W (.Call (.Name "all" p) (e :: es) [] pos) (eN allP ga) :=
  callB_ c.toBok (o_all c.calm) ha hm bt_all (by decide) hg (by rfl) he hpl
theorem any_ (c : Cok Γ X W k N sc ow) (hm : Γ.mg "any" = none) (ha : DA X W (e :: es) ga) (hg : glB sc "any" = true := by rfl) (he : starEach (e :: es) X.env = (false, eval e X.env) :: starEach es X.env := by rfl) (hpl : (backTo pos (starEach es X.env)).any (·.1) = false := by rfl) : DE X W (.Call (.Name "any" p) (e :: es) [] pos) (eN anyP ga) :=
  callB_ c.toBok (o_any c.calm) ha hm bt_any (by decide) hg (by rfl) he hpl
theorem max2_ (c : Cok Γ X W k N sc ow) (hm : Γ.mg "max" = none) (ha : DA X W (e :: es) ga) (hg : glB sc "max" = true := by rfl) (he : starEach (e :: es) X.env = (false, eval e X.env) :: starEach es X.env := by rfl) (hpl : (backTo pos (starEach es X.env)).any (·.1) = false := by rfl) : DE X W (.Call (.Name "max" p) (e :: es) [] pos) (eN max2P ga) :=
  callB_ c.toBok (o_max2 c.calm) ha hm bt_max (by decide) hg (by rfl) he hpl
theorem min2_ (c : Cok Γ X W k N sc ow) (hm : Γ.mg "min" = none) (ha : DA X W (e :: es) ga) (hg : glB sc "min" = true := by rfl) (he : starEach (e :: es) X.env = (false, eval e X.env) :: starEach es X.env := by rfl) (hpl : (backTo pos (starEach es X.env)).any (·.1) = false := by rfl) : DE X W (.Call (.Name "min" p) (e :: es) [] pos) (eN min2P ga) :=
  callB_ c.toBok (o_min2 c.calm) ha hm bt_min (by decide) hg (by rfl) he hpl
theorem tuple_ (c : Bok Γ X W N sc ow) (hm : Γ.mg "tuple" = none) (ha : DA X W (e :: es) ga) (hg : glB sc "tuple" = true := by rfl) (he : starEach (e :: es) X.env = (false, eval e X.env) :: starEach es X.env := by rfl) (hpl : (backTo pos (starEach es X.env)).any (·.1) = false := by rfl) : DE X W (.Call (.Name "tuple" p) (e :: es) [] pos) (eN tupP1 ga) :=
  callT_ c o_tuple ha hm bt_tuple (by decide) hg (by rfl) he hpl
theorem list_ (c : Bok Γ X W N sc ow) (hm : Γ.mg "list" = none) (ha : DA X W (e :: es) ga) (hg : glB sc "list" = true := by rfl) (he : starEach (e :: es) X.env = (false, eval e X.env) :: starEach es X.env := by rfl) (hpl : (backTo pos (starEach es X.env)).any (·.1) = false := by rfl) : DO X W (.Call (.Name "list" p) (e :: es) [] pos) (mList ga) := by
  have hpc := c.pc
  subst hpc
  exact do_list ha hm (c.gl hg) he hpl
theorem isi_ {cs : List Str} {tb : (String ⊕ Str) → (String ⊕ Str) → Option Bool} (c : Bok Γ X W N sc ow) (ok : KitOk Γ.K Γ.mg cs tb) (hin : ∀ c u b, tb (.inr c) u = some b → c ∈ cs) (hm : Γ.mg "isinstance" = none) (ha : DA X W (e :: es) ga) (hg : glB sc "isinstance" = true := by rfl) (he : starEach (e :: es) X.env = (false, eval e X.env) :: starEach es X.env := by rfl) (hpl : (backTo pos (starEach es X.env)).any (·.1) = false := by rfl) : DE X W (.Call (.Name "isinstance" p) (e :: es) [] pos) (eN (isiP tb) ga) := by
  have hpc := c.pc
  subst hpc
  exact callB_ c (o_isi ok hin) ha hm boot_isinst (by decide) hg (by rfl) he hpl
theorem range1_ (c : Bok Γ X W N sc ow) (hm : Γ.mg "range" = none) (h : DA X W [a] ga) (hg : glB sc "range" = true := by rfl) (hs : starEach [a] X.env = [(false, eval a X.env)] := by rfl) : DI X W tg (.Call (.Name "range" p) [a] [] pos) (iOf rng1 ga) := by
  have hpc := c.pc
  subst hpc
  exact i_range1 h hm (c.gl hg) hs
theorem range2_ (c : Bok Γ X W N sc ow) (hm : Γ.mg "range" = none) (h : DA X W [a, b] ga) (hg : glB sc "range" = true := by rfl) (hs : starEach [a, b] X.env = [(false, eval a X.env), (false, eval b X.env)] := by rfl) (hs2 : starEach [b] X.env = [(false, eval b X.env)] := by rfl) : DI X W tg (.Call (.Name "range" p) [a, b] [] pos) (iOf rng2 ga) := by
  have hpc := c.pc
  subst hpc
  exact i_range2 h hm (c.gl hg) hs hs2
theorem zip_ {e2 : Expr} {tpos : Pos} {elts : List Expr} {kk : Nat} (c : Bok Γ X W N sc ow) (hm : Γ.mg "zip" = none) (h : DA X W [e, e2] ga) (hg : glB sc "zip" = true := by rfl) (hs : starEach [e, e2] X.env = (false, eval e X.env) :: starEach [e2] X.env := by rfl) (hpl : (backTo pos (starEach [e2] X.env)).any (·.1) = false := by rfl) :
    DI X W (.Tuple elts kk tpos) (.Call (.Name "zip" p) [e, e2] [] pos) (iOf zipP ga) := by
  have hpc := c.pc
  subst hpc
  exact i_zip h hm (c.gl hg) hs hpl
theorem for_ {tf : D → En → Option En} {vs : List Nat} (c : Cok Γ X W k N sc ow) (hi : DI X W tg iter g) (hg : DG X tg tf vs) (hb : DSs X B W body F) (hf : ∀ x, foldedSetIterable iter X.env x = pure x := by intro _; rfl) : DS X B W (.For tg iter body [] pos) (sFor g tf F) := s_for c.ps c.calm hi hg hb hf
theorem while_ {t : En → M Bool} {cd : Expr} (n : Nat) (c : Cok Γ X W k N sc ow) (hc : DT X W cd t) (hb : DSs X B W body F) : DS X B W (.While cd body [] pos) (sWh t F n) := s_while n c.ps hc hb
theorem gt_ {tf : List D → En → Option En} {vs : List Nat} {n kk : Nat} (c : Cok Γ X W k N sc ow) (h : DGs X es tf vs) (hl : ∀ ds ρ ρ', tf ds ρ = some ρ' → ds.length = n) (hn : (assignEach es X.env).length = n := by rfl) (hst : (assignEach es X.env).findIdx? (·.1) = none := by rfl) : DG X (.Tuple es kk pos) (tgT tf) vs := g_tup c.calm h hl hn hst
theorem retV_ (c : Bok Γ X W N sc ow) (i : Nat) {pos' : Pos} (h : N[i]? = some x := by rfl) (hv : visB sc x = true := by rfl) : DS X B W (.Return (some (.Name x pos')) pos) (sRetV i) := s_retV i (c.ix h) (c.vis hv) (c.nmv h).1 (c.nmv h).2
theorem mut_ {name : Str} {id : String} {p : Pl} {vpos cpos : Pos} (c : Bok Γ X W N sc ow) (i : Nat) (slot : Slot "list" name id) (hty : typeOf (.builtin id) = pure (.type "method_descriptor")) (hm : LM X id p) (ha : DA X W (e :: es) ga) (h : N[i]? = some x := by rfl) (hv : visB sc x = true := by rfl)
    (hbase : attributeBase (.Name x vpos) name X.env (eval (.Name x vpos) X.env) = eval (.Name x vpos) X.env := by rfl)
    (hfew : ((backTo cpos (starEach (e :: es) X.env)).all (fun x => !x.1) && (backToKw cpos (keywordEach [] X.env)).all (fun x => x.1.isSome)
      && decide ((e :: es).length + ([] : List Keyword).length + (if ([] : List Keyword).isEmpty then 0 else 1) < 30)) = true := by rfl)
    (hline : (apos.endLine == cpos.line) = true := by rfl) (hs : starEach (e :: es) X.env = (false, eval e X.env) :: starEach es X.env := by rfl) (hplain : (backTo cpos (starEach es X.env)).any (·.1) = false := by rfl) : DS X B W (.Expr (.Call (.Attribute (.Name x vpos) name apos) (e :: es) [] cpos) pos) (sMut i p ga) :=
  s_mut i slot hty hm (c.ix h) (c.vis hv) (c.nmv h).1 (c.nmv h).2 ha hbase hfew hline hs hplain
theorem setO_ {v ix : Expr} {tpos vpos : Pos} {fi fv : En → M D} (c : Bok Γ X W N sc ow) (i : Nat) (hv : DE X W v fv) (hi : DE X W ix fi) (h : N[i]? = some x := by rfl) (hvs : visB sc x = true := by rfl) (hs : ∀ env, swapsWithSole [.Subscript (.Name x vpos) ix tpos] v pos.line env = pure false := by intro _; rfl) (hw : ∀ env, swappedStores [.Subscript (.Name x vpos) ix tpos] v env = pure none := by intro _; rfl) (h1 : ∀ env, (assignEach [.Subscript (.Name x vpos) ix tpos] env).map (·.2) = [assign (.Subscript (.Name x vpos) ix tpos) env] := by intro _; rfl)
    (ha : ∀ env v, assign (.Subscript (.Name x vpos) ix tpos) env v = (do
      let ov ← holding [v] (eval (.Name x vpos) env)
      let iv ← holding [v, ov] (eval ix env)
      standAt tpos
      holding [v, ov, iv] (setItem ov iv v)
      release [v, ov, iv] []) := by intro _ _; rfl) : DS X B W (.Assign [.Subscript (.Name x vpos) ix tpos] v pos) (sSetO i fi fv) :=
  s_setO i (c.ix h) (c.vis hvs) (c.nmv h).1 (c.nmv h).2 hv hi (hs _) (hw _) (h1 _) (ha _)
end
/-! ### what is known of defs, methods, classes -/
def FnP (Γ : PC) (k : Nat) (x : Str) (ps : List Str) (ff : List D → M D) : Prop := ∃ f, Gf Γ x f ∧ Prom Γ k f ps (spI Γ.K Γ.mg ps.length ff)
def FnPO (Γ : PC) (k : Nat) (x : Str) (ps : List Str) (fo : List D → M (List D)) : Prop := ∃ f, Gf Γ x f ∧ Prom Γ k f ps (spO Γ.K Γ.mg ps.length fo) ∧ ∀ ds h, ds.length ≠ ps.length → fo ds h = .no
def FnB (Γ : PC) (x : Str) (ps : List Str) (n : Nat) (ks : List Str) (bd : List D → List D → Option (List D)) : Prop := ∃ f, Γ.mg x = some (.ref f) ∧ BndF Γ f ps n ks bd
def MtP (Γ : PC) (k : Nat) (cn mn : Str) (ps : List Str) (ff : List D → M D) : Prop := ∃ C f, MtOk Γ cn mn C f ∧ Prom Γ k f ps (spI Γ.K Γ.mg ps.length ff)
def MtB (Γ : PC) (cn mn : Str) (ps : List Str) (n : Nat) (ks : List Str) (bd : List D → List D → Option (List D)) : Prop := ∃ C f, MtOk Γ cn mn C f ∧ BndF Γ f ps n ks bd
def PrP (Γ : PC) (k : Nat) (cn fn : Str) (ps : List Str) (ff : List D → M D) : Prop := ∃ C p g, PrOk Γ cn fn C p g ∧ Prom Γ k g ps (spI Γ.K Γ.mg ps.length ff) ∧ BndF Γ g ps 1 [] (fun ds _ => some ds)
def MkP (Γ : PC) (k : Nat) (cn : Str) (ps : List Str) (ff : List D → M (List (Str × D))) : Prop := ∃ C f, MkOk Γ cn C f ∧ Prom Γ k f ps (spN Γ.K Γ.mg C ps.length ff)
def MkB (Γ : PC) (cn : Str) (ps : List Str) (n : Nat) (ks : List Str) (bd : List D → List D → Option (List D)) : Prop := ∃ C f, MkOk Γ cn C f ∧ BndN Γ f ps n ks bd
theorem MtOk.uniq {Γ : PC} {cn mn : Str} {C C' f f' : Addr} (h : MtOk Γ cn mn C f) (h' : MtOk Γ cn mn C' f') : C = C' ∧ f = f' := by
  have e1 := h.cl.mg
  rw [h'.cl.mg] at e1
  cases e1
  have e2 := h.mt.at_
  rw [h'.mt.at_] at e2
  cases e2
  exact ⟨rfl, rfl⟩
theorem MkOk.uniq {Γ : PC} {cn : Str} {C C' f f' : Addr} (h : MkOk Γ cn C f) (h' : MkOk Γ cn C' f') : C = C' ∧ f = f' := by
  have e1 := h.mg
  rw [h'.mg] at e1
  cases e1
  have e2 := h.mm.init
  rw [h'.mm.init] at e2
  cases e2
  exact ⟨rfl, rfl⟩
section
variable {Γ : PC} {X : Cx} {B : Bs} {W : WX} {j k n m : Nat} {N : List Str} {sc ow : Scope} {e o : Expr} {es : List Expr} {kws : List Keyword} {x cn mn fn : Str} {pos p apos : Pos} {ps ks : List Str} {bd : List D → List D → Option (List D)} {ff : List D → M D} {fm : List D → M (List (Str × D))} {fo : En → M D} {foo : List D → M (List D)} {ga gk : En → M (List D)}
theorem callA' (c : Cok Γ X W k N sc ow) (F : FnP Γ j x ps ff) (b : FnB Γ x ps n [] bd) (ha : DA X W (e :: es) ga) (hj : j ≤ k := by decide) (hg : glB sc x = true := by rfl) (hdb : (x == ("__debug__" : Str)) = false := by rfl)
    (he : starEach (e :: es) X.env = (false, eval e X.env) :: starEach es X.env := by rfl) (hpl : (backTo pos (starEach es X.env)).any (·.1) = false := by rfl) : DE X W (.Call (.Name x p) (e :: es) [] pos) (eCallK n 0 bd ff ga aNil) := by
  obtain ⟨f, g, F⟩ := F
  obtain ⟨f', g', b⟩ := b
  have e1 := g.1
  rw [g'] at e1
  cases e1
  exact callA_ c g F b ha hj hg hdb he hpl
theorem call0' (c : Cok Γ X W k N sc ow) (F : FnP Γ j x ps ff) (b : FnB Γ x ps 0 [] bd) (hj : j ≤ k := by decide) (hg : glB sc x = true := by rfl) (hdb : (x == ("__debug__" : Str)) = false := by rfl) : DE X W (.Call (.Name x p) [] [] pos) (eCallK 0 0 bd ff aNil aNil) := by
  obtain ⟨f, g, F⟩ := F
  obtain ⟨f', g', b⟩ := b
  have e1 := g.1
  rw [g'] at e1
  cases e1
  exact call0_ c g F b hj hg hdb
theorem callK' (c : Cok Γ X W k N sc ow) (F : FnP Γ j x ps ff) (b : FnB Γ x ps 0 ks bd) (hk : DK X W kws gk) (hj : j ≤ k := by decide) (hg : glB sc x = true := by rfl) (hdb : (x == ("__debug__" : Str)) = false := by rfl)
    (hall : (backToKw pos (keywordEach kws X.env)).all (·.1.isSome) = true := by rfl) (hks : (backToKw pos (keywordEach kws X.env)).filterMap (·.1) = ks := by rfl)
    (hpl : ((backTo pos (starEach [] X.env)).any (·.1) || (backToKw pos (keywordEach kws X.env)).any (·.1.isNone)) = false := by rfl) : DE X W (.Call (.Name x p) [] kws pos) (eCallK 0 ks.length bd ff aNil gk) := by
  obtain ⟨f, g, F⟩ := F
  obtain ⟨f', g', b⟩ := b
  have e1 := g.1
  rw [g'] at e1
  cases e1
  exact callK_ c g F b hk hj hg hdb hall hks hpl
theorem methA' {pl : Sem Bool} (c : Cok Γ X W k N sc ow) (F : MtP Γ j cn mn ps ff) (b : MtB Γ cn mn ps (n + 1) [] bd) (ho : DE X W o fo) (ha : DA X W (e :: es) ga) (hj : j ≤ k := by decide)
    (hst : starEach (e :: es) X.env = (false, eval e X.env) :: starEach es X.env := by rfl) (hpl : (backTo pos (starEach es X.env)).any (·.1) = false := by rfl)
    (ht : eval (.Call (.Attribute o mn apos) (e :: es) [] pos) X.env = (do
      let ov ← eval o X.env
      standAt apos.atName
      let (f, first) ← holding [ov] (getMethod ov mn pl)
      callWith pos f first (backTo pos (starEach (e :: es) X.env)) (backToKw pos (keywordEach [] X.env))) := by rfl) : DE X W (.Call (.Attribute o mn apos) (e :: es) [] pos) (eMeth cn mn n 0 bd ff fo ga aNil) := by
  obtain ⟨C, f, T, F⟩ := F
  obtain ⟨C', f', T', b⟩ := b
  obtain ⟨rfl, rfl⟩ := T.uniq T'
  exact methA_ (pl := pl) c T F b ho ha hj hst hpl ht
theorem methK' {pl : Sem Bool} (c : Cok Γ X W k N sc ow) (F : MtP Γ j cn mn ps ff) (b : MtB Γ cn mn ps 1 ks bd) (ho : DE X W o fo) (hk : DK X W kws gk) (hj : j ≤ k := by decide)
    (hall : (backToKw pos (keywordEach kws X.env)).all (·.1.isSome) = true := by rfl) (hks : (backToKw pos (keywordEach kws X.env)).filterMap (·.1) = ks := by rfl)
    (hpl : ((backTo pos (starEach [] X.env)).any (·.1) || (backToKw pos (keywordEach kws X.env)).any (·.1.isNone)) = false := by rfl)
    (ht : eval (.Call (.Attribute o mn apos) [] kws pos) X.env = (do
      let ov ← eval o X.env
      standAt apos.atName
      let (f, first) ← holding [ov] (getMethod ov mn pl)
      callWith pos f first (backTo pos (starEach [] X.env)) (backToKw pos (keywordEach kws X.env))) := by rfl) : DE X W (.Call (.Attribute o mn apos) [] kws pos) (eMeth cn mn 0 ks.length bd ff fo aNil gk) := by
  obtain ⟨C, f, T, F⟩ := F
  obtain ⟨C', f', T', b⟩ := b
  obtain ⟨rfl, rfl⟩ := T.uniq T'
  exact methK_ (pl := pl) c T F b ho hk hj hall hks hpl ht
theorem prop' (c : Cok Γ X W k N sc ow) (F : PrP Γ j cn fn ps ff) (ho : DE X W o fo) (hj : j + 1 ≤ k := by decide) (hab : attributeBase o fn X.env (eval o X.env) = eval o X.env := by rfl) : DE X W (.Attribute o fn pos) (eProp cn ff fo) := by
  obtain ⟨C, p, g, T, F, b⟩ := F
  exact prop_ c T F b (fun _ => rfl) ho hj hab
theorem mkA' (c : Cok Γ X W k N sc ow) (F : MkP Γ j cn ps fm) (b : MkB Γ cn ps n [] bd) (ha : DA X W (e :: es) ga) (hj : j + 1 ≤ k := by decide) (hg : glB sc cn = true := by rfl) (hdb : (cn == ("__debug__" : Str)) = false := by rfl)
    (he : starEach (e :: es) X.env = (false, eval e X.env) :: starEach es X.env := by rfl) (hpl : (backTo pos (starEach es X.env)).any (·.1) = false := by rfl) : DN X W cn (.Call (.Name cn p) (e :: es) [] pos) (mkM n 0 bd fm ga aNil) := by
  obtain ⟨C, f, T, F⟩ := F
  obtain ⟨C', f', T', b⟩ := b
  obtain ⟨rfl, rfl⟩ := T.uniq T'
  exact mkA_ c T F b ha hj hg hdb he hpl
theorem mkK' (c : Cok Γ X W k N sc ow) (F : MkP Γ j cn ps fm) (b : MkB Γ cn ps 0 ks bd) (hk : DK X W kws gk) (hj : j + 1 ≤ k := by decide) (hg : glB sc cn = true := by rfl) (hdb : (cn == ("__debug__" : Str)) = false := by rfl)
    (hall : (backToKw pos (keywordEach kws X.env)).all (·.1.isSome) = true := by rfl) (hks : (backToKw pos (keywordEach kws X.env)).filterMap (·.1) = ks := by rfl)
    (hpl : ((backTo pos (starEach [] X.env)).any (·.1) || (backToKw pos (keywordEach kws X.env)).any (·.1.isNone)) = false := by rfl) : DN X W cn (.Call (.Name cn p) [] kws pos) (mkM 0 ks.length bd fm aNil gk) := by
  obtain ⟨C, f, T, F⟩ := F
  obtain ⟨C', f', T', b⟩ := b
  obtain ⟨rfl, rfl⟩ := T.uniq T'
  exact mkK_ c T F b hk hj hg hdb hall hks hpl
theorem callO' (c : Cok Γ X W k N sc ow) (F : FnPO Γ j x ps foo) (b : FnB Γ x ps ps.length [] (fun ds _ => some ds)) (ha : DA X W (e :: es) ga) (hj : j ≤ k := by decide) (hg : glB sc x = true := by rfl) (hdb : (x == ("__debug__" : Str)) = false := by rfl)
    (he : starEach (e :: es) X.env = (false, eval e X.env) :: starEach es X.env := by rfl) (hpl : (backTo pos (starEach es X.env)).any (·.1) = false := by rfl) : DO X W (.Call (.Name x p) (e :: es) [] pos) (eCallO foo ga) := by
  obtain ⟨f, g, ⟨fd, l1, F⟩, har⟩ := F
  obtain ⟨f', g', ⟨fd', l2, bo⟩⟩ := b
  have e1 := g.1
  rw [g'] at e1
  cases e1
  obtain rfl := l1.uniq l2
  have hpc := c.pc
  subst hpc
  refine ⟨fun pins s σ H Q I z => wpAny_Call_Name_kw (ld_glob I (c.gl hg) g.1 (PySem.W.callWith_K (h₀ := X.base) I.ok.mod.kin g.2 (thn (ha.run pos pins s σ H _ I (args_O z har)) fun us s1 ⟨vs, H1, I1, rv, q⟩ => ⟨I1.kIn, ?_⟩) he hpl) hdb)⟩
  obtain ⟨hl, w, h, ds, hK, hm, hR, t1, q⟩ := q
  obtain ⟨us', vs', hl', hbd, rv', ht⟩ := bo s1 us [] vs [] I1.kIn (by rw [← rv.length]; exact hl) rfl rv .nil
  exact call_fin (run_G F (c.rg.mono hj) c.tk (us := us') (args := ⟨us, []⟩) (fun _ => hbd) I1 rv' ⟨by rw [rv'.length]; exact hl', w, h, ds, hK, hm, hR, ht w H1 ds [] ds hK hm t1 .nil rfl, q⟩)
end
end WR
set_option Elab.async false
set_option linter.all false
set_option autoImplicit false
set_option maxRecDepth 100000
set_option maxHeartbeats 4000000
namespace WR
open PySem PySem.Spec PyProof.Rows L2
def clsBody : Stmt → List Stmt
  | .ClassDef _ _ _ body _ _ _ _ _ _ _ => body
  | _ => []
/-! ### defs as they stand -/
/-- the defaults, in their order -/
def DfOk (K : PySem.W.Frag) (fd : FuncData) : List D → Prop
  | [] => fd.defaults = .none
  | d :: ds => ∃ T o its m vs, fd.defaults = .ref T ∧ K.lookup T = some o ∧ o.data = .seq its m ∧ Vals vs its.toList ∧ ∀ (w : Wd) (H : Hp), w.K = K → DtL w H vs (d :: ds)
def DefF (Γ : PC) (x : Str) (st : Stmt) (dv : List D) : Prop := ∃ f fd, FunA Γ.K x x st f fd ∧ Gf Γ x f ∧ DfOk Γ.K fd dv
def MthF (Γ : PC) (cn mn : Str) (st : Stmt) (dv : List D) : Prop := ∃ C f fd qual, FunA Γ.K mn qual st f fd ∧ MtOk Γ cn mn C f ∧ DfOk Γ.K fd dv
def PrpF (Γ : PC) (cn fn : Str) (st : Stmt) : Prop := ∃ C p g fd qual, FunA Γ.K fn qual st g fd ∧ PrOk Γ cn fn C p g ∧ DfOk Γ.K fd []
def IniF (Γ : PC) (cn : Str) (st : Stmt) (dv : List D) : Prop := ∃ C f fd qual, FunA Γ.K "__init__" qual st f fd ∧ MkOk Γ cn C f ∧ DfOk Γ.K fd dv
section
variable {Γ : PC} {k : Nat} {f C : Addr} {fd : FuncData} {N ps : List Str} {x qual cn mn fn : Str} {st : Stmt} {F : MS} {dv : List D}
theorem fn_denA (Fu : FunA Γ.K x qual st f fd) (Sc : FnScope N ps (defScope st)) (hn : nmsOk N = true) (hbody : ∀ (X : Cx) (B : Bs) (W : WX), Fok Γ X W k N (defScope st) (defScope st) → DSs X B W (defBody st) F) :
    Prom Γ (k + 1) f ps (spI Γ.K Γ.mg ps.length (runB ps.length N.length F)) := by
  refine ⟨fd, Fu.lk, fnA_of Fu Sc (fun vs H Q E h => h.1) fun cdv A outer s H vs Q E hr h => ?_⟩
  obtain ⟨hl, w, h, ds, hK, hm, hR, t, k0⟩ := h
  unfold runB at k0
  rw [if_pos (by rw [← t.length]; exact hl)] at k0
  refine ⟨_, hbody _ ⟨w, H, hR.dom, none⟩ _ (cok_body Sc hn hr), w, none, h, startE N.length ds, ⟨⟨hK, hm, trivial, hR, rep_start t⟩, Step.refl hR, fun i s a q o => by rw [startE_own q] at o; cases o⟩, ?_⟩
  cases q : F (startE N.length ds) h with
  | nx ρ' h' => rw [q] at k0; exact fun σ' H' w' _ c' => k0 .non H' w' c'.bs .non
  | rt d h' => rw [q] at k0; exact fun v H' w' s' t' => k0 v H' w' s' t'
  | bk ρ' h' => rw [q] at k0; exact k0.elim
  | ct ρ' h' => rw [q] at k0; exact k0.elim
  | ex c fs ρ' h' => rw [q] at k0; exact fun cls dx σ' H' w' _ c' x' => k0 cls dx H' w' c'.bs x'
  | ro ds' h' => rw [q] at k0; exact fun p xs H' w' s' hp z n e t' => k0 _ H' _ (s'.frz hR hp n) (.lst e (fun q => q.2 rfl) (t'.to To.minus))
  | no => rw [q] at k0; exact k0.elim
theorem fn_denAO (Fu : FunA Γ.K x qual st f fd) (Sc : FnScope N ps (defScope st)) (hn : nmsOk N = true) (hbody : ∀ (X : Cx) (B : Bs) (W : WX), Fok Γ X W k N (defScope st) (defScope st) → DSs X B W (defBody st) F) :
    Prom Γ (k + 1) f ps (spO Γ.K Γ.mg ps.length (runO ps.length N.length F)) := by
  refine ⟨fd, Fu.lk, fnA_of Fu Sc (fun vs H Q E h => h.1) fun cdv A outer s H vs Q E hr h => ?_⟩
  obtain ⟨hl, w, h, ds, hK, hm, hR, t, k0⟩ := h
  unfold runO at k0
  rw [if_pos (by rw [← t.length]; exact hl)] at k0
  refine ⟨_, hbody _ ⟨w, H, hR.dom, none⟩ _ (cok_body Sc hn hr), w, none, h, startE N.length ds, ⟨⟨hK, hm, trivial, hR, rep_start t⟩, Step.refl hR, fun i s a q o => by rw [startE_own q] at o; cases o⟩, ?_⟩
  cases q : F (startE N.length ds) h with
  | nx ρ' h' => rw [q] at k0; exact k0.elim
  | rt d h' => rw [q] at k0; exact k0.elim
  | bk ρ' h' => rw [q] at k0; exact k0.elim
  | ct ρ' h' => rw [q] at k0; exact k0.elim
  | ex c fs ρ' h' => rw [q] at k0; exact fun cls dx σ' H' w' _ c' x' => k0 cls dx H' w' c'.bs x'
  | ro ds' h' => rw [q] at k0; exact fun p xs H' w' s' hp z n e t' => k0 p xs H' w' s' hp z n e t'
  | no => rw [q] at k0; exact k0.elim
theorem fnP_of (D : DefF Γ x st dv) (Sc : FnScope N ps (defScope st)) (hn : nmsOk N = true) (hbody : ∀ (X : Cx) (B : Bs) (W : WX), Fok Γ X W k N (defScope st) (defScope st) → DSs X B W (defBody st) F) : FnP Γ (k + 1) x ps (runB ps.length N.length F) := by
  obtain ⟨f, fd, Fu, g, df⟩ := D
  exact ⟨f, g, fn_denA Fu Sc hn hbody⟩
theorem fnPO_of (D : DefF Γ x st dv) (Sc : FnScope N ps (defScope st)) (hn : nmsOk N = true) (hbody : ∀ (X : Cx) (B : Bs) (W : WX), Fok Γ X W k N (defScope st) (defScope st) → DSs X B W (defBody st) F) : FnPO Γ (k + 1) x ps (runO ps.length N.length F) := by
  obtain ⟨f, fd, Fu, g, df⟩ := D
  exact ⟨f, g, fn_denAO Fu Sc hn hbody, fun ds h hl => by unfold runO; rw [if_neg hl]⟩
theorem mtP_of (D : MthF Γ cn mn st dv) (Sc : FnScope N ps (defScope st)) (hn : nmsOk N = true) (hbody : ∀ (X : Cx) (B : Bs) (W : WX), Fok Γ X W k N (defScope st) (defScope st) → DSs X B W (defBody st) F) : MtP Γ (k + 1) cn mn ps (runB ps.length N.length F) := by
  obtain ⟨C, f, fd, qual, Fu, g, df⟩ := D
  exact ⟨C, f, g, fn_denA Fu Sc hn hbody⟩
theorem mkP_of (D : IniF Γ cn st dv) (Sc : FnScope N ps (defScope st)) (hn : nmsOk N = true) (hN : 0 < N.length) (hbody : ∀ (X : Cx) (B : Bs) (W : WX), Fok Γ X W k N (defScope st) (defScope st) → DSs X B W (defBody st) F) : MkP Γ (k + 1) cn ps (runN cn ps.length N.length F) := by
  obtain ⟨C, f, fd, qual, Fu, g, df⟩ := D
  exact ⟨C, f, g, fn_denN Fu Sc hn hN g.mg hbody⟩
end
/-! ### how arguments come to parameters -/
def bdId : List D → List D → Option (List D) := fun ds _ => some ds
def pickL {α : Type} (xs : List α) : List Nat → Option (List α)
  | [] => some []
  | i :: r => match xs[i]?, pickL xs r with
    | some x, some ys => some (x :: ys)
    | _, _ => none
def bdP (perm : List Nat) (dv : List D) : List D → List D → Option (List D) := fun ds es => pickL (ds ++ es ++ dv) perm
theorem pickL_dt {w : Wd} {H : Hp} {vs : List V} {ds : List D} (t : DtL w H vs ds) : ∀ {perm : List Nat} {vs' : List V} {ds' : List D}, pickL vs perm = some vs' → pickL ds perm = some ds' → DtL w H vs' ds'
  | [], _, _, h1, h2 => by
    cases h1
    cases h2
    exact .nil
  | i :: r, vs', ds', h1, h2 => by
    unfold pickL at h1 h2
    split at h1
    · rename_i x ys e1 e2
      cases h1
      split at h2
      · rename_i d es e3 e4
        cases h2
        obtain ⟨u, e5, td⟩ := t.get e3
        rw [e1] at e5
        cases e5
        exact .cons td (pickL_dt t e2 e4)
      · cases h2
    · cases h1
theorem vals_at : ∀ {vs : List V} {us : List Value} {i : Nat} {u : Value}, Vals vs us → us[i]? = some u → ∃ v, vs[i]? = some v ∧ RelV v u
  | _, _, _, _, .nil, e => by simp at e
  | _, _, 0, _, .cons h _, e => by
    simp at e
    subst e
    exact ⟨_, rfl, h⟩
  | _, _, i + 1, _, .cons _ r, e => by
    obtain ⟨v, h1, h2⟩ := vals_at (i := i) r (by simpa using e)
    exact ⟨v, by simpa using h1, h2⟩
theorem vals_app : ∀ {vs vs' : List V} {us us' : List Value}, Vals vs us → Vals vs' us' → Vals (vs ++ vs') (us ++ us')
  | _, _, _, _, .nil, r => r
  | _, _, _, _, .cons h r, r' => .cons h (vals_app r r')
theorem vals_pick {vs : List V} {us : List Value} (t : Vals vs us) : ∀ {perm : List Nat} {us' : List Value}, pickL us perm = some us' → ∃ vs', pickL vs perm = some vs' ∧ Vals vs' us'
  | [], _, h => by
    cases h
    exact ⟨[], rfl, .nil⟩
  | i :: r, us', h => by
    unfold pickL at h
    split at h
    · rename_i u ys e1 e2
      cases h
      obtain ⟨vs', h1, h2⟩ := vals_pick t e2
      obtain ⟨v, e3, rv⟩ := vals_at t e1
      refine ⟨v :: vs', ?_, .cons rv h2⟩
      unfold pickL
      rw [e3, h1]
    · cases h
section
variable {Γ : PC} {ps ks : List Str} {x qual cn mn fn : Str} {st : Stmt} {n : Nat} {perm : List Nat} {d0 : D} {dv : List D}
abbrev fdN (x qual : Str) (st : Stmt) (dV kV doc pm : Value) (an : Option Addr) (cdv ct : Value) : FuncData := PySem.W.fnOf x qual (defArgs st) (defBody st) (defScope st) dV kV doc pm an cdv ct
theorem bnd_id {f : Addr} {fd : FuncData} (Fu : FunA Γ.K x qual st f fd) (df : DfOk Γ.K fd []) (hb : ∀ (kV doc pm : Value) (an : Option Addr) (cdv ct : Value) (us : List Value), us.length = ps.length → bindArgs (fdN x qual st .none kV doc pm an cdv ct) ⟨us, []⟩ = pure (ps.zip us)) : BndF Γ f ps ps.length [] bdId := by
  have l := Fu.lk
  obtain ⟨oc, od, dV, kV, doc, pm, an, cdv, ct, osl, rfl, lk, hcd⟩ := Fu.ex
  have e : dV = .none := df
  subst e
  refine ⟨_, l, fun s us ws vs zs hK h1 h2 r1 r2 => ⟨us, vs, h1, ?_, r1, fun w H ds es ds' _ _ t1 _ h => by cases h; exact t1⟩⟩
  cases ws with
  | nil => exact .of_eq (hb _ _ _ _ _ _ us h1)
  | cons => cases h2
theorem bnd_kw {f : Addr} {fd : FuncData} (Fu : FunA Γ.K x qual st f fd) (df : DfOk Γ.K fd []) (hb : ∀ (kV doc pm : Value) (an : Option Addr) (cdv ct : Value) (us ws : List Value), us.length = n → ws.length = ks.length → ∃ us', us'.length = ps.length ∧ pickL (us ++ ws ++ []) perm = some us' ∧ bindArgs (fdN x qual st .none kV doc pm an cdv ct) ⟨us, ks.zip ws⟩ = pure (ps.zip us')) : BndF Γ f ps n ks (bdP perm []) := by
  have l := Fu.lk
  obtain ⟨oc, od, dV, kV, doc, pm, an, cdv, ct, osl, rfl, lk, hcd⟩ := Fu.ex
  have e : dV = .none := df
  subst e
  refine ⟨_, l, fun s us ws vs zs hK h1 h2 r1 r2 => ?_⟩
  obtain ⟨us', hl, hp, he⟩ := hb kV doc pm an cdv ct us ws h1 h2
  obtain ⟨vs', hv, rv⟩ := vals_pick (vals_app (vals_app r1 r2) .nil) hp
  exact ⟨us', vs', hl, .of_eq he, rv, fun w H ds es ds' _ _ t1 t2 h => pickL_dt ((t1.append t2).append .nil) hv h⟩
theorem bnd_df {f : Addr} {fd : FuncData} (Fu : FunA Γ.K x qual st f fd) (df : DfOk Γ.K fd (d0 :: dv)) (hb : ∀ (T : Addr) (kV doc pm : Value) (an : Option Addr) (cdv ct : Value) (us ws its : List Value), us.length = n → ws.length = ks.length → its.length = dv.length + 1 → ∃ us' k, us'.length = ps.length ∧ pickL (us ++ ws ++ its) perm = some us' ∧ bindArgs (fdN x qual st (.ref T) kV doc pm an cdv ct) ⟨us, ks.zip ws⟩ = seqItems? (.ref T) >>= k ∧ k (some its.toArray) = pure (ps.zip us')) : BndF Γ f ps n ks (bdP perm (d0 :: dv)) := by
  have l := Fu.lk
  obtain ⟨oc, od, dV, kV, doc, pm, an, cdv, ct, osl, rfl, lk, hcd⟩ := Fu.ex
  obtain ⟨T, o, its, m, dvs, e, lT, oT, rT, tT⟩ := df
  have e' : dV = .ref T := e
  subst e'
  refine ⟨_, l, fun s us ws vs zs hK h1 h2 r1 r2 => ?_⟩
  have hl : its.toList.length = dv.length + 1 := by
    rw [← rT.length, (tT ⟨Γ.K, Γ.mg, fun _ => False, []⟩ (fun _ => none) rfl).length]
    rfl
  obtain ⟨us', k, hl, hp, he, he2⟩ := hb T kV doc pm an cdv ct us ws its.toList h1 h2 hl
  obtain ⟨vs', hv, rv⟩ := vals_pick (vals_app (vals_app r1 r2) rT) hp
  exact ⟨us', vs', hl, PySem.W.binds_K (K := Γ.K) hK rfl lT oT he (by simpa using he2), rv, fun w H ds es ds' hw _ t1 t2 h => pickL_dt ((t1.append t2).append (tT w H hw)) hv h⟩
theorem fnB_id (D : DefF Γ x st []) (hb : ∀ (kV doc pm : Value) (an : Option Addr) (cdv ct : Value) (us : List Value), us.length = ps.length → bindArgs (fdN x x st .none kV doc pm an cdv ct) ⟨us, []⟩ = pure (ps.zip us)) : FnB Γ x ps ps.length [] bdId := by
  obtain ⟨f, fd, Fu, g, df⟩ := D
  exact ⟨f, g.1, bnd_id Fu df hb⟩
theorem fnB_kw (D : DefF Γ x st []) (hb : ∀ (kV doc pm : Value) (an : Option Addr) (cdv ct : Value) (us ws : List Value), us.length = n → ws.length = ks.length → ∃ us', us'.length = ps.length ∧ pickL (us ++ ws ++ []) perm = some us' ∧ bindArgs (fdN x x st .none kV doc pm an cdv ct) ⟨us, ks.zip ws⟩ = pure (ps.zip us')) : FnB Γ x ps n ks (bdP perm []) := by
  obtain ⟨f, fd, Fu, g, df⟩ := D
  exact ⟨f, g.1, bnd_kw Fu df hb⟩
theorem fnB_df (D : DefF Γ x st (d0 :: dv)) (hb : ∀ (T : Addr) (kV doc pm : Value) (an : Option Addr) (cdv ct : Value) (us ws its : List Value), us.length = n → ws.length = ks.length → its.length = dv.length + 1 → ∃ us' k, us'.length = ps.length ∧ pickL (us ++ ws ++ its) perm = some us' ∧ bindArgs (fdN x x st (.ref T) kV doc pm an cdv ct) ⟨us, ks.zip ws⟩ = seqItems? (.ref T) >>= k ∧ k (some its.toArray) = pure (ps.zip us')) : FnB Γ x ps n ks (bdP perm (d0 :: dv)) := by
  obtain ⟨f, fd, Fu, g, df⟩ := D
  exact ⟨f, g.1, bnd_df Fu df hb⟩
theorem mtB_id (D : MthF Γ cn mn st []) (hb : ∀ (qual : Str) (kV doc pm : Value) (an : Option Addr) (cdv ct : Value) (us : List Value), us.length = ps.length → bindArgs (fdN mn qual st .none kV doc pm an cdv ct) ⟨us, []⟩ = pure (ps.zip us)) : MtB Γ cn mn ps ps.length [] bdId := by
  obtain ⟨C, f, fd, qual, Fu, g, df⟩ := D
  exact ⟨C, f, g, bnd_id Fu df (hb qual)⟩
theorem mtB_kw (D : MthF Γ cn mn st []) (hb : ∀ (qual : Str) (kV doc pm : Value) (an : Option Addr) (cdv ct : Value) (us ws : List Value), us.length = n → ws.length = ks.length → ∃ us', us'.length = ps.length ∧ pickL (us ++ ws ++ []) perm = some us' ∧ bindArgs (fdN mn qual st .none kV doc pm an cdv ct) ⟨us, ks.zip ws⟩ = pure (ps.zip us')) : MtB Γ cn mn ps n ks (bdP perm []) := by
  obtain ⟨C, f, fd, qual, Fu, g, df⟩ := D
  exact ⟨C, f, g, bnd_kw Fu df (hb qual)⟩
theorem mtB_df (D : MthF Γ cn mn st (d0 :: dv)) (hb : ∀ (qual : Str) (T : Addr) (kV doc pm : Value) (an : Option Addr) (cdv ct : Value) (us ws its : List Value), us.length = n → ws.length = ks.length → its.length = dv.length + 1 → ∃ us' k, us'.length = ps.length ∧ pickL (us ++ ws ++ its) perm = some us' ∧ bindArgs (fdN mn qual st (.ref T) kV doc pm an cdv ct) ⟨us, ks.zip ws⟩ = seqItems? (.ref T) >>= k ∧ k (some its.toArray) = pure (ps.zip us')) : MtB Γ cn mn ps n ks (bdP perm (d0 :: dv)) := by
  obtain ⟨C, f, fd, qual, Fu, g, df⟩ := D
  exact ⟨C, f, g, bnd_df Fu df (hb qual)⟩
theorem prP_of {k : Nat} {N : List Str} {F : MS} (D : PrpF Γ cn fn st) (Sc : FnScope N [x] (defScope st)) (hn : nmsOk N = true) (hbody : ∀ (X : Cx) (B : Bs) (W : WX), Fok Γ X W k N (defScope st) (defScope st) → DSs X B W (defBody st) F) (hb : ∀ (qual : Str) (kV doc pm : Value) (an : Option Addr) (cdv ct : Value) (us : List Value), us.length = 1 → bindArgs (fdN fn qual st .none kV doc pm an cdv ct) ⟨us, []⟩ = pure ([x].zip us)) : PrP Γ (k + 1) cn fn [x] (runB 1 N.length F) := by
  obtain ⟨C, p, g, fd, qual, Fu, o, df⟩ := D
  exact ⟨C, p, g, o, fn_denA Fu Sc hn hbody, bnd_id Fu df (hb qual)⟩
/-- with self in front -/
theorem mkB_id {p0 : Str} {ps' : List Str} (D : IniF Γ cn st []) (hb : ∀ (qual : Str) (kV doc pm : Value) (an : Option Addr) (cdv ct : Value) (self : Value) (us : List Value), us.length = ps'.length → bindArgs (fdN "__init__" qual st .none kV doc pm an cdv ct) ⟨self :: us, []⟩ = pure ((p0 :: ps').zip (self :: us))) : MkB Γ cn (p0 :: ps') ps'.length [] bdId := by
  obtain ⟨C, f, fd, qual, Fu, g, df⟩ := D
  have l := Fu.lk
  obtain ⟨oc, od, dV, kV, doc, pm, an, cdv, ct, osl, rfl, lk, hcd⟩ := Fu.ex
  have e : dV = .none := df
  subst e
  refine ⟨C, f, g, _, l, fun s self us ws vs zs hK h1 h2 r1 r2 => ⟨us, vs, by rw [h1]; rfl, ?_, r1, fun w H ds es ds' _ _ t1 _ h => by cases h; exact t1⟩⟩
  cases ws with
  | nil => exact .of_eq (hb _ _ _ _ _ _ _ self us h1)
  | cons => cases h2
theorem mkB_kw {p0 : Str} {ps' : List Str} (D : IniF Γ cn st []) (hb : ∀ (qual : Str) (kV doc pm : Value) (an : Option Addr) (cdv ct : Value) (self : Value) (us ws : List Value), us.length = n → ws.length = ks.length → ∃ us', us'.length = ps'.length ∧ pickL (us ++ ws ++ []) perm = some us' ∧ bindArgs (fdN "__init__" qual st .none kV doc pm an cdv ct) ⟨self :: us, ks.zip ws⟩ = pure ((p0 :: ps').zip (self :: us'))) : MkB Γ cn (p0 :: ps') n ks (bdP perm []) := by
  obtain ⟨C, f, fd, qual, Fu, g, df⟩ := D
  have l := Fu.lk
  obtain ⟨oc, od, dV, kV, doc, pm, an, cdv, ct, osl, rfl, lk, hcd⟩ := Fu.ex
  have e : dV = .none := df
  subst e
  refine ⟨C, f, g, _, l, fun s self us ws vs zs hK h1 h2 r1 r2 => ?_⟩
  obtain ⟨us', hl, hp, he⟩ := hb qual kV doc pm an cdv ct self us ws h1 h2
  obtain ⟨vs', hv, rv⟩ := vals_pick (vals_app (vals_app r1 r2) .nil) hp
  exact ⟨us', vs', by rw [hl]; rfl, .of_eq he, rv, fun w H ds es ds' _ _ t1 t2 h => pickL_dt ((t1.append t2).append .nil) hv h⟩
theorem mkB_df {p0 : Str} {ps' : List Str} (D : IniF Γ cn st (d0 :: dv)) (hb : ∀ (qual : Str) (T : Addr) (kV doc pm : Value) (an : Option Addr) (cdv ct : Value) (self : Value) (us ws its : List Value), us.length = n → ws.length = ks.length → its.length = dv.length + 1 → ∃ us' k, us'.length = ps'.length ∧ pickL (us ++ ws ++ its) perm = some us' ∧ bindArgs (fdN "__init__" qual st (.ref T) kV doc pm an cdv ct) ⟨self :: us, ks.zip ws⟩ = seqItems? (.ref T) >>= k ∧ k (some its.toArray) = pure ((p0 :: ps').zip (self :: us'))) : MkB Γ cn (p0 :: ps') n ks (bdP perm (d0 :: dv)) := by
  obtain ⟨C, f, fd, qual, Fu, g, df⟩ := D
  have l := Fu.lk
  obtain ⟨oc, od, dV, kV, doc, pm, an, cdv, ct, osl, rfl, lk, hcd⟩ := Fu.ex
  obtain ⟨T, o, its, m, dvs, e, lT, oT, rT, tT⟩ := df
  have e' : dV = .ref T := e
  subst e'
  refine ⟨C, f, g, _, l, fun s self us ws vs zs hK h1 h2 r1 r2 => ?_⟩
  have hl : its.toList.length = dv.length + 1 := by
    rw [← rT.length, (tT ⟨Γ.K, Γ.mg, fun _ => False, []⟩ (fun _ => none) rfl).length]
    rfl
  obtain ⟨us', k, hl, hp, he, he2⟩ := hb qual T kV doc pm an cdv ct self us ws its.toList h1 h2 hl
  obtain ⟨vs', hv, rv⟩ := vals_pick (vals_app (vals_app r1 r2) rT) hp
  exact ⟨us', vs', by rw [hl]; rfl, PySem.W.binds_K (K := Γ.K) hK rfl lT oT he (by simpa using he2), rv, fun w H ds es ds' hw _ t1 t2 h => pickL_dt ((t1.append t2).append (tT w H hw)) hv h⟩
end
/-! ### errors -/
def XE (Γ : PC) (x : Str) (fld : Option Str) : Prop := ∃ C, XErr Γ.P Γ.K Γ.mg x C fld
section
variable {Γ : PC} {X : Cx} {B : Bs} {W : WX} {k : Nat} {N : List Str} {sc ow : Scope} {e : Expr} {x f : Str} {p pos kpos : Pos} {fe : En → M D} {g : En → M (List D)}
theorem raise' (c : Cok Γ X W k N sc ow) (T : XE Γ x (some f)) (h : DE X W e fe) (hg : glB sc x = true := by rfl) (he : starEach [e] X.env = (false, eval e X.env) :: starEach [] X.env := by rfl) : DS X B W (.Raise (some (.Call (.Name x p) [e] [] pos)) none kpos) (sRaise x f fe) := by
  obtain ⟨C, T⟩ := T
  exact raise_ c T h hg he
theorem raise0' (c : Cok Γ X W k N sc ow) (T : XE Γ x none) (hg : glB sc x = true := by rfl) : DS X B W (.Raise (some (.Call (.Name x p) [] [] pos)) none kpos) (sRaise0 x) := by
  obtain ⟨C, T⟩ := T
  exact raise0_ c T hg
/-- a comprehension's list to a name that the comprehension reads -/
theorem set' (c : Bok Γ X W N sc ow) (i : Nat) {pos' : Pos} (hf : DE X W e fe) (hs : ∀ env : Env, env.scope.names.lookup x = some .cell → swapsWith e (some (.Name x pos')) pos.line env = pure false) (hc : sc.names.lookup x = some .cell := by rfl) (h : N[i]? = some x := by rfl) (hv : stB sc ow x = true := by rfl) : DS X B W (.Assign [.Name x pos'] e pos) (sAsg fe (tgN i)) :=
  s_set i hf (c.hN ▸ c.nd) (c.ix h) (c.loc hv) (c.lfn hv) (hs _ (by rw [c.hsc]; exact hc))
theorem own' (c : Bok Γ X W N sc ow) (i : Nat) {pos' : Pos} (hf : DO X W e g) (hs : ∀ env : Env, env.scope.names.lookup x = some .cell → swapsWith e (some (.Name x pos')) pos.line env = pure false) (hc : sc.names.lookup x = some .cell := by rfl) (h : N[i]? = some x := by rfl) (hv : stB sc ow x = true := by rfl) : DS X B W (.Assign [.Name x pos'] e pos) (sOwn i g) :=
  s_own i hf (c.hN ▸ c.nd) (c.ix h) (c.loc hv) (c.lfn hv) (hs _ (by rw [c.hsc]; exact hc))
end
end WR
set_option Elab.async false
set_option linter.all false
set_option autoImplicit false
set_option maxRecDepth 100000
set_option maxHeartbeats 4000000
namespace WR
open PySem PySem.Spec PyProof.Rows L2
section
variable {prog : Program} {w : World} {A : Around} {E : Value → Shared → Prop} {s : Shared}
/-! ### t[::-1] -/
theorem adj_rev (n : Nat) : Builtin.Slice.sliceAdjust none none (-1) (n : Int) = ((n : Int) - 1, -1) := by
  unfold Builtin.Slice.sliceAdjust
  simp
theorem plc_rev (n : Nat) : Builtin.Slice.slicePlaces ((n : Int) - 1) (-1) (-1) = n := by
  unfold Builtin.Slice.slicePlaces
  have h1 : ¬ ((-1 : Int) > 0) := by omega
  rw [if_neg h1]
  split
  · have : ((n : Int) - 1 - -1 - 1) / (- -1) + 1 = (n : Int) := by
      have e : (- -1 : Int) = 1 := by omega
      rw [e, Int.ediv_one]
      omega
    rw [this]
    exact Int.toNat_natCast n
  · show (0 : Int).toNat = n
    have : n = 0 := by omega
    rw [this]
    rfl
theorem applied_rev {sl : Addr} {t : Tok} {n : Nat} {Q : Int × Int × Nat → Shared → Prop} (hs : s.heap.IsSliceOf sl .none .none (.int (-1) t)) (h : Q ((n : Int) - 1, -1, n) s) : wpAny (model prog w) A (Builtin.Slice.sliceApplied (.ref sl) (pure (n : Int))) Q E s := by
  obtain ⟨os, hos, hcs, hds⟩ := id hs
  unfold Builtin.Slice.sliceApplied Builtin.Slice.sliceFields
  refine wpAny_bind (wpAny_bind (wpAny_field hos hds (x := .none) rfl (wpAny_bind (wpAny_field hos hds (x := .none) rfl (wpAny_bind (wpAny_field hos hds (x := .int (-1) t) rfl (wpAny_pure ?_)))))))
  refine wpAny_bind (slicePart_int ?_)
  show wpAny _ _ (if ((-1 : Int) == 0) = true then _ else _) _ _ s
  rw [if_neg (by decide)]
  refine wpAny_bind (slicePart_none (wpAny_bind (slicePart_none (wpAny_bind (wpAny_pure ?_)))))
  show wpAny _ _ (match Builtin.Slice.sliceAdjust none none (-1) (n : Int) with | (lo, hi) => pure (lo, (-1 : Int), Builtin.Slice.slicePlaces lo hi (-1))) _ _ s
  rw [adj_rev]
  show wpAny _ _ (pure ((n : Int) - 1, (-1 : Int), Builtin.Slice.slicePlaces ((n : Int) - 1) (-1) (-1))) _ _ s
  rw [plc_rev]
  exact wpAny_pure h
theorem fm_some {α β : Type} {f : α → Option β} {g : α → β} : ∀ {l : List α}, (∀ x ∈ l, f x = some (g x)) → l.filterMap f = l.map g
  | [], _ => rfl
  | x :: l, h => by
    rw [List.filterMap_cons_some (h x (by simp)), List.map_cons, fm_some fun y hy => h y (by simp [hy])]
theorem pick_rev (xs : Array Value) : ((List.range xs.size).filterMap fun (m : Nat) => xs[((xs.size : Int) - 1 + (m : Int) * (-1)).toNat]?).toArray = xs.toList.reverse.toArray := by
  congr 1
  apply List.ext_getElem?
  intro i
  have e : ((List.range xs.size).filterMap fun (m : Nat) => xs[((xs.size : Int) - 1 + (m : Int) * (-1)).toNat]?) = (List.range xs.size).map fun m => xs[xs.size - 1 - m]! := by
    refine fm_some fun m hm => ?_
    · have hm' := List.mem_range.mp hm
      have e1 : ((xs.size : Int) - 1 + (m : Int) * (-1)).toNat = xs.size - 1 - m := by omega
      have h2 : xs.size - 1 - m < xs.size := by omega
      rw [e1, Array.getElem?_eq_getElem h2, Array.getElem!_eq_getD, Array.getD_eq_getD_getElem?, Array.getElem?_eq_getElem h2]
      rfl
  rw [e, List.getElem?_map]
  by_cases hi : i < xs.size
  · have h2 : xs.size - 1 - i < xs.size := by omega
    rw [List.getElem?_range hi, List.getElem?_reverse (by simpa using hi), Option.map_some, Array.getElem!_eq_getD, Array.getD_eq_getD_getElem?, Array.getElem?_eq_getElem h2]
    simp only [Array.length_toList, Array.getElem?_toList]
    rw [Array.getElem?_eq_getElem h2]
    rfl
  · rw [List.getElem?_eq_none (by simpa using hi), List.getElem?_eq_none (by simpa using hi)]
    rfl
theorem getItem_tuple_rev {t sl : Addr} {items : Array Value} {tk : Tok} {Q : Value → Shared → Prop} (ht : IsTup s.heap t items) (hs : s.heap.IsSliceOf sl .none .none (.int (-1) tk))
    (h : Q (.ref s.heap.objs.size) { s with heap := s.heap.push { cls := .type "tuple", data := .seq items.toList.reverse.toArray } }) (hsz : items.size ≤ sizeLine) : wpAny (model prog w) A (getItem (.ref t) (.ref sl)) Q E s := by
  have htake : sizeOk (.seq items.toList.reverse.toArray) := by
    show items.toList.reverse.toArray.size ≤ sizeLine
    simpa using hsz
  obtain ⟨os, hos, hcs, hds⟩ := id hs
  have hTs : s.TypeIs (.ref sl) "slice" := ⟨os, hos, hcs⟩
  unfold getItem
  try with_reducible refine wpAny_holding ?_
  first | refine wpAny_bind (wpAny_pure ?_) | skip
  refine wpAny_bind (wpAny_sequenceKey ht.typeIs (by decide) ?_)
  refine wpAny_bind (wpAny_callSpecial?_slot (name := Str.ofString "__getitem__") ht.typeIs PyProof.Rows.slot_tuple_getitem
    (wpAny_call_entry PyProof.Rows.slot_tuple_getitem ht.typeIs entry_tuple_getitem ?_ (args_tuple_getitem _ _)))
  show wpAny _ _ (Builtin.Tuple.tupleItemsOf (.ref t) >>= _) _ _ s
  refine wpAny_bind (tupleItemsOf_ ht (wpAny_bind (wpAny_typeOf hTs ?_)))
  rw [if_pos (by decide)]
  refine wpAny_bind (applied_rev hs ?_)
  show wpAny _ _ (if (((items.size : Int) - 1 == 0) && (-1 : Int) == 1 && items.size == items.size) = true then _ else _) _ _ s
  rw [if_neg (by simp), pick_rev]
  first
    | exact wpAny_bind (m := Builtin.Tuple.tupleExact _) (wpAny_newObj_type (wpAny_pure ⟨_, rfl, wpAny_pure h⟩) htake)
    | exact wpAny_bind (m := Builtin.Tuple.tupleExact _) (wpAny_newObj_type (wpAny_bind (wpAny_pure (wpAny_pure ⟨_, rfl, wpAny_pure h⟩))) htake)
    | exact wpAny_bind (wpAny_bind (m := Builtin.Tuple.tupleExact _) (wpAny_newObj_type (wpAny_pure (wpAny_pure ⟨_, rfl, wpAny_pure h⟩)) htake))
    | exact wpAny_bind (wpAny_bind (m := Builtin.Tuple.tupleExact _) (wpAny_newObj_type (wpAny_pure ⟨_, rfl, wpAny_pure h⟩) htake))
end
theorem vals_rv : ∀ {vs : List V} {us : List Value}, Vals vs us → Vals vs.reverse us.reverse
  | _, _, .nil => .nil
  | _, _, .cons h r => by
    rw [List.reverse_cons, List.reverse_cons]
    exact vals_app (vals_rv r) (.cons h .nil)
section
variable {Γ : PC} {X : Cx} {B : Bs} {W : WX} {j k n m : Nat} {N : List Str} {sc ow : Scope} {e o a b tg iter : Expr} {es : List Expr} {x cn : Str} {pos p p2 apos : Pos} {f fa fb : En → M D} {g ga gk : En → M (List D)} {ff : List D → M D}
def revP : P1 := fun _ d => match d with
  | .tup ds => some (.tup ds.reverse)
  | _ => none
def eRevT (f : En → M D) : En → M D := e1 revP f
theorem d_revT {pc pu : Pos} {kk : Nat} (h : DE X W e f) : DE X W (.Subscript e (.Slice none none (some (.UnaryOp .USub (.Constant (.int 1) kk pc) pu)) p2) pos) (eRevT f) := by
  refine ⟨fun pins s σ H Q I z => ?_⟩
  obtain ⟨w, hd, hh, ρ, c, k⟩ := z
  refine Subscript_ (thn (h.run pins s σ H (fun v1 H1 => ∃ (w1 : Wd) (h1 : IH) (ds : List D), Step w H w1 h1 H1 ∧ Cur X w1 hd h1 ρ σ H1 ∧ Dt w1 H1 v1 (.tup ds) ∧ ∀ v H' w', Step w H w' h1 H' → Dt w' H' v (.tup ds.reverse) → Q v H') I ?_) fun v s1 ⟨x, H1, I1, r1, w1, h1, ds, s1', c1, t1, q⟩ => ?_)
  · refine tE.run c (wp_bind.mp k) (fun d1 h1 v1 H1 w1 k1 s1 c1 t1 => ?_) fun _ _ _ z => z
    obtain ⟨d, hp, q⟩ := wp_m1.mp k1
    unfold revP at hp
    split at hp
    · cases hp
      exact ⟨w1, h1, _, s1, c1, t1, q⟩
    · cases hp
  · refine wpAny_Slice ?_
    rw [evalPart_none]
    refine wpAny_pure (wpAny_pure ?_)
    rw [evalPart_some]
    refine thn ((d_un (W := W) (pos := pu) o_neg (d_int (i := 1) (k := kk) (pos := pc))).run pins s1 σ H1 (fun v H2 => ∃ w2, v = .int (-1) ∧ Step w1 H1 w2 h1 H2) I1 ⟨w1, hd, h1, ρ, c1, fun v H' w' s t => ⟨w', by cases t; rfl, s⟩⟩) fun st s2 ⟨y, H2, I2, ry, w2, ey, s2'⟩ => ?_
    subst ey
    obtain ⟨tk, rfl⟩ := ry
    have c2 := c1.step s2'
    have t2 := t1.to (s2'.to c1.hr)
    cases t2 with
    | @tup a xs _ a1 l1 =>
      obtain rfl : v = Value.ref a := r1
      have I3 : Inv X pins σ H2 { s2 with heap := s2.heap.push { cls := .type "slice", data := .fields #[.none, .none, .int (-1) tk] } } := I2.kept (t' := s2.toks) fun b ob q => Heap.get?_push_of_some _ q
      obtain ⟨its, r, ht, hz⟩ := I3.tuple (c2.K ▸ a1.sq)
      show wpAny (model X.prog X.w) X.A (subscriptTail e (.Slice none none (some (.UnaryOp .USub (.Constant (.int 1) kk pc) pu)) p2) (.ref a) (.ref s2.heap.objs.size)) (EP X pins σ Q) X.xe { s2 with heap := s2.heap.push { cls := .type "slice", data := .fields #[.none, .none, .int (-1) tk] } }
      refine tail_any (ops := [.ref a, .ref s2.heap.objs.size]) ht.typeIs PyProof.Rows.slot_tuple_getitem.lookup (getItem_tuple_rev ht (Heap.IsSliceOf.new ..) ?_ (by rw [List.size_toArray, ← r.length]; exact hz)) (by with_unfolding_all rfl)
      have rr : Vals xs.reverse its.reverse := vals_rv r
      refine ⟨.ref _, _, lay_tup I3 rr (by rw [List.length_reverse]; exact hz), rfl, ?_⟩
      have hp := I3.hok.fresh (Nat.le_refl _)
      exact q _ _ w2 ((s1'.trans s2').trans (Step.grow c2.hr (same_new hp))) (dt_newT c2.hr hp rfl l1.reverse)
/-! ### t.index(x), of texts -/
def asT : D → Option (List D)
  | .tup ds => some ds
  | _ => none
theorem asT_some {d : D} {ds : List D} (h : asT d = some ds) : d = .tup ds := by
  unfold asT at h
  split at h
  · cases h; rfl
  · cases h
def idxT (ds : List D) (y : D) : Option D := match strsOf ds, y with
  | some xs, .str s => if s ∈ xs then some (.int (xs.idxOf s : Nat)) else none
  | _, _ => none
def eIdx (fa fb : En → M D) : En → M D := fun ρ => (fa ρ).bind fun x => (M.of (asT x)).bind fun ds => (fb ρ).bind fun y => M.of (idxT ds y)
/-- a tuple's object has no dict -/
theorem tup_is {w : Wd} {pins : List (Addr × Obj)} {σ : L2.St} {H : Hp} {s : Shared} {a : Addr} {xs : List V} (I : Inv X pins σ H s) (hK : w.K = X.K) (h : MqT w H a xs) : ∃ ob : Obj, s.heap.get? a = some ob ∧ ob.dict = none := by
  rcases h with ⟨⟨o, h, e⟩, _⟩ | ⟨o, its, n, h1, _, h2, _⟩
  · exact ⟨o, (I.hok a _ h).1, e⟩
  · exact ⟨o, I.kIn a o (hK ▸ h1), h2⟩
theorem vals_strs : ∀ {xs : List Str} {us : List Value}, Vals (xs.map V.str) us → us.length = xs.length ∧ ∀ (j : Nat) (h1 : j < us.length) (h2 : j < xs.length), ∃ t, us[j] = .str xs[j] t
  | [], _, .nil => ⟨rfl, fun j h1 _ => absurd h1 (Nat.not_lt_zero j)⟩
  | x :: xs, _ :: us, .cons h r => by
    obtain ⟨e1, e2⟩ := vals_strs r
    refine ⟨by simp [e1], fun j h1 h2 => ?_⟩
    cases j with
    | zero => exact h
    | succ j => exact e2 j (by simpa using h1) (by simpa using h2)
theorem str_beq (x y : Str) : (x == y) = decide (x = y) := by
  by_cases h : x = y
  · subst h; simp
  · rw [decide_eq_false h]; exact beq_eq_false_iff_ne.mpr h
theorem idx_ {cpos : Pos} (c : Bok Γ X W N sc ow) (ho : DE X W o fa) (h : DE X W e fb) (hbase : attributeBase o "index" X.env (eval o X.env) = eval o X.env := by rfl)
    (hfew : ((backTo cpos (starEach [e] X.env)).all (fun x => !x.1) && (backToKw cpos (keywordEach [] X.env)).all (fun x => x.1.isSome)
      && decide ([e].length + ([] : List Keyword).length + (if ([] : List Keyword).isEmpty then 0 else 1) < 30)) = true := by rfl)
    (hline : (apos.endLine == cpos.line) = true := by rfl) (hs : starEach [e] X.env = (false, eval e X.env) :: starEach [] X.env := by rfl) : DE X W (.Call (.Attribute o "index" apos) [e] [] cpos) (eIdx fa fb) := by
  refine ⟨fun pins s σ H Q I z => ?_⟩
  obtain ⟨w, hd, hh, ρ, cu, k⟩ := z
  refine wpAny_Call_method_late hbase hfew hline rfl (thn (ho.run pins s σ H (fun v1 H1 => ∃ (w1 : Wd) (h1 : IH) (ds : List D), Step w H w1 h1 H1 ∧ Cur X w1 hd h1 ρ σ H1 ∧ Dt w1 H1 v1 (.tup ds) ∧ tCons (tE X W fb) tNil σ H1 fun ys H2 => ∃ (w2 : Wd) (h2 : IH) (x : Str) (xs : List Str), ys = [.str x] ∧ strsOf ds = some xs ∧ x ∈ xs ∧ Step w1 H1 w2 h2 H2 ∧ Cur X w2 hd h2 ρ σ H2 ∧ Q (.int (xs.idxOf x : Nat)) H2) I ?_) fun v s1 ⟨x, H1, I1, r1, w1, h1, ds, s1', c1, t1, q⟩ => ?_)
  · refine tE.run cu (wp_bind.mp k) (fun d1 h1 v1 H1 w1 k1 s1 c1 t1 => ?_) fun _ _ _ z => z
    obtain ⟨ds, hx, k2⟩ := wp_of.mp (wp_bind.mp k1)
    cases asT_some hx
    refine ⟨w1, h1, ds, s1, c1, t1, tE.run c1 (wp_bind.mp k2) (fun d2 h2 v2 H2 w2 k3 s2 c2 t2 => ?_) fun _ _ _ z cls dx H' w' s' => z cls dx H' w' (s1.trans s')⟩
    obtain ⟨d, hp, q⟩ := wp_of.mp k3
    unfold idxT at hp
    split at hp
    · rename_i xs x hxs
      split at hp
      · rename_i hm
        cases hp
        cases t2
        exact ⟨w2, h2, x, xs, rfl, hxs, hm, s2, c2, q _ _ w2 (s1.trans s2) (.int _)⟩
      · cases hp
    · cases hp
  · cases t1 with
    | @tup a vs _ a1 l1 =>
      obtain rfl : v = Value.ref a := r1
      obtain ⟨its, r, ht, hz⟩ := I1.tuple (c1.K ▸ a1.sq)
      refine ⟨"tuple", "tuple.index", PySem.F.plainAttrs_tuple, PySem.F.slot_tuple_index, PySem.F.type_tuple_index, ht.typeIs, fun a' ea => by cases ea; exact tup_is I1 c1.K a1, ?_⟩
      rw [hs]
      refine Calls.callWith_builtin rfl (Calls.evalArgs_plain ?_)
      have ha := (pa_cons h pa_nil hs).run cpos pins s1 σ H1 _ I1 q
      rw [hs] at ha
      refine thn ha fun us s2 ⟨ys, H2, I2, r2, w2, h2, y, xs, ey, hxs, hm, s2', c2, q2⟩ => ?_
      subst ey
      obtain ⟨u, rfl, tk, rfl⟩ := vals1 r2
      have t2 := (Dt.tup a1 l1).to (s2'.to c1.hr)
      cases t2 with
      | @tup _ vs2 _ b1 m1 =>
        obtain ⟨its2, r3, ht2, hz2⟩ := I2.tuple (c2.K ▸ b1.sq)
        have ev := strsOf_some hxs m1
        subst ev
        obtain ⟨el, ei⟩ := vals_strs r3
        refine PySem.SeqAt.call_tuple_index (ks := xs) (k := y) ht2 ⟨el, fun j h1 h2 => ?_⟩ hm ⟨.int _, H2, I2.tok _, ⟨_, rfl⟩, q2⟩
        obtain ⟨t, et⟩ := ei j h1 h2
        rw [et, ← str_beq]
        exact PySem.SeqAt.EqAt.str_str _ _ _ _
end
end WR
set_option Elab.async false
set_option linter.all false
set_option autoImplicit false
set_option maxRecDepth 100000
set_option maxHeartbeats 4000000
namespace WR
open PySem PySem.Spec PyProof.Rows L2
set_option maxRecDepth 100000
/-- the keys met so far, each once -/
def met {κ : Type} [DecidableEq κ] (val : Nat → κ) : Nat → List κ
  | 0 => []
  | i + 1 => if val i ∈ met val i then met val i else val i :: met val i
theorem met_le {κ : Type} [DecidableEq κ] (val : Nat → κ) : ∀ i, (met val i).length ≤ i
  | 0 => Nat.le_refl _
  | i + 1 => by
    have := met_le val i
    unfold met
    split
    · omega
    · simp; omega
theorem met_mem {κ : Type} [DecidableEq κ] (val : Nat → κ) (i : Nat) (k : κ) : decide (k ∈ met val (i + 1)) = (decide (k ∈ met val i) || decide (k = val i)) := by
  show decide (k ∈ if val i ∈ met val i then met val i else val i :: met val i) = _
  by_cases h : val i ∈ met val i
  · rw [if_pos h]
    by_cases e : k = val i
    · subst e
      simp [h]
    · simp [e]
  · rw [if_neg h]
    by_cases e : k = val i
    · subst e
      simp
    · simp [e]
theorem met_len {κ : Type} [DecidableEq κ] (val : Nat → κ) (i : Nat) : (met val (i + 1)).length = if decide (val i ∈ met val i) = true then (met val i).length else (met val i).length + 1 := by
  show (if val i ∈ met val i then met val i else val i :: met val i).length = _
  by_cases h : val i ∈ met val i <;> simp [h]
section
variable {prog : Program} {w : World} {A : Around} {R : Result → Shared → Prop} {I : Addr} {fp wr : List Addr} {G : Array GenState → Array GenState → Prop} {n : Nat} {P : Nat → Value → Prop} {St : Nat → Shared → Prop}
  {κ : Type} [DecidableEq κ] {knd : KeyKind prog w κ}
/-- the loop of set(..), keys of one kind -/
theorem set_loop (V : WalksS prog w A.in1 I fp wr G n P St) (S : Addr) (hS0 : S ∉ fp) (val : Nat → κ) (hval : ∀ i v, P i v → knd.is (val i) v = true ∧ v.scannable = true) (hb : n + 1 < scanBound) :
    ∀ (k i : Nat) (s : Shared), n - i = k → i ≤ n → St i s → s.heap.SetOf knd S (fun y => decide (y ∈ met val i)) (met val i).length →
      (∀ s', Moved (S :: wr) G s s' → s'.heap.SetOf knd S (fun y => decide (y ∈ met val n)) (met val n).length → R (.ok (.ret .none)) s') →
      codeAny (model prog w) A (.builtin "set.update.loop" ⟨[.ref S, .ref I], []⟩) R s := by
  have hw : S ∉ wr := fun h => hS0 (V.sub _ h)
  have sub1 : ∀ b ∈ wr, b ∈ S :: wr := fun b hb => List.mem_cons_of_mem _ hb
  have kept : ∀ {s s' : Shared} {T : κ → Bool} {m : Nat}, Moved wr G s s' → s.heap.SetOf knd S T m → s'.heap.SetOf knd S T m := fun hm hS => by
    obtain ⟨o, es, ep, t, ho, rest⟩ := hS
    exact ⟨o, es, ep, t, hm.heap S _ hw ho, rest⟩
  intro k
  induction k with
  | zero =>
    intro i s hk hi hst hS hR
    obtain rfl : i = n := by omega
    refine codeAny_builtin PyProof.Rows.F.entry_set_update_loop ?_
    rw [Around.under_plainId PyProof.Rows.F.plain_set_update_loop _]
    show wpAny _ A.in1 (pyNext (.ref I) >>= _) _ _ s
    refine wpAny_bind (V.done s _ _ hst fun s' hm => ?_)
    exact wpAny_pure (hR s' (hm.mono sub1) (kept hm hS))
  | succ k ih =>
    intro i s hk hi hst hS hR
    have hlt : i < n := by omega
    refine codeAny_builtin PyProof.Rows.F.entry_set_update_loop ?_
    rw [Around.under_plainId PyProof.Rows.F.plain_set_update_loop _]
    show wpAny _ A.in1 (pyNext (.ref I) >>= _) _ _ s
    refine wpAny_bind (V.item i s _ _ hlt hst fun v s' hP hst' hm => ?_)
    obtain ⟨hv, hsc⟩ := hval i v hP
    show wpAny _ A.in1 (holding [v] (setAdd S v) >>= _) _ _ s'
    refine wpAny_bind (wpAny_holding ?_)
    unfold setAdd
    refine wpAny_holding (wpAny_bind (knd.pyHash (k := val i) hv ?_))
    have hS1 := kept hm hS
    have room : (met val i).length + 1 < scanBound := by have := met_le val i; omega
    refine wpAny_setAddHashed_of (knd := knd) (s := { s' with toks := s'.toks + 1 }) hv hsc hS1 room fun h' sb hS2 => ?_
    have hS3 : h'.SetOf knd S (fun y => decide (y ∈ met val (i + 1))) (met val (i + 1)).length := SetOf_congr hS2 (fun y => (met_mem val i y).symm) (met_len val i).symm
    refine wpAny_pure ⟨plainId_quiet PyProof.Rows.F.plain_set_update_loop _, ih (i + 1) _ (by omega) hlt (V.frame _ s' _ _ hst' (Nat.le_succ _) fun b hb o e => ?_) hS3 fun s2 hm2 q => ?_⟩
    · rw [sb.2 b fun h : b = S => hS0 (by rw [← h]; exact hb)]
      exact e
    · refine hR s2 (Moved.trans V.gtrans ((hm.mono sub1).then_heap (Nat.le_succ _) fun b o hb e => ?_) hm2) q
      rw [sb.2 b fun h : b = S => hb (by rw [h]; exact List.mem_cons_self)]
      exact e
end
section
variable {prog : Program} {w : World} {A : Around} {E : Value → Shared → Prop} {s : Shared} {κ : Type} [DecidableEq κ] {knd : KeyKind prog w κ}
abbrev newSet (led : Bool) : Obj := { cls := .type "set", dict := none, data := .set #[] 0 (.fresh 0 0 led) }
set_option maxHeartbeats 3200000 in
theorem set_of_tuple {l : Addr} {items : Array Value} {val : Nat → κ} {Q : Value → Shared → Prop} (hh : A.handled = none) (hl : s.heap.IsTuple l items) (hval : ∀ i v, items[i]? = some v → knd.is (val i) v = true ∧ v.scannable = true) (hb : items.size + 1 < scanBound)
    (h : ∀ (h' : Heap) (tk : Nat), h'.SetOf knd s.heap.objs.size (fun y => decide (y ∈ met val items.size)) (met val items.size).length → (∀ b o, b < s.heap.objs.size → s.heap.get? b = some o → h'.get? b = some o) → Q (.ref s.heap.objs.size) { s with heap := h', toks := tk }) :
    wpAny (model prog w) A (call (.type "set") [.ref l]) Q E s := by
  obtain ⟨c, tl, hmro⟩ := PySem.F.called_set.mro
  have hmade := PySem.F.called_set.made
  have hsub := PySem.F.called_set.sub
  refine wpAny_call (codeAny_of_tree ?_)
  show wpAny _ _ (callAny (.type "set") _) _ _ _
  refine wpAny_pure ⟨Code.quiet_builtin _ (by decide +kernel), codeAny_builtin PySem.F.entry_type_call ?_⟩
  rw [Around.under_plain (weight_type_call_type "set" [.ref l] []) rfl]
  have h1 := PySem.F.called_set.notType
  have h2 := PySem.F.called_set.canCreate
  have hct := PySem.F.typeCall_set_1 (.ref l)
  repeat (any_goals (first | assumption | wp_step))
  refine codeAny_mono (code_set_new_1 (.ref l) (E := E) (Q₁ := fun obj s₁ => ∃ led : Bool, obj = .ref s.heap.objs.size ∧ s₁ = { s with heap := s.heap.push (newSet led) }) fun led => ⟨led, rfl, rfl⟩) fun r s₁ hr => ?_
  cases r with
  | error e => exact hr
  | ok fl =>
    cases fl with
    | ret obj =>
      obtain ⟨led, rfl, rfl⟩ := hr
      have hS : (s.heap.push (newSet led)).get? s.heap.objs.size = some (newSet led) := Heap.get?_push_size _ rfl
      have hT : Shared.TypeIs { s with heap := s.heap.push (newSet led) } (.ref s.heap.objs.size) "set" := ⟨_, hS, rfl⟩
      have hli := PySem.F.called_set.init.lookup
      have hbi := PySem.F.called_set.init.bind (.ref s.heap.objs.size)
      repeat (any_goals (first | assumption | wp_step))
      refine codeAny_mono (codeAny_call_builtin (R := wants (fun r s₂ => r = .none ∧ ∃ h' tk, s₂ = { s with heap := h', toks := tk } ∧
          h'.SetOf knd s.heap.objs.size (fun y => decide (y ∈ met val items.size)) (met val items.size).length ∧ (∀ b o, b < s.heap.objs.size → s.heap.get? b = some o → h'.get? b = some o)) E) PySem.F.called_set.init.plain PySem.F.entry_set_init (check_set_init_1 hT ?_)) fun r₂ s₂ hr₂ => ?_
      · obtain ⟨ol, hol, hcl, nl, hdl⟩ := hl
        obtain ⟨ocls, odict, odata, oslots⟩ := ol
        simp only at hcl hdl
        subst hcl; subst hdl
        have hol' : (s.heap.push (newSet led)).get? l = some { cls := .type "tuple", dict := odict, data := .seq items nl, slots := oslots } := Heap.get?_push_of_some _ hol
        have hsls := PySem.F.sub_tuple_set
        have hslf := PySem.F.sub_tuple_frozenset
        have hne : (Value.type "tuple" == Value.type "dict") = false := by decide
        have hl1 : (s.heap.push (newSet led)).IsTuple l items := ⟨_, hol', rfl, nl, rfl⟩
        unfold Builtin.«set.__init__» noKeywords Builtin.Frozenset.updateFrom
        generalize hPI : pyIter = PI
        wp_walk
        subst hPI
        refine wpAny_pyIter_tuple hl1 (wpAny_bind (wpAny_runValue ?_))
        have hlS : l < s.heap.objs.size := Heap.lt_size hol
        have hneI : l ≠ (s.heap.push (newSet led)).objs.size := by
          rw [Heap.size_push]; exact Nat.ne_of_lt (Nat.lt_succ_of_lt hlS)
        have hSf : s.heap.objs.size ∉ [(s.heap.push (newSet led)).objs.size, l] := by
          rw [Heap.size_push]; simp only [List.mem_cons, List.mem_singleton, List.not_mem_nil, or_false, not_or]
          exact ⟨Nat.ne_of_lt (Nat.lt_succ_self _), Nat.ne_of_gt hlS⟩
        refine set_loop (knd := knd) ((Walks.tuple (A := A.in1.in1.in1) (by simp [hh]) _ l hneI items).toS) s.heap.objs.size hSf val hval hb (items.size - 0) 0 _ (by omega) (Nat.zero_le _)
          ⟨⟨_, Heap.get?_push_size _ rfl, rfl, rfl⟩, ⟨_, Heap.get?_push_of_some _ hol', rfl, nl, rfl⟩⟩ ?hS0 ?hR
        case hS0 =>
          have hget : ((s.heap.push (newSet led)).push { cls := .type "tuple_iterator", data := .fields #[.ref l, .int 0 0] }).get? s.heap.objs.size = some (newSet led) := Heap.get?_push_of_some _ hS
          exact SetOf_congr ((setObjOf_fresh (knd := knd) led).setOf hget (by unfold scanBound; omega)) (fun _ => rfl) rfl
        case hR =>
          intro s' hm hS'
          obtain ⟨h', g', d', tk', os'⟩ := s'
          have eg : g' = s.gens := hm.gens
          have ed : d' = s.drawn := hm.drawn
          have eo : os' = s.os := hm.os
          subst eg; subst ed; subst eo
          refine wpAny_pure ?_
          show wpAny _ _ (ret Value.none) _ _ _
          refine wpAny_pure ⟨rfl, h', tk', rfl, hS', fun b o hb e => ?_⟩
          have hb1 : b ≠ s.heap.objs.size := Nat.ne_of_lt hb
          have hb2 : b ≠ (s.heap.push (newSet led)).objs.size := by
            rw [Heap.size_push]; exact Nat.ne_of_lt (Nat.lt_succ_of_lt hb)
          exact hm.heap b o (by simp only [List.mem_cons, List.mem_singleton, List.not_mem_nil, or_false, not_or]; exact ⟨hb1, hb2⟩) (Heap.get?_push_of_some _ (Heap.get?_push_of_some _ e))
      · cases r₂ with
        | error e => exact hr₂
        | ok fl₂ =>
          cases fl₂ with
          | ret r =>
            obtain ⟨rfl, h', tk, rfl, hS', hk'⟩ := hr₂
            repeat (any_goals (first | assumption | wp_step))
            exact h _ _ hS' hk'
          | _ => exact hr₂.elim
    | _ => exact hr.elim
end
end WR
namespace WR
open PySem PySem.Spec PyProof.Rows L2
section
variable {Γ : PC} {X : Cx} {W : WX} {k : Nat} {N : List Str} {sc ow : Scope} {e : Expr} {pos p : Pos} {f : En → M D}
/-! ### len(set(t)), t a tuple of texts -/
def setN (xs : List Str) : Nat := (met (fun i => xs.getD i Str.empty) xs.length).length
def setP : P1 := fun _ d => match d with
  | .tup ds => match strsOf ds with
    | some xs => if xs.length ≤ 4000 then some (.int (setN xs : Nat)) else none
    | none => none
  | _ => none
def eLenSet (f : En → M D) : En → M D := e1 setP f
theorem lenSet_ {pp ps : Pos} (c : Cok Γ X W k N sc ow) (h1 : Γ.mg "len" = none) (h2 : Γ.mg "set" = none) (h : DE X W e f) (hg1 : glB sc "len" = true := by rfl) (hg2 : glB sc "set" = true := by rfl)
    (na : starEach [e] X.env = (false, eval e X.env) :: starEach [] X.env := by rfl) : DE X W (.Call (.Name "len" p) [.Call (.Name "set" pp) [e] [] ps] [] pos) (eLenSet f) := by
  have hpc := c.pc
  subst hpc
  refine ⟨fun pins s σ H Q I z => ?_⟩
  obtain ⟨w, hd, hh, ρ, cu, k0⟩ := z
  refine Call_ (ld_blt I (c.gl hg1) h1 boot_len (PyProof.Rows.callWith_builtin1 (PyProof.Rows.args_cons (Call_ (ld_blt I (c.gl hg2) h2 boot_set ?_)) rfl) rfl rfl))
  refine PyProof.Rows.callWith_type1 (PyProof.Rows.args_cons (thn (h.run pins s σ H (fun v H1 => ∃ (a : Addr) (xs : List Str), v = .ref a ∧ SqT X.K H1 a (xs.map V.str) ∧ xs.length ≤ 4000 ∧ Q (.int (setN xs : Nat)) H1) I ?_) fun v s1 ⟨x, H1, I1, r1, a, xs, ex, hq, hl, q⟩ => PyProof.Rows.args_nil ?_) na) na rfl
  · refine tE.run cu (wp_bind.mp k0) (fun d1 h1 v1 H1 w1 k1 s1 c1 t1 => ?_) fun _ _ _ z => z
    obtain ⟨d, hp, q⟩ := wp_m1.mp k1
    unfold setP at hp
    split at hp
    · split at hp
      · rename_i xs hxs
        split at hp
        · rename_i hl
          cases hp
          cases t1 with
          | @tup a vs _ a1 l1 =>
            have ev := strsOf_some hxs l1
            subst ev
            exact ⟨a, xs, rfl, c1.K ▸ a1.sq, hl, q _ _ w1 s1 (.int _)⟩
        · cases hp
      · cases hp
    · cases hp
  · subst ex
    obtain rfl : v = Value.ref a := r1
    obtain ⟨its, r, ht, hz⟩ := I1.tuple hq
    obtain ⟨el, ei⟩ := vals_strs r
    have hlen : its.toArray.size = xs.length := by rw [List.size_toArray]; exact el
    refine set_of_tuple (knd := strKind X.prog X.w) (val := fun i => xs.getD i Str.empty) (I1.ok.hd c.calm) ht (fun i v hv => ?_) (by rw [hlen]; unfold scanBound; omega) fun h' tk hS hk => ?_
    · rw [List.getElem?_toArray] at hv
      obtain ⟨hi, rfl⟩ := List.getElem?_eq_some_iff.mp hv
      have hi2 : i < xs.length := by rw [← el]; exact hi
      obtain ⟨t, et⟩ := ei i hi hi2
      rw [et]
      have e3 : xs.getD i Str.empty = xs[i] := by rw [List.getD_eq_getElem?_getD, List.getElem?_eq_getElem hi2]; rfl
      rw [e3]
      exact ⟨strKind_is _ _ _ _, rfl⟩
    · refine PyProof.Rows.args_nil ?_
      rw [hlen] at hS
      obtain ⟨o, es, ep, t, ho, hex, hd', _, _, _, hf, hn⟩ := hS
      have I2 : Inv X pins σ H1 { s1 with heap := h', toks := tk } := I1.kept fun b o e => hk b o (Heap.lt_size e) e
      have hle : (met (fun i => xs.getD i Str.empty) xs.length).length ≤ xs.length := met_le _ _
      exact call_len_set ho hex hd' hf (by rw [hn]; omega) ⟨.int (setN xs : Nat), H1, I2.tok _, ⟨_, by rw [hn]; rfl⟩, q⟩
end
end WR
set_option Elab.async false
set_option linter.all false
set_option autoImplicit false
set_option maxRecDepth 100000
set_option maxHeartbeats 4000000
namespace WR
open PySem PySem.Spec PyProof.Rows L2
open AutoSeq1 (wpAny_loadPart')
set_option maxRecDepth 100000
/-! ### enumerate(t) of a tuple -/
theorem meets_enumT (l : Addr) (items : Array Value) (n : Nat) (dct : Option Addr) (sl : Array (Option Value)) :
    Meets (Builtin.«enumerate.__new__» ⟨[.type "enumerate", .ref l], []⟩) (fun _ R s => s.heap.get? l = some { cls := .type "tuple", dict := dct, data := .seq items n, slots := sl } ∧
      R (.ok (.ret (.ref (s.heap.push { cls := .type "tuple_iterator", data := .fields #[.ref l, .int 0 0] }).objs.size)))
        { s with heap := (s.heap.push { cls := .type "tuple_iterator", data := .fields #[.ref l, .int 0 0] }).push { cls := .type "enumerate", data := .fields #[.none, .bool false, .ref s.heap.objs.size, rawInt 0, .none, .none] } }) :=
  .of_wp fun prog w A R s h => by
    obtain ⟨hp, g, d, tk, os⟩ := s; obtain ⟨hl, h⟩ := h
    have hsub := sub_enumerate
    have hL : Heap.IsTuple (Shared.heap ⟨hp, g, d, tk, os⟩) l items := ⟨_, hl, rfl, n, rfl⟩
    wp_walk using wpAny_loadPart' hl
    refine wpAny_stack_any fun st => wpAny_pure ?_
    split
    · rename_i c _ _ _ _ _
      cases (c == Value.type "enumerate")
      · wp_walk using wpAny_loadPart' hl, wpAny_pyIter_tuple hL
        exact ⟨_, rfl, h⟩
      · wp_walk using wpAny_loadPart' hl, wpAny_pyIter_tuple hL
        exact ⟨_, rfl, h⟩
    · wp_walk using wpAny_loadPart' hl, wpAny_pyIter_tuple hL
      exact ⟨_, rfl, h⟩
section
variable {prog : Program} {w : World} {A : Around} {E : Value → Shared → Prop} {s : Shared}
theorem call_enumT {l : Addr} {items : Array Value} {Q : Value → Shared → Prop} (hL : s.heap.IsTuple l items)
    (h : ∀ h', IsEnum h' (s.heap.objs.size + 1) s.heap.objs.size 0 .none → h'.IsTupleIter s.heap.objs.size l 0 → (∀ b o, s.heap.get? b = some o → h'.get? b = some o) → Q (.ref (s.heap.objs.size + 1)) { s with heap := h' }) :
    wpAny (model prog w) A (call (.type "enumerate") [.ref l]) Q E s := by
  obtain ⟨⟨c, dct, dt, sl⟩, hl, hc, n, hd⟩ := hL
  replace hc : c = .type "tuple" := hc
  replace hd : dt = .seq items n := hd
  subst hc hd
  refine callType_new PySem.F.called_enumerate (by decide) (PySem.F.typeCall_enumerate_1 _) (PySem.F.newCall_enumerate_1 _) (fun obj => PySem.F.args_object_init_2 obj _) PySem.F.entry_enumerate_new (meets_enumT l items n dct sl) ⟨hl, ?_⟩
  have hz : (s.heap.push { cls := .type "tuple_iterator", data := .fields #[.ref l, .int 0 0] }).objs.size = s.heap.objs.size + 1 := Heap.size_push ..
  show _ ∧ _
  rw [hz]
  have he : IsEnum ((s.heap.push { cls := .type "tuple_iterator", data := .fields #[.ref l, .int 0 0] }).push { cls := .type "enumerate", data := .fields #[.none, .bool false, .ref s.heap.objs.size, rawInt 0, .none, .none] }) (s.heap.objs.size + 1) s.heap.objs.size 0 .none := by
    have := Heap.get?_push_size (s.heap.push { cls := .type "tuple_iterator", data := .fields #[.ref l, .int 0 0] }) (o := { cls := .type "enumerate", data := .fields #[.none, .bool false, .ref s.heap.objs.size, rawInt 0, .none, .none] }) rfl
    rw [hz] at this
    exact this
  exact ⟨⟨_, he, rfl⟩, h _ he ⟨_, Heap.get?_push_of_some _ (Heap.get?_push_size _ rfl), rfl, rfl⟩ fun b o x => Heap.get?_push_of_some _ (Heap.get?_push_of_some _ x)⟩
end
theorem draws_tuple {prog : Program} {w : World} {A : Around} (hh : A.handled = none) (it l : Addr) (hne : l ≠ it) (items : Array Value) :
    Draws prog w A it [it, l] items.size (fun i v => items[i]? = some v) (fun i h => h.IsTupleIter it l i ∧ h.IsTuple l items) where
  live := fun _ _ st => let ⟨o, ho, _⟩ := st.1; ⟨o, ho⟩
  frame := fun _ _ _ st hk => ⟨st.1.at fun o e => hk it (by simp) o e, st.2.at fun o e => hk l (by simp) o e⟩
  item := fun i s Q E hi st hQ => by
    refine RZ.nextOf_tuple_item st.1 st.2 (x := items[i]) (by simp [hi]) fun h' hit' hs' => ?_
    exact hQ _ h' s.toks (by simp [hi]) ⟨hit', st.2.at fun o e => hs'.extBut l o hne e⟩ hs'
  done := fun s Q E st hE => RZ.nextOf_tuple_end hh st.1 st.2 (by simp) hE
/-- the tuple at a, each item in a new pair -/
def IteT (K : PySem.W.Frag) (a : Addr) : It :=
  ⟨fun i H => ∃ (xs : List V) (x : V), SqT K H a xs ∧ xs[i]? = some x, fun i H v H' => ∃ T x, v = .ref T ∧ H T = none ∧ H' = upd H T (.tup [.int (i : Nat), x]) ∧ ∀ xs, SqT K H a xs → xs[i]? = some x, fun i H => ∃ xs : List V, SqT K H a xs ∧ xs.length = i⟩
theorem turn_enumT {P : Program} {w : World} {K : PySem.W.Frag} {elts : List Expr} {kk : Nat} {tpos : Pos} (a e it : Addr) (hai : a ≠ it) (hae : a ≠ e) :
    Turn P w K (.Tuple elts kk tpos) (IteT K a) [e, it] e (fun i h => (∃ old, IsEnum h e it ((i : Nat) : Int) old) ∧ h.IsTupleIter it a i ∧ e ≠ it) where
  mem := by simp
  obj := fun i h st b hb => by
    obtain ⟨⟨old, he⟩, ⟨o, ho, hc, hd⟩, _⟩ := st
    have e' : b = e ∨ b = it := by simpa using hb
    rcases e' with z | z
    · rw [z]; exact ⟨_, he, fun v q => nomatch q⟩
    · rw [z]; exact ⟨o, ho, fun v q => by rw [hd] at q; cases q⟩
  keep := fun i h h' st k => let ⟨⟨old, he⟩, hi, hne⟩ := st; ⟨⟨old, k e (by simp) _ he⟩, hi.at fun o q => k it (by simp) o q, hne⟩
  item := by
    intro X hP hw hK hc i pins s σ H E I hf st hg
    subst hP hw hK
    obtain ⟨⟨old, he⟩, hit, hne⟩ := st
    obtain ⟨xs, x, hq, hx⟩ := hg
    obtain ⟨its, rv, p, hz⟩ := I.tuple hq
    obtain ⟨u, hu, ru⟩ := rv.get hx
    have hel : e < s.heap.objs.size := Heap.lt_size he
    have hil : it < s.heap.objs.size := by obtain ⟨_, q, _⟩ := hit; exact Heap.lt_size q
    have hlt : i < its.toArray.size := by rw [List.size_toArray]; exact (List.getElem?_eq_some_iff.mp hu).1
    refine wpAny_pyNext_enum_itemD (draws_tuple (A := X.A.in1) (by simp [I.ok.hd hc]) it a hai its.toArray) he ⟨hit, p⟩ hlt hne (by simp [hne, Ne.symm hae]) fun y h' tk hy ho hit' hT hsz hk => ?_
    have hy' : its[i]? = some y := by simpa using hy
    rw [hu] at hy'
    cases hy'
    refine ⟨_, rfl, wpAny_letOwnedTupleGo_enum (s := { s with heap := h', toks := tk + 1 }) ho fun h'' he' sb => ?_⟩
    have hT2 : h''.get? s.heap.objs.size = some { cls := .type "tuple", data := .seq #[.int i tk, u] } := (sb.2 _ (Nat.ne_of_gt hel)).trans hT
    have new : ObjOk X.prog X.w (upd H s.heap.objs.size (.tup [.int (i : Nat), x])) h'' s.heap.objs.size (.tup [.int (i : Nat), x]) :=
      ⟨by show 2 ≤ sizeLine; decide, [.int i tk, u], .cons ⟨_, rfl⟩ (.cons ru .nil), ⟨_, hT2, rfl, _, rfl⟩⟩
    have I1 : Inv X pins σ (upd H s.heap.objs.size (.tup [.int (i : Nat), x])) { s with heap := h'', toks := tk + 1 } :=
      I.turnedNew (ch := [e, it]) (fun b ob hb q => (sb.2 b (fun z => hb (by simp [z]))).trans (hk b ob (fun z => hb (by simp [z])) (fun z => hb (by simp [z])) q)) hf (Nat.le_refl _) new
    refine ⟨.ref s.heap.objs.size, _, I1, rfl, ⟨_, x, rfl, I.hok.fresh (Nat.le_refl _), rfl, fun ys hy => by rw [I.tuple_inj hy hq]; exact hx⟩, ⟨⟨u, ?_⟩, hit'.1.at fun o q => (sb.2 it (Ne.symm hne)).trans q, hne⟩, fun b hb => ?_⟩
    · have e1 : ((i + 1 : Nat) : Int) = (i : Int) + 1 := by omega
      rw [e1]
      exact he'
    · have hb' : b < s.heap.objs.size := by
        have e' : b = e ∨ b = it := by simpa using hb
        rcases e' with z | z
        · rw [z]; exact hel
        · rw [z]; exact hil
      rw [upd_ne (Nat.ne_of_lt hb')]
      exact (hf b hb).1
  done := by
    intro X hP hw hK hc i pins s σ H E I hf st hg
    subst hP hw hK
    obtain ⟨⟨old, he⟩, hit, hne⟩ := st
    obtain ⟨xs, hq, hx⟩ := hg
    obtain ⟨its, rv, p, hz⟩ := I.tuple hq
    obtain ⟨f0, f1, f2, f3, f4, f5⟩ := hf it (by simp)
    have hn : its.toArray.size = i := by rw [List.size_toArray, ← rv.length]; exact hx
    subst hn
    exact wpAny_pyNext_enum_endD (draws_tuple (A := X.A.in1) (by simp [I.ok.hd hc]) it a hai its.toArray) he ⟨hit, p⟩ fun h' eb => ⟨rfl, I.turned (t' := s.toks) (fun b o hb q => eb b o hb q) f0 f1 f3 f4 f5⟩
  self := fun A i s Q E st h => let ⟨⟨_, he⟩, _⟩ := st; wpAny_pyIter_enum he h
def iEnumT (K : PySem.W.Frag) (ta : TA) : TI := fun σ H R => ta σ H fun vs H1 => ∃ a xs, vs = [.ref a] ∧ SqT K H1 a xs ∧ R (IteT K a) H1
theorem pi_enumT {X : Cx} {e : Expr} {ta : TA} {p pos tpos : Pos} {elts : List Expr} {kk : Nat} (hg : Gl X "enumerate") (hm : X.mg "enumerate" = none) (ha : PA X [e] ta) (hs : starEach [e] X.env = [(false, eval e X.env)] := by rfl) :
    PI X (.Tuple elts kk tpos) (.Call (.Name "enumerate" p) [e] [] pos) (iEnumT X.K ta) := by
  refine ⟨fun pins s σ H R I h => ?_⟩
  refine Call_ (ld_blt I hg hm boot_enumerate (PyProof.Rows.callWith_type1 (thn (ha.run pos pins s σ H _ I h) fun us s1 ⟨vs, H1, I1, r1, a, xs, ex, hq, q⟩ => ?_) hs rfl))
  subst ex
  cases r1 with
  | cons r rr =>
    cases rr
    cases r
    obtain ⟨its, rv, p', hz⟩ := I1.tuple hq
    have hal : a < s1.heap.objs.size := p'.lt
    refine call_enumT p' fun h' he hit hk => wpAny_pyIter_enum he ?_
    have I2 : Inv X pins σ H1 { s1 with heap := h' } := I1.kept (t' := s1.toks) hk
    refine ⟨s1.heap.objs.size + 1, [s1.heap.objs.size + 1, s1.heap.objs.size], _, _, H1, rfl, I2, turn_enumT a (s1.heap.objs.size + 1) s1.heap.objs.size (Nat.ne_of_lt hal) (Nat.ne_of_lt (Nat.lt_succ_of_lt hal)), ⟨⟨.none, he⟩, hit, Nat.succ_ne_self _⟩, fun b hb => ?_, q⟩
    have e' : b = s1.heap.objs.size + 1 ∨ b = s1.heap.objs.size := by simpa using hb
    have hle : s1.heap.objs.size ≤ b := by
      rcases e' with z | z
      · rw [z]; exact Nat.le_add_right _ _
      · rw [z]; exact Nat.le_refl _
    exact I1.fpOk hle (I1.hok.fresh hle)
def enuD : Nat → List D → List D
  | _, [] => []
  | n, d :: ds => .pr [.int (n : Nat), d] :: enuD (n + 1) ds
theorem enuD_len : ∀ (n : Nat) (ds : List D), (enuD n ds).length = ds.length
  | _, [] => rfl
  | n, _ :: ds => congrArg (· + 1) (enuD_len (n + 1) ds)
theorem enuD_get : ∀ {n : Nat} {ds : List D} {i : Nat} {d : D}, (enuD n ds)[i]? = some d → ∃ x, ds[i]? = some x ∧ d = .pr [.int ((n + i : Nat) : Int), x]
  | _, [], _, _, h => by simp [enuD] at h
  | n, x :: ds, 0, d, h => by
    simp [enuD] at h
    exact ⟨x, rfl, by rw [← h]; rfl⟩
  | n, x :: ds, i + 1, d, h => by
    obtain ⟨y, h1, h2⟩ := enuD_get (n := n + 1) (ds := ds) (i := i) (by simpa [enuD] using h)
    refine ⟨y, by simpa using h1, ?_⟩
    rw [h2]
    have : n + 1 + i = n + (i + 1) := by omega
    rw [this]
def enuP : List D → Option (List D) := fun ds => match ds with
  | [.tup ds] => some (enuD 0 ds)
  | _ => none
theorem walk_enumT {K : PySem.W.Frag} {a : Addr} {xs : List V} : Walk (IteT K a) xs.length (fun H => SqT K H a xs) (YPair (fun i => some (.int (i : Nat))) (fun i => xs[i]?)) := by
  refine ⟨fun i _ hi q => ⟨xs, xs[i], q, by simp [hi]⟩, fun _ q => ⟨xs, q, rfl⟩, fun i H v H' _ q y => ?_⟩
  obtain ⟨T, x, h1, h2, h3, h4⟩ := y
  exact ⟨T, .int (i : Nat), x, h1, h2, h3, rfl, h4 xs q⟩
section
variable {Γ : PC} {X : Cx} {W : WX} {k : Nat} {N : List Str} {sc ow : Scope} {e : Expr} {pos p : Pos} {ga : En → M (List D)}
theorem wk_enumT {w : Wd} {xs : List V} {ds : List D} {a : Addr} {H : Hp} (h1 : MqT w H a xs) (t1 : DtL w H xs ds) : Wk X w (IteT X.K a) (enuD 0 ds) H :=
  wk_walk (by rw [enuD_len, ← t1.length]; exact walk_enumT (xs := xs)) (fun w2 _ H2 to _ hK2 => by rw [← hK2]; exact (h1.to to).sq) fun i w2 h2 H2 x H' d to hr _ hd y => by
    obtain ⟨T, x, y, rfl, hT, rfl, e1, e2⟩ := y
    obtain ⟨d2, q2, rfl⟩ := enuD_get hd
    obtain ⟨v2, hv2, tv2⟩ := (t1.to to).get q2
    have e2' : xs[i]? = some y := e2
    rw [e2'] at hv2
    cases hv2
    cases e1
    rw [Nat.zero_add]
    exact ⟨same_new hT, dt_pair hr hT (.int _) tv2⟩
theorem enum_ {tpos : Pos} {elts : List Expr} {kk : Nat} (c : Bok Γ X W N sc ow) (hm : Γ.mg "enumerate" = none) (h : DA X W [e] ga) (hg : glB sc "enumerate" = true := by rfl) (hs : starEach [e] X.env = [(false, eval e X.env)] := by rfl) : DI X W (.Tuple elts kk tpos) (.Call (.Name "enumerate" p) [e] [] pos) (iOf enuP ga) := by
  have hpc := c.pc
  subst hpc
  refine PI.of (pi_enumT (c.gl hg) hm h hs) fun σ H Q ⟨w, hd, hh, ρ, cu, k0⟩ => ?_
  refine tL.run cu (wp_bind.mp k0) (fun ds h1 vs H1 w1 k1 s1 c1 t1 => ?_) fun _ _ _ z => z
  obtain ⟨es, hp, q⟩ := wp_of.mp k1
  unfold enuP at hp
  split at hp
  · cases hp
    cases t1 with
    | cons t1 tr =>
      cases tr
      cases t1 with
      | @tup a xs _ a1 l1 => exact ⟨a, xs, rfl, c1.K ▸ a1.sq, q _ _ _ s1 (wk_enumT a1 l1)⟩
  · cases hp
end
end WR
set_option Elab.async false
set_option linter.all false
set_option autoImplicit false
set_option maxRecDepth 100000
set_option maxHeartbeats 4000000
namespace WR
open PySem PySem.Spec PyProof.Rows L2
set_option maxRecDepth 100000
/-! ### == by an own __eq__ -/
def eqTs : List String := ["NoneType", "bool", "int", "str", "tuple", "list", "dict"]
def NeK (K : PySem.W.Frag) (C f : Addr) : Prop := ∃ (nm q : Str) (N : Addr) (bs : List Value) (hdct : Bool) (sn : List Str) (sub : List Value) (ab : Bool) (col : Option Bool) (dd : Option Addr) (k0 k1 k2 k3 k5 : Option Value) (newId : String),
  K.lookup C = some (excClassObj nm q C N bs [.type "object"] hdct sn sub ab col dd k0 k1 k2 k3 k5 newId) ∧ PySem.W.nsOkIn K N = true ∧ PySem.W.nsIn K N "__eq__" = some (some (.ref f)) ∧ PySem.W.nsIn K N "__ne__" = some none
def EqF (Γ : PC) (cn : Str) : Prop := ∀ C f, MtOk Γ cn "__eq__" C f → (∀ T ∈ eqTs, PySem.W.subIn Γ.K (.type T) (.ref C) = some false ∧ PySem.W.subIn Γ.K (.ref C) (.type T) = some false) ∧ NeK Γ.K C f
def EqP (Γ : PC) (k : Nat) (cn : Str) (ff : List D → M D) : Prop := ∃ C f ps, MtOk Γ cn "__eq__" C f ∧ ((∀ T ∈ eqTs, PySem.W.subIn Γ.K (.type T) (.ref C) = some false ∧ PySem.W.subIn Γ.K (.ref C) (.type T) = some false) ∧ NeK Γ.K C f) ∧ Prom Γ k f ps (spI Γ.K Γ.mg ps.length ff) ∧ BndF Γ f ps 2 [] bdId
theorem eqP_of {Γ : PC} {k : Nat} {cn : Str} {N : List Str} {p1 p2 : Str} {st : Stmt} {F : MS} (D : MthF Γ cn "__eq__" st []) (E : EqF Γ cn) (hb : ∀ (qual : Str) (kV doc pm : Value) (an : Option Addr) (cdv ct : Value) (us : List Value), us.length = 2 → bindArgs (fdN "__eq__" qual st .none kV doc pm an cdv ct) ⟨us, []⟩ = pure ([p1, p2].zip us)) (Sc : FnScope N [p1, p2] (defScope st)) (hn : nmsOk N = true) (hbody : ∀ (X : Cx) (B : Bs) (W : WX), Fok Γ X W k N (defScope st) (defScope st) → DSs X B W (defBody st) F) : EqP Γ (k + 1) cn (runB 2 N.length F) := by
  obtain ⟨C, f, fd, qual, Fu, g, df⟩ := D
  exact ⟨C, f, [p1, p2], g, E C f g, fn_denA Fu Sc hn hbody, bnd_id (ps := [p1, p2]) Fu df (hb qual)⟩
/-- the built-in types beside an own class -/
def tyE : D → Option String
  | .non => some "NoneType"
  | .bl _ => some "bool"
  | .int _ => some "int"
  | .str _ => some "str"
  | .tup _ => some "tuple"
  | .lst _ => some "list"
  | .fz _ => some "list"
  | _ => none
theorem tyE_in {d : D} {T : String} (h : tyE d = some T) : T ∈ eqTs := by
  unfold tyE at h
  split at h <;> first | (cases h; decide) | cases h
section
variable {X : Cx} {pins : List (Addr × Obj)} {σ : L2.St} {H : Hp} {s : Shared} {w : Wd}
theorem tyE_is (I : Inv X pins σ H s) (hK : w.K = X.K) {v : V} {u : Value} {d : D} {T : String} (t : Dt w H v d) (r : RelV v u) (h : tyE d = some T) : s.TypeIs u T := by
  cases t with
  | non => cases h; cases r; rfl
  | bl b => cases h; cases r; rfl
  | int i => cases h; obtain ⟨t, rfl⟩ := r; exact typeIs_int s i t
  | str x => cases h; obtain ⟨t, rfl⟩ := r; exact typeIs_str s x t
  | lst a1 n1 l1 => cases h; cases r; obtain ⟨its, r', pl, hz⟩ := I.list (SqL.of a1); exact pl.isList.typeIs
  | fz a1 l1 => cases h; cases r; obtain ⟨its, r', pl, hz⟩ := I.list (hK ▸ a1.sq); exact pl.isList.typeIs
  | tup a1 l1 => cases h; cases r; obtain ⟨its, r', pl, hz⟩ := I.tuple (hK ▸ a1.sq); exact pl.typeIs
  | _ => cases h
theorem looks_ty {M : Model} {u : Value} {T : String} (h : s.TypeIs u T) : PySem.W.Looks M s.heap (typeOf u) (.type T) := fun A Q E s' k q => wpAny_typeOf (by
  cases u with
  | ref a => obtain ⟨o, ho, hc⟩ := h; exact ⟨o, k a o ho, hc⟩
  | _ => exact h) q
end
section
variable {Γ : PC} {X : Cx} {W : WX} {j k : Nat} {N : List Str} {sc ow : Scope} {C f : Addr} {ps : List Str} {ff : List D → M D} {pins : List (Addr × Obj)} {σ : L2.St} {H : Hp} {s : Shared}
/-- the own __eq__ runs -/
theorem run_eq {A' : Around} {w : Wd} {h : IH} {x y : V} {u v : Value} {d1 d2 : D} {Q : Bool → Hp → Prop} (pc : pcOf X = Γ) (hr : RG j A') (e0 : Env0 X.prog X.w X.K X.mg X.base A' X.stack s H) (F : Prom Γ j f ps (spI Γ.K Γ.mg ps.length ff)) (b : BndF Γ f ps 2 [] bdId) (I : Inv X pins σ H s) (hK : w.K = X.K) (hm : w.mg = X.mg) (hR : HR w h H) (rx : RelV x u) (ry : RelV y v) (t1 : Dt w H x d1) (t2 : Dt w H y d2)
    (q : ((noX (ff [d1, d2])).bind (fun d => M.of (asB d)) h).wp (fun b h' => ∀ H' w', Step w H w' h' H' → Q b H') (fun _ _ _ => False)) :
    wpAny (model X.prog X.w) A' (call (.ref f) [u, v]) (fun r s' => ∃ b, r = .bool b ∧ ∃ H', Inv X pins σ H' s' ∧ Q b H') X.xe s := by
  obtain ⟨fd, l1, F⟩ := F
  obtain ⟨fd', l2, bo⟩ := b
  obtain rfl := l1.uniq l2
  subst pc
  obtain ⟨us', vs', hl', hbd', rv', ht⟩ := bo s [u, v] [] [x, y] [] I.kIn rfl rfl (.cons rx (.cons ry .nil)) .nil
  have sp : spI X.K X.mg ps.length ff vs' H (fun z H' => ∃ b, z = .bl b ∧ Q b H') (fun _ _ _ => False) := by
    refine ⟨by rw [rv'.length]; exact hl', w, h, [d1, d2], hK, hm, hR, ht w H [d1, d2] [] [d1, d2] hK hm (.cons t1 (.cons t2 .nil)) .nil rfl, ?_⟩
    refine (wp_noX.mp (wp_bind.mp q)).mono (fun d h' q v H' w' s t => ?_) fun _ _ _ z => z.elim
    obtain ⟨b, hb, q⟩ := wp_of.mp q
    cases asB_some hb
    cases t
    exact ⟨b, rfl, q H' w' s⟩
  refine wpAny_call (codeAny_mono (F.run A' X.stack s H ⟨[u, v], []⟩ us' vs' _ _ hr e0 hbd' rv' sp) fun r s' hq => ?_)
  cases r with
  | error er =>
    obtain ⟨_, _, _, _, _, _, _, _, _, _, _, _, _, _, _, _, z⟩ := XE.of_call (W := fun _ _ _ _ => False) I (fun cls d H' z => z) hq
    exact z.elim
  | ok fl =>
    cases fl with
    | ret u =>
      obtain ⟨v, H', I3, rv, b, e, q3⟩ := I.after hq
      subst e
      cases rv
      exact ⟨b, rfl, H', I3, q3⟩
    | next => exact False.elim hq
    | brk => exact False.elim hq
    | cont => exact False.elim hq
end
end WR
set_option Elab.async false
set_option linter.all false
set_option autoImplicit false
set_option maxRecDepth 100000
set_option maxHeartbeats 4000000
namespace WR
open PySem PySem.Spec PyProof.Rows L2
open AutoSeq1 (wpAny_loadPart')
set_option maxRecDepth 100000
section
variable {prog : Program} {w : World} {A : Around} {E : Value → Shared → Prop} {s : Shared} {K : PySem.W.Frag} {x C f dx : Addr} {od : Obj} {ox : Obj}
/-- isinstance of an instance, by the frozen part -/
theorem isInst_K {M : Model} {T : Value} {r : Bool} {Q : Bool → Shared → Prop} (X : K.In s.heap) (J : PySem.W.InstAt s.heap x ox C od) (e : PySem.W.subIn K (.ref C) T = some r) (h : Q r s) : wpAny M A (isInstance (.ref x) T) Q E s := by
  unfold isInstance
  exact wpAny_bind (J.type.here ((PySem.W.looks_subIn X e).here h))
theorem decl_none {Q : Value → Shared → Prop} (h : Q .notImplemented s) : wpAny (model prog w) A (call (.builtin "NoneType.__eq__") [.none, .ref x]) Q E s :=
  PySem.call_gives PySem.F.slot_NoneType_eq rfl PySem.F.entry_NoneType_eq (PySem.F.args_NoneType_eq_2 _ _) (PySem.SeqAt.NoneType___eq___none_ref_0 x) h
theorem decl_tuple {l : Addr} {items : Array Value} {Q : Value → Shared → Prop} (X : K.In s.heap) (J : PySem.W.InstAt s.heap x ox C od) (e : PySem.W.subIn K (.ref C) (.type "tuple") = some false) (ht : IsTup s.heap l items) (h : Q .notImplemented s) : wpAny (model prog w) A (call (.builtin "tuple.__eq__") [.ref l, .ref x]) Q E s := by
  refine GQ.call_here PySem.F.slot_tuple_eq ht.typeIs PySem.F.entry_tuple_eq (PySem.F.args_tuple_eq_2 _ _) ?_
  have hi : ∀ {Q' : Bool → Shared → Prop} {E' : Value → Shared → Prop}, Q' false s → wpAny (model prog w) A.in1 (isInstance (.ref x) (.type "tuple")) Q' E' s := fun q => isInst_K X J e q
  wp_walk using hi
  exact h
theorem decl_list {l : Addr} {items : Array Value} {Q : Value → Shared → Prop} (X : K.In s.heap) (J : PySem.W.InstAt s.heap x ox C od) (e : PySem.W.subIn K (.ref C) (.type "list") = some false) (ht : s.heap.IsList l items) (h : Q .notImplemented s) : wpAny (model prog w) A (call (.builtin "list.__eq__") [.ref l, .ref x]) Q E s := by
  refine GQ.call_here PySem.F.slot_list_eq ht.typeIs PySem.F.entry_list_eq (PySem.F.args_list_eq_2 _ _) ?_
  have hi : ∀ {Q' : Bool → Shared → Prop} {E' : Value → Shared → Prop}, Q' false s → wpAny (model prog w) A.in1 (isInstance (.ref x) (.type "list")) Q' E' s := fun q => isInst_K X J e q
  wp_walk using hi
  exact h
theorem decl_str {z : Str} {t : Tok} {Q : Value → Shared → Prop} (J : s.heap.get? x = some (PySem.W.instObj C dx)) (h : Q .notImplemented s) : wpAny (model prog w) A (call (.builtin "str.__eq__") [.str z t, .ref x]) Q E s := by
  refine GQ.call_here PySem.F.slot_str_eq (typeIs_str s z t) PySem.F.entry_str_eq (PySem.F.args_str_eq_2 _ _) ?_
  wp_walk using wpAny_loadPart' J
  exact h
theorem decl_int {z : Int} {t : Tok} {Q : Value → Shared → Prop} (J : s.heap.get? x = some (PySem.W.instObj C dx)) (h : Q .notImplemented s) : wpAny (model prog w) A (call (.builtin "int.__eq__") [.int z t, .ref x]) Q E s := by
  refine GQ.call_here PySem.F.slot_int_eq (typeIs_int s z t) PySem.F.entry_int_eq (PySem.F.args_int_eq_2 _ _) ?_
  wp_walk using wpAny_loadPart' J
  exact h
theorem decl_bool {z : Bool} {Q : Value → Shared → Prop} (J : s.heap.get? x = some (PySem.W.instObj C dx)) (h : Q .notImplemented s) : wpAny (model prog w) A (call (.builtin "int.__eq__") [.bool z, .ref x]) Q E s := by
  refine GQ.call_here PySem.F.slot_bool_eq rfl PySem.F.entry_int_eq (PySem.F.args_int_eq_2 _ _) ?_
  wp_walk using wpAny_loadPart' J
  exact h
/-- the left one declines, the right one's own __eq__ is asked -/
theorem rc_refl {u : Value} {T id : String} {Q : Value → Shared → Prop} (hu : A.units < cLine) (X : K.In s.heap) (J : PySem.W.InstAt s.heap x ox C od) (hT : s.TypeIs u T) (sl : Slot T (cmpInfo .Eq).2.1 id) (hsub : PySem.W.subIn K (.ref C) (.type T) = some false) (hs : PySem.W.findIn K (.ref C) "__eq__" = some (some (.ref f))) (hf : PySem.W.isFn K (.ref f) = true)
    (hd : ∀ {Q' : Value → Shared → Prop}, Q' .notImplemented s → wpAny (model prog w) A (call (.builtin id) [u, .ref x]) Q' E s) (h : wpAny (model prog w) A (call (.ref f) [.ref x, u]) (PySem.W.CmpBack Q) E s) : wpAny (model prog w) A (richCompare .Eq u (.ref x)) Q E s := by
  have two : wpAny (model prog w) A (tryCompare (.ref x) (cmpInfo .Eq).2.2 u) (fun r s' => ∃ v, r = some v ∧ Q v s') E s := by
    unfold tryCompare
    refine wpAny_bind (PySem.W.ifBound_K X J hs hf (wpAny_mono h (fun v s' hv => ?_) fun _ _ e => e))
    cases v <;> first | exact hv.elim | exact wpAny_pure ⟨_, rfl, hv⟩
  unfold richCompare
  simp only [hT.oneThing_none]
  refine wpAny_holding (wpAny_bind (wpAny_cRoomFor hu (wpAny_bind (wpAny_typeOf hT (wpAny_bind (J.type.here ?_))))))
  rw [if_pos (by simp)]
  refine wpAny_bind ((PySem.W.looks_subIn X hsub).here ?_)
  simp only [Bool.false_eq_true, if_false]
  refine wpAny_bind (wpAny_tryCompare_declines hT sl (hd ⟨rfl, ?_⟩))
  simp only [Bool.not_false, if_true]
  refine wpAny_bind (wpAny_mono two (fun r s' z => ?_) fun _ _ e => e)
  obtain ⟨v, rfl, q⟩ := z
  exact wpAny_pure q
end
end WR
set_option Elab.async false
set_option linter.all false
set_option autoImplicit false
set_option maxRecDepth 100000
set_option maxHeartbeats 4000000
namespace WR
open PySem PySem.Spec PyProof.Rows L2
set_option maxRecDepth 100000
def okR (cn : Str) : D → Bool
  | .obj c _ => decide (c = cn)
  | d => (tyE d).isSome
def runEq (ff : List D → M D) (x y : D) : M Bool := (noX (ff [x, y])).bind fun d => M.of (asB d)
def eqArg (cn : Str) (x y : D) : Option (D × D) := match x with
  | .obj c fs => if c = cn ∧ okR cn y = true then some (.obj c fs, y) else none
  | x => match y with
    | .obj c fs => if c = cn ∧ (tyE x).isSome = true then some (.obj c fs, x) else none
    | _ => none
def eqDM (cn : Str) (ff : List D → M D) (x y : D) : M Bool := (M.of (eqArg cn x y)).bind fun p => runEq ff p.1 p.2
def eeqO (cn : Str) (ff : List D → M D) (fa fb : En → M D) : En → M D := fun ρ => (fa ρ).bind fun x => (fb ρ).bind fun y => (eqDM cn ff x y).bind fun b => M.pure (.bl b)
def neArg (cn : Str) (x y : D) : Option (D × D) := match x, y with
  | .obj c fs, .obj c' fs' => if c = cn ∧ c' = cn then some (.obj c fs, .obj c' fs') else none
  | _, _ => none
def neDM (cn : Str) (ff : List D → M D) (x y : D) : M Bool := (M.of (neArg cn x y)).bind fun p => runEq ff p.1 p.2
def eneO (cn : Str) (ff : List D → M D) (fa fb : En → M D) : En → M D := fun ρ => (fa ρ).bind fun x => (fb ρ).bind fun y => (neDM cn ff x y).bind fun b => M.pure (.bl (!b))
theorem ns_some {K : PySem.W.Frag} {h : Heap} {N : Addr} {mg : Str → Option Value} {n : Str} {v : Value} (X : K.In h) (G : h.Ns N mg) (e : PySem.W.nsIn K N n = some (some v)) : mg n = some v := by
  obtain ⟨o, es, ep, ho, hd, _, hf⟩ := G
  unfold PySem.W.nsIn at e
  split at e
  · rename_i c d es' n' sl q
    have := X _ _ q
    rw [ho] at this
    cases this
    cases hd
    split at e
    · rename_i en he
      cases e
      rw [← hf]
      unfold nsFind findBy
      rw [← Array.find?_toList, he]
      rfl
    · split at e <;> cases e
  · cases e
section
variable {Γ : PC} {X : Cx} {B : Bs} {W : WX} {j k : Nat} {N : List Str} {sc ow : Scope} {a b : Expr} {cn : Str} {pos : Pos} {fa fb : En → M D} {ff : List D → M D}
def rEqO (X : Cx) (m : D → D → M Bool) (g : Bool → Bool) : R2 := fun x y H Q => ∃ w h d1 d2, w.K = X.K ∧ w.mg = X.mg ∧ HR w h H ∧ Dt w H x d1 ∧ Dt w H y d2 ∧ ((m d1 d2) h).wp (fun b h' => ∀ H' w', Step w H w' h' H' → Q (.bl (g b)) H') (fun _ _ _ => False)
theorem RG.units {k : Nat} {A : Around} (r : RG k A) : A.units + 200 < cLine := by have := r.room.un; omega
/-- what is known of the call -/
theorem eq_call {pins : List (Addr × Obj)} {s : Shared} {σ : L2.St} {H : Hp} {w : Wd} {h : IH} {x y : V} {a b : Value} {d1 d2 : D} {f : Addr} {ps : List Str} {Q : VK} (c : Cok Γ X W k N sc ow) (F : Prom Γ j f ps (spI Γ.K Γ.mg ps.length ff)) (bd : BndF Γ f ps 2 [] bdId) (hj : j ≤ k) (I : Inv X pins σ H s) (hK : w.K = X.K) (hm : w.mg = X.mg) (hR : HR w h H) (rx : RelV x a) (ry : RelV y b) (t1 : Dt w H x d1) (t2 : Dt w H y d2)
    (q : ((runEq ff d1 d2) h).wp (fun b h' => ∀ H' w', Step w H w' h' H' → Q (.bl b) H') (fun _ _ _ => False)) : wpAny (model X.prog X.w) X.A (call (.ref f) [a, b]) (PySem.W.CmpBack (EP X pins σ Q)) X.xe s :=
  wpAny_mono (run_eq (Q := fun b H' => Q (.bl b) H') c.pc (c.rg.mono hj) I.env0 F bd I hK hm hR rx ry t1 t2 q) (fun r s' ⟨b, e, H', I', q'⟩ => by
    subst e
    exact ⟨.bl b, H', I', rfl, q'⟩) fun _ _ e => e
theorem eq_left {pins : List (Addr × Obj)} {s : Shared} {σ : L2.St} {H : Hp} {w : Wd} {h : IH} {x y : V} {v u : Value} {ds : List (Str × D)} {d2 : D} {Q : VK} (c : Cok Γ X W k N sc ow) (P : EqP Γ j cn ff) (hj : j ≤ k) (I : Inv X pins σ H s) (hK : w.K = X.K) (hm : w.mg = X.mg) (hR : HR w h H) (rx : RelV x v) (ry : RelV y u) (t1 : Dt w H x (.obj cn ds)) (t2 : Dt w H y d2) (ho : okR cn d2 = true)
    (q : ((runEq ff (.obj cn ds) d2) h).wp (fun b h' => ∀ H' w', Step w H w' h' H' → Q (.bl b) H') (fun _ _ _ => False)) : wpAny (model X.prog X.w) X.A (richCompare .Eq v u) (EP X pins σ Q) X.xe s := by
  obtain ⟨C, f, ps, T, ⟨hsub, _⟩, F, bd⟩ := P
  have ca := eq_call c F bd hj I hK hm hR rx ry t1 t2 q
  have hpc := c.pc
  subst hpc
  have hC : X.mg cn = some (.ref C) := T.cl.mg
  have un : X.A.units < cLine := by have := c.un; omega
  cases t1 with
  | @obj a1 C1 dx1 c1 xs1 ds1 hg1 e1 n1 l1 =>
    rw [hm, hC] at hg1
    cases hg1
    obtain rfl : v = Value.ref a1 := rx
    obtain ⟨mA, J, _⟩ := ins_get I.hok e1
    obtain ⟨od, J, _⟩ := J.look
    obtain ⟨m, hF⟩ := I.fr
    cases et : tyE d2 with
    | some T2 =>
      refine PySem.W.cmp_K (op := .Eq) (tb := .type T2) un hF I.ok.mod.kin J (looks_ty (tyE_is I hK t2 ry et)) ?_ T.mt.at_ T.mt.fn ca
      have e := (hsub T2 (tyE_in et)).1
      show (Value.type T2 == Value.ref C || PySem.W.subIn X.K (.type T2) (.ref C) == some false) = true
      rw [show PySem.W.subIn X.K (.type T2) (.ref C) = some false from e]
      simp
    | none =>
      cases d2 with
      | obj c2 ds2 =>
        have hc2 : c2 = cn := of_decide_eq_true ho
        subst hc2
        cases t2 with
        | @obj a2 C2 dx2 _ xs2 _ hg2 e2 n2 l2 =>
          rw [hm, hC] at hg2
          cases hg2
          obtain rfl : u = Value.ref a2 := ry
          obtain ⟨mB, J2, _⟩ := ins_get I.hok e2
          obtain ⟨od2, J2, _⟩ := J2.look
          exact PySem.W.cmp_K (op := .Eq) (tb := .ref C) un hF I.ok.mod.kin J J2.type (by simp [PySem.W.notFirst]) T.mt.at_ T.mt.fn ca
      | _ => first | (cases ho; done) | (cases et; done)
theorem eq_right {pins : List (Addr × Obj)} {s : Shared} {σ : L2.St} {H : Hp} {w : Wd} {h : IH} {x y : V} {v u : Value} {ds : List (Str × D)} {d1 : D} {Q : VK} (c : Cok Γ X W k N sc ow) (P : EqP Γ j cn ff) (hj : j ≤ k) (I : Inv X pins σ H s) (hK : w.K = X.K) (hm : w.mg = X.mg) (hR : HR w h H) (rx : RelV x v) (ry : RelV y u) (t1 : Dt w H x d1) (t2 : Dt w H y (.obj cn ds)) (ho : (tyE d1).isSome = true)
    (q : ((runEq ff (.obj cn ds) d1) h).wp (fun b h' => ∀ H' w', Step w H w' h' H' → Q (.bl b) H') (fun _ _ _ => False)) : wpAny (model X.prog X.w) X.A (richCompare .Eq v u) (EP X pins σ Q) X.xe s := by
  obtain ⟨C, f, ps, T, ⟨hsub, _⟩, F, bd⟩ := P
  have ca := eq_call c F bd hj I hK hm hR ry rx t2 t1 q
  have hpc := c.pc
  subst hpc
  have hC : X.mg cn = some (.ref C) := T.cl.mg
  have un : X.A.units < cLine := by have := c.un; omega
  cases t2 with
  | @obj a2 C2 dx2 c2 xs2 ds2 hg2 e2 n2 l2 =>
    rw [hm, hC] at hg2
    cases hg2
    obtain rfl : u = Value.ref a2 := ry
    obtain ⟨mA, J0, _⟩ := ins_get I.hok e2
    obtain ⟨od, J, _⟩ := J0.look
    have g : s.heap.get? a2 = some (PySem.W.instObj C dx2) := (I.hok a2 _ e2).2.2.2.1
    have go : ∀ {T' id : String}, tyE d1 = some T' → Slot T' (cmpInfo .Eq).2.1 id → (∀ {Q' : Value → Shared → Prop}, Q' .notImplemented s → wpAny (model X.prog X.w) X.A (call (.builtin id) [v, .ref a2]) Q' X.xe s) → wpAny (model X.prog X.w) X.A (richCompare .Eq v (.ref a2)) (EP X pins σ Q) X.xe s := fun et sl hd =>
      rc_refl un I.kIn J (tyE_is I hK t1 rx et) sl (hsub _ (tyE_in et)).2 T.mt.at_ T.mt.fn hd ca
    have sb := fun T' (h : T' ∈ eqTs) => (hsub T' h).2
    cases t1 with
    | non => cases rx; exact go rfl PySem.F.slot_NoneType_eq fun h => decl_none h
    | bl b => cases rx; exact go rfl PySem.F.slot_bool_eq fun h => decl_bool g h
    | int i => obtain ⟨t, rfl⟩ := rx; exact go rfl PySem.F.slot_int_eq fun h => decl_int g h
    | str z => obtain ⟨t, rfl⟩ := rx; exact go rfl PySem.F.slot_str_eq fun h => decl_str g h
    | lst a1 n1 l1 =>
      cases rx
      obtain ⟨its, r', pl, hz⟩ := I.list (SqL.of a1)
      exact go rfl PySem.F.slot_list_eq fun h => decl_list I.kIn J (sb "list" (by decide)) pl.isList h
    | fz a1 l1 =>
      cases rx
      obtain ⟨its, r', pl, hz⟩ := I.list (hK ▸ a1.sq)
      exact go rfl PySem.F.slot_list_eq fun h => decl_list I.kIn J (sb "list" (by decide)) pl.isList h
    | tup a1 l1 =>
      cases rx
      obtain ⟨its, r', pl, hz⟩ := I.tuple (hK ▸ a1.sq)
      exact go rfl PySem.F.slot_tuple_eq fun h => decl_tuple I.kIn J (sb "tuple" (by decide)) pl h
    | _ => cases ho
theorem op_eqO (c : Cok Γ X W k N sc ow) (P : EqP Γ j cn ff) (hj : j ≤ k) : OpR X (compareOp .Eq) (rEqO X (eqDM cn ff) id) := by
  intro pins s σ H x y v u Q I rx ry ⟨w, h, d1, d2, hK, hm, hR, t1, t2, q⟩
  show wpAny (model X.prog X.w) X.A (richCompare .Eq v u) (EP X pins σ Q) X.xe s
  obtain ⟨p, hp, q⟩ := wp_of.mp (wp_bind.mp q)
  unfold eqArg at hp
  split at hp
  · split at hp
    · rename_i hc
      obtain ⟨rfl, ho⟩ := hc
      cases hp
      exact eq_left c P hj I hK hm hR rx ry t1 t2 ho q
    · cases hp
  · split at hp
    · split at hp
      · rename_i hc
        obtain ⟨rfl, ho⟩ := hc
        cases hp
        exact eq_right c P hj I hK hm hR rx ry t1 t2 ho q
      · cases hp
    · cases hp
theorem op_neO (c : Cok Γ X W k N sc ow) (P : EqP Γ j cn ff) (hj : j + 1 ≤ k) : OpR X (compareOp .NotEq) (rEqO X (neDM cn ff) (!·)) := by
  intro pins s σ H x y v u Q I rx ry ⟨w, h, d1, d2, hK, hm, hR, t1, t2, q⟩
  show wpAny (model X.prog X.w) X.A (richCompare .NotEq v u) (EP X pins σ Q) X.xe s
  obtain ⟨C, f, ps, T, ⟨_, hn⟩, F, bd⟩ := P
  have hpc := c.pc
  subst hpc
  have hC : X.mg cn = some (.ref C) := T.cl.mg
  obtain ⟨p, hp, q⟩ := wp_of.mp (wp_bind.mp q)
  unfold neArg at hp
  split at hp
  · split at hp
    · rename_i hc
      obtain ⟨rfl, rfl⟩ := hc
      cases hp
      have t1' := t1
      have t2' := t2
      cases t1 with
      | @obj a1 C1 dx1 _ xs1 _ hg1 e1 n1 l1 =>
        rw [hm, hC] at hg1
        cases hg1
        cases t2 with
        | @obj a2 C2 dx2 _ xs2 _ hg2 e2 n2 l2 =>
          rw [hm, hC] at hg2
          cases hg2
          have rx' := rx
          have ry' := ry
          obtain rfl : v = Value.ref a1 := rx
          obtain rfl : u = Value.ref a2 := ry
          have g1 : s.heap.get? a1 = some (PySem.W.instObj C dx1) := (I.hok a1 _ e1).2.2.2.1
          have g2 : s.heap.get? a2 = some (PySem.W.instObj C dx2) := (I.hok a2 _ e2).2.2.2.1
          obtain ⟨nm, qn, NN, bs, hdct, sn, sub, ab, col, dd, k0, k1, k2, k3, k5, newId, hk, hns, heq, hne⟩ := hn
          have kin := I.kIn
          have Gn : s.heap.Ns NN (s.heap.nsMap NN) := .of_isNs (PySem.W.isNs_of_in kin hns)
          obtain ⟨fdd, ⟨oc, od, osl, lf⟩, _⟩ := id F
          have hfc : oc = .type "function" := by
            have e : (PySem.W.typeIn X.K (.ref f) == some (.type "function")) = true := T.mt.fn
            have e2 : PySem.W.typeIn X.K (.ref f) = some oc := by
              show (X.K.lookup f).map (·.cls) = _
              rw [show X.K.lookup f = some ⟨oc, od, .func fdd, osl⟩ from lf]
              rfl
            rw [e2] at e
            exact Option.some.inj (beq_iff_eq.mp e)
          have OW : Heap.OwnEqNoNe s.heap a1 C f "object" [.type "object"] := ⟨_, _, nm, qn, NN, bs, hdct, sn, sub, ab, col, dd, k0, k1, k2, k3, k5, newId, s.heap.nsMap NN, some (.builtin "object.__eq__"), g1, rfl, kin _ _ hk, Gn, ns_some kin Gn heq, kin _ _ lf, hfc, PySem.F.cmp_object.mro, PySem.F.cmp_object.eq.lookup, PySem.W.ns_none_of kin Gn hne⟩
          obtain ⟨hp, gg, dr, tk, os⟩ := s
          have un : X.A.units + 1 < cLine := by have := c.un; omega
          refine richCompare_ne_ownEq PySem.F.cmp_object OW g2 rfl un ?_
          refine wpAny_mono (run_eq (Q := fun b H' => Q (.bl (!b)) H') rfl ((c.rg.mono hj).in1) I.env0.in1 F bd I hK hm hR rx' ry' t1' t2' q) (fun r s' ⟨b, e, H', I', q'⟩ => ?_) fun _ _ e => e
          exact ⟨b, e, .bl (!b), H', I', rfl, q'⟩
    · cases hp
  · cases hp
theorem t_eqO {m : D → D → M Bool} {g : Bool → Bool} {σ : L2.St} {H : Hp} {Q : VK} (hx : ∀ d1 d2 h Q E, ((m d1 d2) h).wp Q E → ((m d1 d2) h).wp Q (fun _ _ _ => False)) (z : tE X W (fun ρ => (fa ρ).bind fun x => (fb ρ).bind fun y => (m x y).bind fun b => M.pure (.bl (g b))) σ H Q) : tOp (rEqO X m g) (tE X W fa) (tE X W fb) σ H Q := by
  obtain ⟨w, hd, h, ρ, c, k⟩ := z
  refine tE.run c (wp_bind.mp k) (fun d1 h1 v1 H1 w1 k1 s1 c1 t1 => ?_) fun _ _ _ z => z
  refine tE.run c1 (wp_bind.mp k1) (fun d2 h2 v2 H2 w2 k2 s2 c2 t2 => ?_) fun _ _ _ z cls dx H' w' s => z cls dx H' w' (s1.trans s)
  exact ⟨w2, h2, d1, d2, c2.K, c2.mg, c2.hr, t1.to (s2.to c1.hr), t2, (hx _ _ _ _ _ (wp_bind.mp k2)).mono (fun b h' q H' w' s => q _ H' w' ((s1.trans s2).trans s) (.bl _)) fun _ _ _ z => z⟩
theorem runEq_x {x y : D} {h : IH} {Q : Bool → IH → Prop} {E : Str → List (Str × D) → IH → Prop} (k : ((runEq ff x y) h).wp Q E) : ((runEq ff x y) h).wp Q (fun _ _ _ => False) :=
  wp_bind.mpr (wp_noX.mpr ((wp_noX.mp (wp_bind.mp k)).mono (fun d h' q => by
    obtain ⟨b, hb, q⟩ := wp_of.mp q
    exact wp_of.mpr ⟨b, hb, q⟩) fun _ _ _ z => z.elim))
theorem eqDM_x {d1 d2 : D} {h : IH} {Q : Bool → IH → Prop} {E : Str → List (Str × D) → IH → Prop} (k : ((eqDM cn ff d1 d2) h).wp Q E) : ((eqDM cn ff d1 d2) h).wp Q (fun _ _ _ => False) := by
  obtain ⟨p, hp, q⟩ := wp_of.mp (wp_bind.mp k)
  exact wp_bind.mpr (wp_of.mpr ⟨p, hp, runEq_x q⟩)
theorem neDM_x {d1 d2 : D} {h : IH} {Q : Bool → IH → Prop} {E : Str → List (Str × D) → IH → Prop} (k : ((neDM cn ff d1 d2) h).wp Q E) : ((neDM cn ff d1 d2) h).wp Q (fun _ _ _ => False) := by
  obtain ⟨p, hp, q⟩ := wp_of.mp (wp_bind.mp k)
  exact wp_bind.mpr (wp_of.mpr ⟨p, hp, runEq_x q⟩)
theorem eqO_ (c : Cok Γ X W k N sc ow) (P : EqP Γ j cn ff) (ha : DE X W a fa) (hb : DE X W b fb) (hj : j ≤ k := by decide) (hm : behindInMarks .Eq b = false := by first | exact nomark _ | with_unfolding_all rfl) : DE X W (.Compare a [.Eq] [b] pos) (eeqO cn ff fa fb) :=
  PE.of (pe_cmpR (op_eqO c P hj) ha hb hm) fun _ _ _ z => t_eqO (fun _ _ _ _ _ k => eqDM_x k) z
theorem eqOT_ (c : Cok Γ X W k N sc ow) (P : EqP Γ j cn ff) (ha : DE X W a fa) (hb : DE X W b fb) (hj : j ≤ k := by decide) (hm : behindInMarks .Eq b = false := by first | exact nomark _ | with_unfolding_all rfl) : DT X W (.Compare a [.Eq] [b] pos) (tst (eeqO cn ff fa fb)) :=
  PT.of (pt_cmpR (op_eqO c P hj) ha hb hm) fun _ _ _ z => t_tst z fun _ y => t_eqO (fun _ _ _ _ _ k => eqDM_x k) y
theorem neO_ (c : Cok Γ X W k N sc ow) (P : EqP Γ j cn ff) (ha : DE X W a fa) (hb : DE X W b fb) (hj : j + 1 ≤ k := by decide) (hm : behindInMarks .NotEq b = false := by first | exact nomark _ | with_unfolding_all rfl) : DE X W (.Compare a [.NotEq] [b] pos) (eneO cn ff fa fb) :=
  PE.of (pe_cmpR (op_neO c P hj) ha hb hm) fun _ _ _ z => t_eqO (fun _ _ _ _ _ k => neDM_x k) z
theorem neOT_ (c : Cok Γ X W k N sc ow) (P : EqP Γ j cn ff) (ha : DE X W a fa) (hb : DE X W b fb) (hj : j + 1 ≤ k := by decide) (hm : behindInMarks .NotEq b = false := by first | exact nomark _ | with_unfolding_all rfl) : DT X W (.Compare a [.NotEq] [b] pos) (tst (eneO cn ff fa fb)) :=
  PT.of (pt_cmpR (op_neO c P hj) ha hb hm) fun _ _ _ z => t_tst z fun _ y => t_eqO (fun _ _ _ _ _ k => neDM_x k) y
end
end WR
set_option Elab.async false
set_option linter.all false
set_option autoImplicit false
set_option maxRecDepth 100000
set_option maxHeartbeats 4000000
namespace WR
open PySem PySem.Spec PyProof.Rows L2
/-! ### the law's call -/
theorem law_callR {P : Program} {w : World} {K : PySem.W.Frag} {mg mb : Str → Option Value} {k : Nat} {fa a : Addr} {fd : FuncData} {x : Str} {g : List D → M D} {s1 : Shared} {vs : List Value} {ns : List Int}
    (KX : K.In s1.heap) (hns : s1.heap.Ns mainGlobals mg) (hbl : s1.heap.Ns builtinsNs mb) (hbb : ∀ y : Str, y ≠ "__name__" → mb y = bootBuiltins y) (hlim : s1.heap.NoLimit) (hgen : s1.gens = #[])
    (hobj : s1.heap.get? a = some { cls := .type "list", data := .seq vs.toArray }) (hints : IntsAre vs ns) (hlen : ns.length ≤ sizeLine) (hr : RG k callerA)
    (F : ∀ base : Heap, K.In base → base.Ns mainGlobals mg → FnG P w K mg base (CX P w) k fa fd [x] (spI K mg 1 g)) (hbind : ∀ (s : Shared) (u : Value), BindsTo s fd ⟨[u], []⟩ [(x, u)])
    (hg : ((g [.fz (ns.map D.int)]) []).wp (fun d _ => d = .bl true) (fun _ _ _ => False)) :
    codeAny (model P w) callerA (.call (.ref fa) ⟨[.ref a], []⟩) (fun r s' => r = .ok (.ret (.bool true)) ∧ OldK s1.heap s'.heap ∧ s'.os = s1.os ∧ AllBare s'.gens) s1 := by
  have rv : Vals (ns.map V.int) vs := vals_ints hints
  have hsp : ∀ H : Hp, SqL K H a (ns.map V.int) → spI K mg 1 g [.ref a] H (fun v _ => v = .bl true) fun _ _ _ => False := fun H sq => by
    refine ⟨rfl, ⟨K, mg, fun _ => False, []⟩, [], [.fz (ns.map D.int)], rfl, rfl, ⟨rfl, List.nodup_nil, fun _ z => z.elim, fun _ z => (nomatch z), fun l b o e _ => by simp at e⟩, .cons (.fz ?_ (DtL.of_ints ns)) .nil, ?_⟩
    · rcases sq with q | q
      · exact .inl ⟨q, fun z => z⟩
      · exact .inr q
    · exact hg.mono (fun d h' e v H' w' _ t => by subst e; cases t; rfl) fun _ _ _ z => z.elim
  have run : ∀ H : Hp, (∀ b, H b = none ∨ ∃ ob ys, H b = some (.frz ob (.lst ys))) → SqL K H a (ns.map V.int) → HOk P w H s1.heap → (∀ b, H b ≠ none → b = a) → (H a ≠ none → K.lookup a = none) →
      codeAny (model P w) callerA (.call (.ref fa) ⟨[.ref a], []⟩) (fun r s' => r = .ok (.ret (.bool true)) ∧ OldK s1.heap s'.heap ∧ s'.os = s1.os ∧ AllBare s'.gens) s1 := by
    intro H only sq hok onlyA notK
    have noDict : ∀ {b : Addr} {o : Obj} {es : Array DictEntry} {ep : Nat}, s1.heap.get? b = some o → o.data = .dict es ep → H b = none := by
      intro b o es ep e1 e2
      cases q : H b with
      | none => rfl
      | some u =>
        obtain rfl := onlyA b (by rw [q]; exact fun z => nomatch z)
        rw [hobj] at e1
        cases e1
        exact nomatch e2
    have nsOf : ∀ {b : Addr} {m : Str → Option Value}, s1.heap.Ns b m → (hidT s1.heap H).Ns b m := fun {b m} ⟨o, es, ep, e1, e2, r⟩ =>
      ⟨o, es, ep, hidT_get e1 (noDict e1 e2), e2, r⟩
    have kBase : K.In (hidT s1.heap H) := by
      intro b o e
      refine hidT_get (KX b o e) ?_
      cases q : H b with
      | none => rfl
      | some u =>
        obtain rfl := onlyA b (by rw [q]; exact fun z => nomatch z)
        rw [notK (by rw [q]; exact fun z => nomatch z)] at e
        cases e
    have md : Mod K mg (hidT s1.heap H) := ⟨kBase, nsOf hns, ⟨mb, nsOf hbl, hbb⟩, let ⟨mc, l1, l2⟩ := hlim; ⟨mc, nsOf l1, l2⟩⟩
    have e0 : Env0 P w K mg (hidT s1.heap H) callerA [] s1 H :=
      ⟨rfl, md, fun b o e => of_hidT e, Nat.le_of_eq (hidT_size _ _), trivial, (fun b hb => nomatch (show b ∈ ([] : List Addr) from hb)), hok, .of_eq hgen⟩
    have go := (F _ kBase (nsOf hns)).run callerA [] s1 H ⟨[.ref a], []⟩ [.ref a] [.ref a] _ _ hr e0 (hbind s1 (.ref a)) (.cons rfl .nil) (hsp H sq)
    refine codeAny_mono go fun r s' h => ?_
    match r, h with
    | .error e, h => obtain ⟨_, _, _, _, _, _, _, _, _, _, _, _, z⟩ := h; exact z.elim
    | .ok .next, h => exact False.elim h
    | .ok .brk, h => exact False.elim h
    | .ok .cont, h => exact False.elim h
    | .ok (.ret u), h =>
      obtain ⟨v, H', os, bare, un, hok', rvu, qv⟩ := h
      have qv' : v = .bl true := qv
      subst qv'
      obtain rfl : u = Value.bool true := rvu
      refine ⟨rfl, OldK.of_keep fun b o e => ?_, os, bare⟩
      cases q : H b with
      | none => exact un.keep b o e q (fun z => nomatch (show b ∈ ([] : List Addr) from z)) (by simp)
      | some u =>
        rcases only b with z | ⟨ob, ys, z⟩
        · rw [q] at z
          cases z
        · obtain ⟨e1, _⟩ := hok b _ z
          obtain ⟨e2, _⟩ := hok' b _ (un.frzs b ob _ z)
          rw [e] at e1
          cases e1
          exact e2
  cases hk : K.lookup a with
  | some o =>
    have e := KX a o hk
    rw [hobj] at e
    cases e
    refine run (fun _ => none) (fun _ => .inl rfl) (.inr ⟨_, vs.toArray, _, hk, rfl, rfl, rfl, ?_, by simpa using rv⟩) (fun b u z => nomatch (show (none : Option HO) = some u from z)) (fun b z => absurd rfl z) fun z => absurd rfl z
    rw [List.size_toArray, hints.length]
    exact hlen
  | none =>
    refine run (fun b => if b = a then some (.frz { cls := .type "list", data := .seq vs.toArray } (.lst (ns.map V.int))) else none) (fun b => ?_) (.inl (.inr ⟨{ cls := .type "list", data := .seq vs.toArray }, if_pos rfl⟩)) (fun b u z => ?_) (fun b z => ?_) fun _ => hk
    · by_cases hb : b = a
      · exact .inr ⟨_, _, if_pos hb⟩
      · exact .inl (if_neg hb)
    · by_cases hb : b = a
      · have z' := (if_pos hb).symm.trans z
        cases z'
        subst hb
        refine ⟨hobj, ?_, vs, _, rv, hobj⟩
        rw [List.length_map]
        exact hlen
      · exact nomatch (if_neg hb).symm.trans z
    · exact Classical.byContradiction fun hb => z (if_neg hb)
/-- the end of a law's row, from what law computes -/
theorem walk_R {l : PySem.W.OpenLaw} {n k : Nat} {q : Program} {loose : List Str} {XP : (Str → Option Value) → Heap → Prop} {YP : World → Heap → Prop} {d : DefRec} {K : Params → PySem.W.Frag} {x : Str} {g : List D → M D}
    (hn : l.most = some n) (hn2 : n ≤ sizeLine) (hdf : d.params.defaults = []) (hr : RG k callerA) (hY : ∀ (w : World) (h : Heap), YP w h → (K w.params).In h)
    (F : ∀ (w : World) (mg : Str → Option Value) (fa : Addr) (h : Heap), (K w.params).In h → h.Ns mainGlobals mg → mg d.name = some (.ref fa) →
      ∃ fd : FuncData, (∀ (s : Shared) (u : Value), BindsTo s fd ⟨[u], []⟩ [(x, u)]) ∧ ∀ base : Heap, (K w.params).In base → base.Ns mainGlobals mg → FnG l.prog w (K w.params) mg base (CX l.prog w) k fa fd [x] (spI (K w.params) mg 1 g))
    (hg : ∀ ns : List Int, ns.length ≤ n → ((g [.fz (ns.map D.int)]) []).wp (fun d _ => d = .bl true) (fun _ _ _ => False)) :
    PySem.W.WalkO q loose XP YP l.row.toRowW d [] (fun f vs => PySem.call f vs) := by
  refine Att.attach_call hn hdf fun w s0 s1 mg mb fa o pm cd doc a vs ns Gd Y ho hd hcd hmg hobj hints hlen hgen => ?_
  obtain ⟨fd, hb, hF⟩ := F w mg fa _ (hY w _ Y) Gd.T.g hmg
  exact law_callR (hY w _ Y) Gd.T.g Gd.T.b Gd.T.builtins Gd.T.nolimit hgen hobj hints (Nat.le_trans hlen hn2) hr hF hb (hg ns hlen)
/-- from the def law and its promise -/
theorem law_of {P : Program} {w : World} {K : PySem.W.Frag} {mg : Str → Option Value} {k : Nat} {fa : Addr} {x : Str} {g : List D → M D} (hfa : mg "law" = some (.ref fa))
    (Pr : ∀ base : Heap, K.In base → base.Ns mainGlobals mg → FnP ⟨P, w, K, mg, base⟩ k "law" [x] g) (Bd : ∃ f, mg "law" = some (.ref f) ∧ ∃ fd, LkF K f fd ∧ ∀ (s : Shared) (u : Value), BindsTo s fd ⟨[u], []⟩ [(x, u)]) :
    ∃ fd : FuncData, (∀ (s : Shared) (u : Value), BindsTo s fd ⟨[u], []⟩ [(x, u)]) ∧ ∀ base : Heap, K.In base → base.Ns mainGlobals mg → FnG P w K mg base (CX P w) k fa fd [x] (spI K mg 1 g) := by
  obtain ⟨f, hf, fd, l, b⟩ := Bd
  rw [hfa] at hf
  cases hf
  refine ⟨fd, b, fun base kb nb => ?_⟩
  obtain ⟨f', gf, fd', l', F⟩ := Pr base kb nb
  have e : mg "law" = some (.ref f') := gf.1
  rw [hfa] at e
  cases e
  obtain rfl := l.uniq l'
  exact F
theorem law_bd {Γ : PC} {x : Str} {st : Stmt} (D : DefF Γ "law" st []) (hb : ∀ (kV doc pm : Value) (an : Option Addr) (cdv ct : Value) (us : List Value), us.length = 1 → bindArgs (fdN "law" "law" st .none kV doc pm an cdv ct) ⟨us, []⟩ = pure ([x].zip us)) : ∃ f, Γ.mg "law" = some (.ref f) ∧ ∃ fd, LkF Γ.K f fd ∧ ∀ (s : Shared) (u : Value), BindsTo s fd ⟨[u], []⟩ [(x, u)] := by
  obtain ⟨f, fd, Fu, g, df⟩ := D
  have l := Fu.lk
  obtain ⟨oc, od, dV, kV, doc, pm, an, cdv, ct, osl, rfl, lk, hcd⟩ := Fu.ex
  have e : dV = .none := df
  subst e
  exact ⟨f, g.1, _, l, fun s u => .of_eq (hb _ _ _ _ _ _ [u] rfl)⟩
end WR
set_option Elab.async false
set_option linter.all false
set_option autoImplicit false
set_option maxRecDepth 100000
set_option maxHeartbeats 4000000
namespace WR
open PySem PySem.Spec PyProof.Rows L2
/-! ### facts, from what the top has left -/
section
variable {P : Program} {K : PySem.W.Frag} {mg : Str → Option Value} {h : Heap} {C b f : Addr} {bm bmB : List Value} {Bn newId B initId : String} {x : Str} {fld : Option Str}
/-- where a class stands, its order -/
def ClsAt (K : PySem.W.Frag) (C : Addr) (bm : List Value) (newId : String) : Prop := ∃ nm q N bs hd sn sub ab col dd k0 k1 k2 k3 k5, K.lookup C = some (excClassObj nm q C N bs bm hd sn sub ab col dd k0 k1 k2 k3 k5 newId)
theorem ClsAt.cls (c : ClsAt K C bm newId) : ∃ cd, PySem.W.clsIn K C = some cd ∧ cd.mro = .ref C :: bm := by
  obtain ⟨nm, q, N, bs, hd, sn, sub, ab, col, dd, k0, k1, k2, k3, k5, h⟩ := c
  refine ⟨{ name := nm, bases := bs, mro := .ref C :: bm, ns := N, qualname := q, hasDict := hd, slotNames := sn, subclasses := sub, abstract := ab, collection := col, hasDel := false }, ?_, rfl⟩
  unfold PySem.W.clsIn
  rw [h] <;> rfl
theorem ClsAt.sub (c : ClsAt K C bm newId) (v : Value) : PySem.W.subIn K (.ref C) v = some ((Value.ref C :: bm).contains v) := by
  obtain ⟨cd, h1, h2⟩ := c.cls
  show PySem.W.mroIn K C v = _
  unfold PySem.W.mroIn
  rw [h1, Option.bind_some, h2, if_neg (by simp)]
theorem ClsAt.ty (c : ClsAt K C bm newId) : PySem.W.typeIn K (.ref C) = some (.type "type") := by
  obtain ⟨nm, q, N, bs, hd, sn, sub, ab, col, dd, k0, k1, k2, k3, k5, h⟩ := c
  show (K.lookup C).map (·.cls) = _
  rw [h]
  rfl
/-- isinstance's answer for a class of the module, whatever the type -/
theorem ClsAt.kitR (c : ClsAt K C bm newId) {t : Value} {r : Bool} (hs : PySem.W.subIn K t (.ref C) = some r) (hr : t = .ref C → r = true) : PySem.W.kitOne K t (.ref C) = some r := by
  obtain ⟨cd, h1, _⟩ := c.cls
  show (if (t == Value.ref C) = true then some true else PySem.W.kitCls K t (.ref C)) = _
  split
  · rename_i e
    rw [hr (beq_iff_eq.mp e)]
  · show (if ((PySem.W.clsIn K C).isSome && PySem.W.typeIn K (.ref C) == some (.type "type")) = true then PySem.W.subIn K t (.ref C) else none) = _
    rw [h1, c.ty, if_pos (by rfl)]
    exact hs
/-- .. for a built-in type -/
theorem kitT {t : Value} {n : String} {r : Bool} (h : PySem.W.kitMeta n = true) (hs : PySem.W.subIn K t (.type n) = some r) (hr : t = .type n → r = true) : PySem.W.kitOne K t (.type n) = some r := by
  show (if (t == Value.type n) = true then some true else PySem.W.kitCls K t (.type n)) = _
  split
  · rename_i e
    rw [hr (beq_iff_eq.mp e)]
  · show (if PySem.W.kitMeta n = true then PySem.W.subIn K t (.type n) else none) = _
    rw [if_pos h]
    exact hs
theorem ClsAt.exm {C' : Addr} {bm' : List Value} {newId' : String} (c : ClsAt K C bm newId) (c' : ClsAt K C' bm' newId') (h : (Value.ref C' :: bm').contains (.type "BaseException") = true) : PySem.W.exmOne K (.ref C) (.ref C') = some ((Value.ref C :: bm).contains (.ref C')) := by
  have e : (PySem.W.subIn K (.ref C') (.type "BaseException") == some true) = true := by rw [c'.sub, h]; rfl
  obtain ⟨cd, h1, _⟩ := c'.cls
  unfold PySem.W.exmOne
  rw [if_pos e]
  show (if ((PySem.W.clsIn K C').isSome && PySem.W.typeIn K (.ref C') == some (.type "type")) = true then PySem.W.subIn K (.ref C) (.ref C') else none) = _
  rw [h1, c'.ty, if_pos (by rfl)]
  exact c.sub _
/-- the order of a built-in type -/
theorem sub_bt {T : String} {l : List Value} (h : PySem.fastBuiltinMro T = some l) (v : Value) : PySem.W.subIn K (.type T) v = some (l.contains v) := by
  show (PySem.fastBuiltinMro T).map (·.contains v) = _
  rw [h]
  rfl
theorem mro_NoneType : PySem.fastBuiltinMro "NoneType" = some [.type "NoneType", .type "object"] := by kernel_rfl
theorem mro_bool : PySem.fastBuiltinMro "bool" = some [.type "bool", .type "int", .type "object"] := by kernel_rfl
theorem mro_int : PySem.fastBuiltinMro "int" = some [.type "int", .type "object"] := by kernel_rfl
theorem mro_str : PySem.fastBuiltinMro "str" = some [.type "str", .type "object"] := by kernel_rfl
theorem mro_tuple : PySem.fastBuiltinMro "tuple" = some [.type "tuple", .type "object"] := by kernel_rfl
theorem mro_list : PySem.fastBuiltinMro "list" = some [.type "list", .type "object"] := by kernel_rfl
theorem mro_dict : PySem.fastBuiltinMro "dict" = some [.type "dict", .type "object"] := by kernel_rfl
/-! errors of the module -/
structure XAll (P : Program) (K : PySem.W.Frag) (mg : Str → Option Value) : Prop where
  third : PySem.W.nsIn K cStatics "thirdparty.any" = some none
  top : (P.main.scope.names.lookup ("super" : Str)).isSome = false
  sup : mg "super" = none
  hn : PySem.W.specialIn K (.builtin "object.__class__") "__get__" = some (some (.builtin "getset_descriptor.__get__"))
  ht : PySem.W.takesIn K (.builtin "object.__class__") = some true
structure XKin (Bn newId B initId : String) (bmB : List Value) : Prop where
  kd : WT.XKind Bn newId B initId bmB
  mro : ∀ C b : Addr, WT.XMro Bn C (.ref b :: bmB)
  tail : ∀ b : Addr, PySem.W.excTail bmB (.ref b :: bmB) = true
  hB : ∀ C b : Addr, (Value.ref C :: .ref b :: bmB).contains (.type B) = true
  hE : ∀ C b : Addr, (Value.ref C :: .ref b :: bmB).contains (.type "BaseException") = true
  hO : ∀ C b : Addr, (Value.ref C :: .ref b :: bmB).contains (.type "object") = true
theorem xkin_val : XKin "ValueError" "ValueError.__new__" "ValueError" "ValueError.__init__" WT.valChain := ⟨WT.xkind_val, fun _ _ => ⟨rfl, rfl, rfl⟩, fun _ => rfl, fun _ _ => rfl, fun _ _ => rfl, fun _ _ => rfl⟩
theorem xkin_key : XKin "LookupError" "LookupError.__new__" "KeyError" "KeyError.__init__" WT.keyChain := ⟨WT.xkind_key, fun _ _ => ⟨rfl, rfl, rfl⟩, fun _ => rfl, fun _ _ => rfl, fun _ _ => rfl, fun _ _ => rfl⟩
structure XRaw (P : Program) (K : PySem.W.Frag) (mg : Str → Option Value) (newId : String) (bmB : List Value) (x : Str) (C b : Addr) (fld : Option Str) : Prop where
  er : XErr P K mg x C fld
  at_ : ClsAt K C (.ref b :: bmB) newId
  ask : ExcC K C
  no : ∀ f, fld = some f → PySem.W.findIn K (.ref C) f = some none
theorem along_of {nb : String} (cb : ClsAt K b bmB nb) {v : Option Value} {n : Str} (h : PySem.W.findIn K (.ref b) n = some v) : PySem.W.alongIn K n (.ref b :: bmB) = some v := by
  obtain ⟨nm, q, N, bs, hd, sn, sub, ab, col, dd, k0, k1, k2, k3, k5, e⟩ := cb
  unfold PySem.W.findIn at h
  dsimp only at h
  rw [e] at h
  exact h
def p0 : Pos := ⟨0, 0, 0, 0⟩
theorem raw_mk {nb : String} {nm q : Str} {N : Addr} {bs : List Value} {sn : List Str} {sub : List Value} {ab : Bool} {col : Option Bool} {dd : Option Addr} {k0 k1 k2 k3 k5 : Option Value} {fI cda cc : Addr} {od : Option Addr} {p : WT.XPos} {text qual : Str} {kV doc pm : Value} {an : Option Addr} {ct : Value} {osl : Array (Option Value)}
    {ccl : Value} {cdd : Option Addr} {vs : Array Value} {ccs : Array (Option Value)} {file : Str} {tf : Tok} {cl : Value} {cld : Option Addr} {csl : Array (Option Value)}
    (X : K.In h) (G : h.Ns mainGlobals mg) (A : XAll P K mg) (kn : XKin Bn newId B initId bmB) (cb : ClsAt K b bmB nb) (ib : PySem.W.findIn K (.ref b) "__init__" = some (some (.builtin initId))) (hF : ∀ f, fld = some f → WT.XFld f) (okF : ∀ f, fld = some f → ("super" == f) = false ∧ ("__class__" == f) = false ∧ ("self" == f) = false ∧ ((f : Str) == "self") = false ∧ (f == ("__debug__" : Str)) = false)
    (db : (x == ("__debug__" : Str)) = false) (lp : (p.p2.endLine == p.p4.line) = true)
    (ns : PySem.W.nsIn K mainGlobals x = some (some (.ref C))) (xL : K.lookup C = some (excClassObj nm q C N bs (.ref b :: bmB) true sn sub ab col dd k0 k1 k2 k3 k5 newId)) (iC : PySem.W.findIn K (.ref C) "__init__" = some (some (.ref fI)))
    (l : K.lookup fI = some ⟨.type "function", od, .func (PySem.W.ksFn "__init__" qual (WT.xArgs p fld) (WT.xBody p text fld) (WT.xScope fld) .none kV doc pm an (.ref cda) ct cc), osl⟩) (c : PySem.W.codeIn K (.ref cda) qual = true) (lc : K.lookup cda = some ⟨ccl, cdd, .fields vs, ccs⟩) (lv : vs[2]? = some (.str file tf)) (lfile : ((P.main.file : Str) == file) = true)
    (lcell : K.lookup cc = some ⟨cl, cld, .cell (some (.ref C)), csl⟩) (kp : PySem.W.keepIn K (.ref C) = true) (sa : PySem.W.findIn K (.ref C) "__setattr__" = some (some (.builtin "object.__setattr__"))) (ga : PySem.W.findIn K (.ref C) "__getattribute__" = some (some (.builtin "BaseException.__getattribute__")))
    (gg : PySem.W.findIn K (.ref C) "__getattr__" = some none) (ca : PySem.W.findIn K (.ref C) "__class__" = some (some (.builtin "object.__class__"))) (hd : PySem.W.hasDictIn K C = true) (nf : ∀ f, fld = some f → PySem.W.findIn K (.ref C) f = some none) : XRaw P K mg newId bmB x C b fld := by
  have at_ : ClsAt K C (.ref b :: bmB) newId := ⟨nm, q, N, bs, true, sn, sub, ab, col, dd, k0, k1, k2, k3, k5, xL⟩
  refine ⟨⟨⟨Bn, newId, B, initId, bmB, fI, ?_⟩, hF, A.sup, PySem.W.mg_of X G ns, kp, db, by rw [at_.sub, kn.hE], at_.ty⟩, at_, ?_, nf⟩
  · exact { kd := kn.kd, cls := ⟨nm, q, N, bs, _, sn, sub, ab, col, dd, k0, k1, k2, k3, k5, xL, kn.mro C b, kn.tail b, along_of cb ib⟩, iC := iC, tI := by show (K.lookup fI).map (·.cls) = _; rw [l]; rfl, sB := by rw [at_.sub, kn.hB], third := A.third, sa := sa, noF := nf,
            fn := ⟨_, od, p, text, qual, kV, doc, pm, an, cda, cc, ct, osl, ccl, cdd, vs, ccs, file, tf, cl, cld, csl, l, c, lc, lv, lfile, lcell, lp⟩, top := A.top, okF := okF }
  · refine ⟨ga, gg, by rw [at_.sub, kn.hE], hd, ca, A.hn, A.ht, ?_⟩
    have := at_.sub (.type "object")
    rw [kn.hO] at this
    exact this
end
section
variable {P : Program} {w : World} {K : PySem.W.Frag} {mg : Str → Option Value} {h base : Heap} {x cn mn fn qual : Str} {st : Stmt} {f g p C : Addr} {oc kV doc pm cdv ct : Value} {od an : Option Addr} {osl : Array (Option Value)}
abbrev pcK (P : Program) (w : World) (K : PySem.W.Frag) (mg : Str → Option Value) (base : Heap) : PC := ⟨P, w, K, mg, base⟩
theorem con_int {i : Int} {t : Tok} (X : K.In h) (G : h.Ns mainGlobals mg) (e : PySem.W.nsIn K mainGlobals x = some (some (.int i t))) : Con K mg x (.int i) := ⟨.int i, _, PySem.W.mg_of X G e, ⟨t, rfl⟩, fun w H _ _ => .int i⟩
theorem con_str {i : Str} {t : Tok} (X : K.In h) (G : h.Ns mainGlobals mg) (e : PySem.W.nsIn K mainGlobals x = some (some (.str i t))) : Con K mg x (.str i) := ⟨.str i, _, PySem.W.mg_of X G e, ⟨t, rfl⟩, fun w H _ _ => .str i⟩
theorem con_glo (X : K.In h) (G : h.Ns mainGlobals mg) (e : PySem.W.nsIn K mainGlobals x = some (some (.ref C))) : Con K mg x (.glo x) := ⟨.ref C, _, PySem.W.mg_of X G e, rfl, fun w H _ hm => .glo (hm ▸ PySem.W.mg_of X G e)⟩
theorem def_mk (X : K.In h) (G : h.Ns mainGlobals mg) (a : PySem.W.nsIn K mainGlobals x = some (some (.ref f))) (l : K.lookup f = some ⟨oc, od, .func (fdN x x st .none kV doc pm an cdv ct), osl⟩) (c : PySem.W.codeIn K cdv x = true) (k : PySem.W.keepIn K (.ref f) = true) : DefF (pcK P w K mg base) x st [] :=
  ⟨f, _, ⟨oc, od, .none, kV, doc, pm, an, cdv, ct, osl, rfl, l, c⟩, ⟨PySem.W.mg_of X G a, k⟩, rfl⟩
/-- a class that is made and whose instances are plain -/
structure CK (K : PySem.W.Frag) (mg : Str → Option Value) (cn : Str) (C : Addr) : Prop where
  mg : mg cn = some (.ref C)
  cl : Cls K C
theorem ck_mk (X : K.In h) (G : h.Ns mainGlobals mg) (a : PySem.W.nsIn K mainGlobals cn = some (some (.ref C))) (pg : PySem.W.plainGet K C Str.empty = true) (hd : PySem.W.hasDictIn K C = true) (po : PySem.W.plainOver K C = true) (sa : PySem.W.findIn K (.ref C) "__setattr__" = some (some (.builtin "object.__setattr__"))) : CK K mg cn C := ⟨PySem.W.mg_of X G a, pg, hd, po, sa⟩
theorem mth_mk (T : CK K mg cn C) (at_ : PySem.W.findIn K (.ref C) mn = some (some (.ref f))) (fn : PySem.W.isFn K (.ref f) = true) (kp : PySem.W.keepIn K (.ref f) = true) (l : K.lookup f = some ⟨oc, od, .func (fdN mn qual st .none kV doc pm an cdv ct), osl⟩) (c : PySem.W.codeIn K cdv qual = true) : MthF (pcK P w K mg base) cn mn st [] :=
  ⟨C, f, _, qual, ⟨oc, od, .none, kV, doc, pm, an, cdv, ct, osl, rfl, l, c⟩, ⟨⟨T.mg, T.cl⟩, ⟨at_, fn, kp⟩⟩, rfl⟩
theorem prp_mk {rest : List Value} (T : CK K mg cn C) (at_ : PySem.W.findIn K (.ref C) fn = some (some (.ref p))) (get : PySem.W.specialIn K (.ref p) "__get__" = some (some (.builtin "property.__get__"))) (tak : PySem.W.takesIn K (.ref p) = some true) (rec_ : PySem.W.recIn K p "property" = some (.ref g :: rest)) (l : K.lookup g = some ⟨oc, od, .func (fdN fn qual st .none kV doc pm an cdv ct), osl⟩) (c : PySem.W.codeIn K cdv qual = true) : PrpF (pcK P w K mg base) cn fn st :=
  ⟨C, p, g, _, qual, ⟨oc, od, .none, kV, doc, pm, an, cdv, ct, osl, rfl, l, c⟩, ⟨⟨T.mg, T.cl⟩, ⟨at_, get, tak, rest, rec_⟩⟩, rfl⟩
theorem ini_mk {dV : Value} {dv : List D} (T : CK K mg cn C) (ma : PySem.W.makesIn K C = true) (at_ : PySem.W.findIn K (.ref C) "__init__" = some (some (.ref f))) (fn : PySem.W.isFn K (.ref f) = true) (kp : PySem.W.keepIn K (.ref C) = true) (l : K.lookup f = some ⟨oc, od, .func (fdN "__init__" qual st dV kV doc pm an cdv ct), osl⟩) (c : PySem.W.codeIn K cdv qual = true) (df : DfOk K (fdN "__init__" qual st dV kV doc pm an cdv ct) dv) : IniF (pcK P w K mg base) cn st dv :=
  ⟨C, f, _, qual, ⟨oc, od, dV, kV, doc, pm, an, cdv, ct, osl, rfl, l, c⟩, ⟨T.mg, ⟨ma, at_, fn, kp⟩⟩, df⟩
theorem fld_mk (T : CK K mg cn C) (n : PySem.W.findIn K (.ref C) fn = some none) : FldOk (pcK P w K mg base) [cn] fn := fun c hc C' e => by
  obtain rfl : c = cn := by simpa using hc
  have e' := T.mg
  rw [show mg c = some (.ref C') from e] at e'
  cases e'
  exact ⟨T.cl, n⟩
/-- empty tuples as defaults -/
theorem kt_nil {e : Addr} {m : Nat} {sl : Array (Option Value)} (l : K.lookup e = some ⟨.type "tuple", none, .seq #[] m, sl⟩) (w : Wd) (H : Hp) (hw : w.K = K) : Dt w H (.ref e) (.tup []) :=
  .tup (.inr ⟨_, #[], m, hw ▸ l, rfl, rfl, rfl, Nat.zero_le _, .nil⟩) .nil
theorem eqf_mk {nm q : Str} {N : Addr} {bs : List Value} {hdct : Bool} {sn : List Str} {sub : List Value} {ab : Bool} {col : Option Bool} {dd : Option Addr} {k0 k1 k2 k3 k5 : Option Value} {newId : String} {nc : Value} {nd : Option Addr} {es : Array DictEntry} {m : Nat} {nsl : Array (Option Value)} (T : CK K mg cn C)
    (xL : K.lookup C = some (excClassObj nm q C N bs [.type "object"] hdct sn sub ab col dd k0 k1 k2 k3 k5 newId)) (nl : K.lookup N = some ⟨nc, nd, .dict es m, nsl⟩) (ne : (es.all fun e => match e.key with | .str _ _ => true | _ => false) = true) (at_ : PySem.W.findIn K (.ref C) "__eq__" = some (some (.ref f))) (n1 : PySem.W.nsIn K N "__eq__" = some (some (.ref f))) (n2 : PySem.W.nsIn K N "__ne__" = some none) : EqF (pcK P w K mg base) cn := fun C' f' M => by
  have e' := T.mg
  rw [show mg cn = some (.ref C') from M.cl.mg] at e'
  cases e'
  have e2 := M.mt.at_
  rw [show PySem.W.findIn (pcK P w K mg base).K (.ref C) "__eq__" = some (some (.ref f)) from at_] at e2
  cases e2
  have c : ClsAt K C [.type "object"] newId := ⟨nm, q, N, bs, hdct, sn, sub, ab, col, dd, k0, k1, k2, k3, k5, xL⟩
  refine ⟨fun T hT => ⟨?_, ?_⟩, nm, q, N, bs, hdct, sn, sub, ab, col, dd, k0, k1, k2, k3, k5, newId, xL, ?_, n1, n2⟩
  · have : ∀ T ∈ eqTs, PySem.W.subIn K (.type T) (.ref C) = some false := by
      intro T hT
      simp only [eqTs, List.mem_cons, List.not_mem_nil, or_false] at hT
      rcases hT with rfl | rfl | rfl | rfl | rfl | rfl | rfl
      · exact sub_bt mro_NoneType _
      · exact sub_bt mro_bool _
      · exact sub_bt mro_int _
      · exact sub_bt mro_str _
      · exact sub_bt mro_tuple _
      · exact sub_bt mro_list _
      · exact sub_bt mro_dict _
    exact this T hT
  · have : ∀ T ∈ eqTs, PySem.W.subIn K (.ref C) (.type T) = some false := by
      intro T hT
      simp only [eqTs, List.mem_cons, List.not_mem_nil, or_false] at hT
      rcases hT with rfl | rfl | rfl | rfl | rfl | rfl | rfl <;> exact c.sub _
    exact this T hT
  · unfold PySem.W.nsOkIn
    rw [nl]
    exact ne
theorem ckc_mk {nm q : Str} {N : Addr} {bs : List Value} {hdct : Bool} {sn : List Str} {sub : List Value} {ab : Bool} {col : Option Bool} {dd : Option Addr} {k0 k1 k2 k3 k5 : Option Value} {newId : String} {bm : List Value} (X : K.In h) (G : h.Ns mainGlobals mg) (a : PySem.W.nsIn K mainGlobals cn = some (some (.ref C))) (pg : PySem.W.plainGet K C Str.empty = true) (hd : PySem.W.hasDictIn K C = true) (po : PySem.W.plainOver K C = true) (sa : PySem.W.findIn K (.ref C) "__setattr__" = some (some (.builtin "object.__setattr__")))
    (xL : K.lookup C = some (excClassObj nm q C N bs bm hdct sn sub ab col dd k0 k1 k2 k3 k5 newId)) : CK K mg cn C ∧ ClsAt K C bm newId := ⟨ck_mk X G a pg hd po sa, nm, q, N, bs, hdct, sn, sub, ab, col, dd, k0, k1, k2, k3, k5, xL⟩
theorem tcl_mk {nm q : Str} {N : Addr} {bs : List Value} {hdct : Bool} {sn : List Str} {sub : List Value} {ab : Bool} {col : Option Bool} {dd : Option Addr} {k0 k1 k2 k3 k5 : Option Value} {newId : String} {bm : List Value} (X : K.In h) (G : h.Ns mainGlobals mg) (a : PySem.W.nsIn K mainGlobals cn = some (some (.ref C))) (xL : K.lookup C = some (excClassObj nm q C N bs bm hdct sn sub ab col dd k0 k1 k2 k3 k5 newId)) : mg cn = some (.ref C) ∧ ClsAt K C bm newId := ⟨PySem.W.mg_of X G a, nm, q, N, bs, hdct, sn, sub, ab, col, dd, k0, k1, k2, k3, k5, xL⟩
theorem xall_mk (X : K.In h) (G : h.Ns mainGlobals mg) (a1 : PySem.W.nsIn K cStatics "thirdparty.any" = some none) (a2 : (P.main.scope.names.lookup ("super" : Str)).isSome = false) (a3 : PySem.W.nsIn K mainGlobals "super" = some none)
    (a4 : PySem.W.specialIn K (.builtin "object.__class__") "__get__" = some (some (.builtin "getset_descriptor.__get__"))) (a5 : PySem.W.takesIn K (.builtin "object.__class__") = some true) : XAll P K mg := ⟨a1, a2, PySem.W.mg_none_of X G a3, a4, a5⟩
theorem df_nil2 {fd : FuncData} {T e1 e2 : Addr} {c : Value} {d : Option Addr} {m m1 m2 : Nat} {sl sl1 sl2 : Array (Option Value)} (hd : fd.defaults = .ref T) (lT : K.lookup T = some ⟨c, d, .seq #[.ref e1, .ref e2] m, sl⟩) (l1 : K.lookup e1 = some ⟨.type "tuple", none, .seq #[] m1, sl1⟩) (l2 : K.lookup e2 = some ⟨.type "tuple", none, .seq #[] m2, sl2⟩) : DfOk K fd [.tup [], .tup []] :=
  ⟨T, _, _, m, [.ref e1, .ref e2], hd, lT, rfl, .cons rfl (.cons rfl .nil), fun w H hw => .cons (kt_nil l1 w H hw) (.cons (kt_nil l2 w H hw) .nil)⟩
end
end WR
set_option Elab.async false
set_option linter.all false
set_option autoImplicit false
set_option maxRecDepth 100000
set_option maxHeartbeats 4000000
namespace WR
open PySem PySem.Spec PyProof.Rows L2
/-! ### the plain side: how denotations run, forward -/
section
variable {α β : Type} {h h1 h2 h3 h4 : IH} {ρ ρ1 : En} {d x y z : D} {ds es xs ys : List D} {fa fb fc f : En → M D} {g ga gk : En → M (List D)} {t ta tb : En → M Bool} {F G : MS} {b : Bool} {i n m : Nat}
theorem bind_ok {m : M α} {k : α → M β} {a : α} (e : m h = .ok a h1) : (m.bind k) h = k a h1 := by
  unfold M.bind
  rw [e]
theorem of_ok {o : Option α} {a : α} (e : o = some a) : (M.of o) h = .ok a h := by
  unfold M.of
  rw [e]
theorem m2_ok {p : P2} (e : p h x y = some d) : (m2 p x y) h = .ok d h := by
  unfold m2
  rw [e]
theorem m1_ok {p : P1} (e : p h x = some d) : (m1 p x) h = .ok d h := by
  unfold m1
  rw [e]
theorem mN_ok {p : Pn} (e : p h xs = some d) : (mN p xs) h = .ok d h := by
  unfold mN
  rw [e]
theorem noX_ok {m : M α} {a : α} (e : m h = .ok a h1) : (noX m) h = .ok a h1 := by
  unfold noX
  rw [e]
theorem eVar_ok (e : slot ρ i = some d) : eVar i ρ h = .ok d h := of_ok e
theorem eCst_ok : eCst d ρ h = .ok d h := rfl
theorem e2_ok {p : P2} (e1 : fa ρ h = .ok x h1) (e2' : fb ρ h1 = .ok y h2) (e : p h2 x y = some d) : e2 p fa fb ρ h = .ok d h2 := by
  unfold e2
  rw [bind_ok e1, bind_ok e2', m2_ok e]
theorem e1_ok {p : P1} (e1' : fa ρ h = .ok x h1) (e : p h1 x = some d) : e1 p fa ρ h = .ok d h1 := by
  unfold e1
  rw [bind_ok e1', m1_ok e]
theorem eN_ok {p : Pn} (e1 : g ρ h = .ok xs h1) (e : p h1 xs = some d) : eN p g ρ h = .ok d h1 := by
  unfold eN
  rw [bind_ok e1, mN_ok e]
theorem aNil_ok : aNil ρ h = .ok [] h := rfl
theorem aCons_ok (e1 : f ρ h = .ok x h1) (e2 : g ρ h1 = .ok xs h2) : aCons f g ρ h = .ok (x :: xs) h2 := by
  unfold aCons
  rw [bind_ok e1, bind_ok e2]
  rfl
theorem eTup_ok (e1 : g ρ h = .ok xs h1) (hl : xs.length ≤ 100000 := by decide) : eTup g ρ h = .ok (.tup xs) h1 := by
  unfold eTup
  rw [bind_ok e1]
  refine of_ok ?_
  unfold tupP
  rw [if_pos (Nat.le_trans hl (by decide))]
theorem siz_ok (e1 : g ρ h = .ok xs h1) (hl : xs.length ≤ 100000 := by decide) : sizM g ρ h = .ok xs h1 := by
  unfold sizM
  rw [bind_ok e1]
  exact of_ok (if_pos (Nat.le_trans hl (by decide)))
theorem fz_ok (e1 : g ρ h = .ok xs h1) : eFz g ρ h = .ok (.lst xs) h1 := by
  unfold eFz
  rw [bind_ok e1]
  rfl
theorem new_ok (e1 : g ρ h = .ok xs h1) : eNew g ρ h = .ok (.loc h1.length) (h1 ++ [.lst xs]) := by
  unfold eNew
  rw [bind_ok e1]
  rfl
theorem list_ok (e1 : g ρ h = .ok [x] h1) (e : seqOf h1 x = some xs) : mList g ρ h = .ok xs h1 := by
  unfold mList
  rw [bind_ok e1]
  unfold lsM
  dsimp only
  rw [e]
theorem tst_ok (e : f ρ h = .ok (.bl b) h1) : tst f ρ h = .ok b h1 := by
  unfold tst
  rw [bind_ok e]
  rfl
theorem tNt_ok (e : t ρ h = .ok b h1) : tNt t ρ h = .ok (!b) h1 := by
  unfold tNt
  rw [bind_ok e]
  rfl
theorem tOr_t (e : ta ρ h = .ok true h1) : tOr ta tb ρ h = .ok true h1 := by
  unfold tOr
  rw [bind_ok e, if_pos rfl]
  rfl
theorem tOr_f (e : ta ρ h = .ok false h1) (e' : tb ρ h1 = .ok b h2) : tOr ta tb ρ h = .ok b h2 := by
  unfold tOr
  rw [bind_ok e, if_neg (by decide)]
  exact e'
theorem tAn_f (e : ta ρ h = .ok false h1) : tAn ta tb ρ h = .ok false h1 := by
  unfold tAn
  rw [bind_ok e, if_neg (by decide)]
  rfl
theorem tAn_t (e : ta ρ h = .ok true h1) (e' : tb ρ h1 = .ok b h2) : tAn ta tb ρ h = .ok b h2 := by
  unfold tAn
  rw [bind_ok e, if_pos rfl]
  exact e'
theorem eNt_ok (e : f ρ h = .ok (.bl b) h1) : eNt f ρ h = .ok (.bl (!b)) h1 := by
  unfold eNt
  rw [bind_ok e]
  rfl
theorem eAn_t (e : fa ρ h = .ok (.bl true) h1) (e' : fb ρ h1 = .ok d h2) : eAn fa fb ρ h = .ok d h2 := by
  unfold eAn
  rw [bind_ok e]
  exact e'
theorem eAn_f (e : fa ρ h = .ok (.bl false) h1) : eAn fa fb ρ h = .ok (.bl false) h1 := by
  unfold eAn
  rw [bind_ok e]
  rfl
/-- both sides are known -/
theorem eAn_b {b c : Bool} (e : fa ρ h = .ok (.bl b) h) (e' : b = true → fb ρ h = .ok (.bl c) h) : eAn fa fb ρ h = .ok (.bl (b && c)) h := by
  cases b with
  | false => exact eAn_f e
  | true => exact eAn_t e (e' rfl)
theorem tAn_b {b c : Bool} (e : ta ρ h = .ok b h) (e' : b = true → tb ρ h = .ok c h) : tAn ta tb ρ h = .ok (b && c) h := by
  cases b with
  | false => exact tAn_f e
  | true => exact tAn_t e (e' rfl)
theorem tOr_b {b c : Bool} (e : ta ρ h = .ok b h) (e' : b = false → tb ρ h = .ok c h) : tOr ta tb ρ h = .ok (b || c) h := by
  cases b with
  | false => exact tOr_f e (e' rfl)
  | true => exact tOr_t e
theorem eOr_t (e : fa ρ h = .ok (.bl true) h1) : eOr fa fb ρ h = .ok (.bl true) h1 := by
  unfold eOr
  rw [bind_ok e]
  rfl
theorem eOr_f (e : fa ρ h = .ok (.bl false) h1) (e' : fb ρ h1 = .ok d h2) : eOr fa fb ρ h = .ok d h2 := by
  unfold eOr
  rw [bind_ok e]
  exact e'
theorem eIf_t (e : t ρ h = .ok true h1) (e' : fa ρ h1 = .ok d h2) : eIf t fa fb ρ h = .ok d h2 := by
  unfold eIf
  rw [bind_ok e, if_pos rfl]
  exact e'
theorem eIf_f (e : t ρ h = .ok false h1) (e' : fb ρ h1 = .ok d h2) : eIf t fa fb ρ h = .ok d h2 := by
  unfold eIf
  rw [bind_ok e, if_neg (by decide)]
  exact e'
theorem eChain_t {p q : P2} (e1 : fa ρ h = .ok x h1) (e2 : fb ρ h1 = .ok y h2) (e : p h2 x y = some (.bl true)) (e3 : fc ρ h2 = .ok z h3) (e' : q h3 y z = some d) : eChain p q fa fb fc ρ h = .ok d h3 := by
  unfold eChain
  rw [bind_ok e1, bind_ok e2, bind_ok (m2_ok e)]
  show ((M.of (some true)).bind _) h2 = _
  rw [bind_ok (of_ok rfl), if_pos rfl, bind_ok e3, m2_ok e']
theorem eChain_f {p q : P2} (e1 : fa ρ h = .ok x h1) (e2 : fb ρ h1 = .ok y h2) (e : p h2 x y = some (.bl false)) : eChain p q fa fb fc ρ h = .ok (.bl false) h2 := by
  unfold eChain
  rw [bind_ok e1, bind_ok e2, bind_ok (m2_ok e)]
  rfl
theorem eCallK_ok {bd : List D → List D → Option (List D)} {ff : List D → M D} (e1 : ga ρ h = .ok xs h1) (e2 : gk ρ h1 = .ok ys h2) (hn : xs.length = n ∧ ys.length = m) (hb : bd xs ys = some es) (e : ff es h2 = .ok d h3) : eCallK n m bd ff ga gk ρ h = .ok d h3 := by
  unfold eCallK
  rw [bind_ok e1, bind_ok e2, if_pos hn, bind_ok (of_ok hb)]
  exact e
theorem eCallO_ok {fo : List D → M (List D)} (e1 : ga ρ h = .ok xs h1) (e : fo xs h1 = .ok es h2) : eCallO fo ga ρ h = .ok es h2 := by
  unfold eCallO
  rw [bind_ok e1]
  exact e
theorem eFld_ok {cs : List Str} {fn c : Str} {fs : List (Str × D)} (e1 : f ρ h = .ok x h1) (ho : objF h1 x = some (c, fs)) (hc : c ∈ cs) (hl : fs.lookup fn = some d) : eFld cs fn f ρ h = .ok d h1 := by
  unfold eFld
  rw [bind_ok e1]
  unfold fldM
  rw [ho]
  dsimp only
  rw [if_pos hc, hl]
theorem eMeth_ok {cn mn : Str} {bd : List D → List D → Option (List D)} {ff : List D → M D} {fs : List (Str × D)} (e0 : f ρ h = .ok x h1) (ho : objF h1 x = some (cn, fs)) (hl : fs.lookup mn = none) (e1 : ga ρ h1 = .ok xs h2) (e2 : gk ρ h2 = .ok ys h3) (hn : xs.length = n ∧ ys.length = m) (hb : bd (x :: xs) ys = some es) (e : ff es h3 = .ok d h4) : eMeth cn mn n m bd ff f ga gk ρ h = .ok d h4 := by
  unfold eMeth
  have e3 : (objM cn mn x) h1 = .ok () h1 := by
    unfold objM
    rw [ho]
    dsimp only
    rw [if_pos ⟨rfl, hl⟩]
  rw [bind_ok e0, bind_ok e3, bind_ok e1, bind_ok e2, if_pos hn, bind_ok (of_ok hb)]
  exact e
theorem eProp_ok {cn : Str} {ff : List D → M D} {fs : List (Str × D)} (e0 : f ρ h = .ok x h1) (ho : objF h1 x = some (cn, fs)) (e : ff [x] h1 = .ok d h2) : eProp cn ff f ρ h = .ok d h2 := by
  unfold eProp
  refine (bind_ok e0).trans ?_
  rw [ho]
  dsimp only
  rw [if_pos rfl]
  exact noX_ok e
/-! items, slices -/
theorem opt_n : optM none ρ h = .ok none h := rfl
theorem opt_s {k : Int} (e : f ρ h = .ok (.int k) h1) : optM (some f) ρ h = .ok (some k) h1 := by
  unfold optM
  dsimp only
  rw [bind_ok e]
  rfl
theorem eSl_ok {lo hi : Option (En → M D)} {l u : Option Int} (e0 : f ρ h = .ok x h1) (e1 : optM lo ρ h1 = .ok l h2) (e2 : optM hi ρ h2 = .ok u h3) (e : slP h3 x l u = some d) : eSl slP f lo hi ρ h = .ok d h3 := by
  unfold eSl
  rw [bind_ok e0, bind_ok e1, bind_ok e2]
  unfold m3
  rw [e]
theorem iSeq_ok (e : f ρ h = .ok d h1) (hi : itm d = some ds) : iSeq f ρ h = .ok ds h1 := by
  unfold iSeq
  rw [bind_ok e]
  exact of_ok hi
theorem iOf_ok {p : List D → Option (List D)} (e : g ρ h = .ok xs h1) (hi : p xs = some ds) : iOf p g ρ h = .ok ds h1 := by
  unfold iOf
  rw [bind_ok e]
  exact of_ok hi
/-! comprehensions that change nothing -/
theorem lc_map {gg : D → D} : ∀ {ds : List D}, (∀ d ∈ ds, f (ρ.set i (some (.val d))) h = .ok (gg d) h) → lcRun (tgN i) tYs f ρ ds h = .ok (ds.map gg) h
  | [], _ => rfl
  | d :: ds, k => by
    have k1 := k d (by simp)
    have k2 := lc_map (ds := ds) fun d hd => k d (by simp [hd])
    simp only [lcRun, tgN, tYs, M.of, M.bind, M.pure, k1, k2, if_true]
    rfl
theorem lc_filter {tg : D → En → Option En} {gg : D → D} {p : D → Bool} {ρf : D → En} : ∀ {ds : List D}, (∀ d ∈ ds, tg d ρ = some (ρf d)) → (∀ d ∈ ds, t (ρf d) h = .ok (p d) h) → (∀ d ∈ ds, p d = true → f (ρf d) h = .ok (gg d) h) → lcRun tg t f ρ ds h = .ok ((ds.filter p).map gg) h
  | [], _, _, _ => rfl
  | d :: ds, k0, k, q => by
    have k00 := k0 d (by simp)
    have k1 := k d (by simp)
    have k2 := lc_filter (ds := ds) (fun d hd => k0 d (by simp [hd])) (fun d hd => k d (by simp [hd])) fun d hd => q d (by simp [hd])
    cases hp : p d with
    | false =>
      rw [hp] at k1
      simp only [lcRun, M.of, M.bind, M.pure, k00, k1, List.filter_cons, hp]
      rw [if_neg (by decide), if_neg (by decide)]
      exact k2
    | true =>
      have q1 := q d (by simp) hp
      rw [hp] at k1
      simp only [lcRun, M.of, M.bind, M.pure, k00, k1, q1, k2, List.filter_cons, hp, if_true]
      rfl
theorem mLc_map {vs : List Nat} (gg : D → D) (e1 : g ρ h = .ok ds h1) (e2 : ∀ d ∈ ds, f ((wipeE ρ vs).set i (some (.val d))) h1 = .ok (gg d) h1) : mLc g vs (tgN i) tYs f ρ h = .ok (ds.map gg) h1 := by
  unfold mLc
  rw [bind_ok e1]
  exact noX_ok (lc_map e2)
theorem mLc_filter {vs : List Nat} {tg : D → En → Option En} (p : D → Bool) (gg : D → D) (ρf : D → En) (e1 : g ρ h = .ok ds h1) (e0 : ∀ d ∈ ds, tg d (wipeE ρ vs) = some (ρf d)) (e3 : ∀ d ∈ ds, t (ρf d) h1 = .ok (p d) h1) (e2 : ∀ d ∈ ds, p d = true → f (ρf d) h1 = .ok (gg d) h1) : mLc g vs tg t f ρ h = .ok ((ds.filter p).map gg) h1 := by
  unfold mLc
  rw [bind_ok e1]
  exact noX_ok (lc_filter e0 e3 e2)
/-- a comprehension that changes the heap: inv by the number of items that are done, all values are of P -/
theorem lc_inv {tg : D → En → Option En} (I : Nat → IH → Prop) (P : D → Prop) (hs : ∀ (k : Nat) (d : D) (h : IH), d ∈ ds → I k h → ∃ ρ1, tg d ρ = some ρ1 ∧ ∃ b h1, t ρ1 h = .ok b h1 ∧ ((b = false ∧ I (k + 1) h1) ∨ (b = true ∧ ∃ x h2, f ρ1 h1 = .ok x h2 ∧ P x ∧ I (k + 1) h2))) : ∀ (ds' : List D), (∀ d ∈ ds', d ∈ ds) → ∀ (k : Nat) (h : IH), I k h → ∃ xs h', lcRun tg t f ρ ds' h = .ok xs h' ∧ I (k + ds'.length) h' ∧ xs.length ≤ ds'.length ∧ ∀ x ∈ xs, P x
  | [], _, k, h, q => ⟨[], h, rfl, q, Nat.le_refl _, fun _ z => nomatch z⟩
  | d :: ds', hm, k, h, q => by
    obtain ⟨ρ1, e0, b, h1, e1, c⟩ := hs k d h (hm d (by simp)) q
    rcases c with ⟨rfl, q1⟩ | ⟨rfl, x, h2, e2, px, q1⟩
    · obtain ⟨xs, h', e3, q3, l3, p3⟩ := lc_inv I P hs ds' (fun d hd => hm d (by simp [hd])) (k + 1) h1 q1
      refine ⟨xs, h', ?_, by rw [List.length_cons, Nat.add_comm ds'.length 1, ← Nat.add_assoc]; exact q3, by simp; omega, p3⟩
      simp only [lcRun, M.of, M.bind, e0, e1]
      rw [if_neg (by decide)]
      exact e3
    · obtain ⟨xs, h', e3, q3, l3, p3⟩ := lc_inv I P hs ds' (fun d hd => hm d (by simp [hd])) (k + 1) h2 q1
      refine ⟨x :: xs, h', ?_, by rw [List.length_cons, Nat.add_comm ds'.length 1, ← Nat.add_assoc]; exact q3, by simp; omega, fun y hy => ?_⟩
      · simp only [lcRun, M.of, M.bind, M.pure, e0, e1, e2, e3, if_true]
      · rcases List.mem_cons.mp hy with rfl | hy
        · exact px
        · exact p3 y hy
/-! statements -/
theorem seq_nx (e : F ρ h = .nx ρ1 h1) : sSeq F G ρ h = G ρ1 h1 := by
  unfold sSeq
  rw [e]
theorem seq_rt (e : F ρ h = .rt d h1) : sSeq F G ρ h = .rt d h1 := by
  unfold sSeq
  rw [e]
theorem seq_ex {c : Str} {fs : List (Str × D)} (e : F ρ h = .ex c fs ρ1 h1) : sSeq F G ρ h = .ex c fs ρ1 h1 := by
  unfold sSeq
  rw [e]
theorem on_ok {r : Res α} {a : α} {k : α → IH → SR} (e : r = .ok a h1) : r.on ρ k = k a h1 := by
  rw [e]
  rfl
theorem if_t (e : t ρ h = .ok true h1) : sIf t F G ρ h = F ρ h1 := by
  unfold sIf
  rw [on_ok e, if_pos rfl]
theorem if_f (e : t ρ h = .ok false h1) : sIf t F G ρ h = G ρ h1 := by
  unfold sIf
  rw [on_ok e, if_neg (by decide)]
theorem if_nil (e : t ρ h = .ok false h1) : sIf t F sNil ρ h = .nx ρ h1 := if_f e
/-- if ..: return, and on -/
theorem seq_skip (e : t ρ h = .ok false h1) : sSeq (sIf t F sNil) G ρ h = G ρ h1 := seq_nx (if_nil e)
theorem seq_take {F2 : MS} (e : t ρ h = .ok true h1) (e' : F ρ h1 = .rt d h2) : sSeq (sIf t F F2) G ρ h = .rt d h2 := seq_rt ((if_t e).trans e')
theorem ret_ok (e : f ρ h = .ok d h1) : sRet f ρ h = .rt d h1 := by
  unfold sRet
  exact on_ok e
theorem retO_ok (e : g ρ h = .ok ds h1) : sRetO g ρ h = .ro ds h1 := by
  unfold sRetO
  exact on_ok e
theorem exp_ok (e : f ρ h = .ok d h1) : sExp f ρ h = .nx ρ h1 := by
  unfold sExp
  exact on_ok e
theorem asg_ok {tg : D → En → Option En} (e : f ρ h = .ok d h1) (et : tg d ρ = some ρ1) : sAsg f tg ρ h = .nx ρ1 h1 := by
  unfold sAsg
  rw [on_ok e, et]
theorem own_ok (e : g ρ h = .ok ds h1) : sOwn i g ρ h = .nx (ρ.set i (some (.own ds))) h1 := by
  unfold sOwn
  exact on_ok e
theorem for_ok {tg : D → En → Option En} (e : g ρ h = .ok ds h1) : sFor g tg F ρ h = loopS tg F ds ρ h1 := by
  unfold sFor
  exact on_ok e
theorem loop_nx {tg : D → En → Option En} {ρ2 : En} (e : tg d ρ = some ρ1) (e' : F ρ1 h = .nx ρ2 h1) : loopS tg F (d :: ds) ρ h = loopS tg F ds ρ2 h1 := by
  rw [loopS]
  simp only [e, e']
theorem loop_rt {tg : D → En → Option En} (e : tg d ρ = some ρ1) (e' : F ρ1 h = .rt x h1) : loopS tg F (d :: ds) ρ h = .rt x h1 := by
  rw [loopS]
  simp only [e, e']
/-- a loop that goes through, or returns: an invariant -/
theorem loop_inv {tg : D → En → Option En} (I : Nat → En → IH → Prop) (R : SR → Prop) (hR : ∀ r, R r → (∀ ρ h, r ≠ .nx ρ h) ∧ (∀ ρ h, r ≠ .ct ρ h) ∧ ∀ ρ h, r ≠ .bk ρ h) (hs : ∀ (k : Nat) (d : D) (ρ : En) (h : IH), d ∈ ds → I k ρ h → ∃ ρ1, tg d ρ = some ρ1 ∧ ((∃ ρ2 h2, F ρ1 h = .nx ρ2 h2 ∧ I (k + 1) ρ2 h2) ∨ R (F ρ1 h))) : ∀ (ds' : List D), (∀ d ∈ ds', d ∈ ds) → ∀ (k : Nat) (ρ : En) (h : IH), I k ρ h → (∃ ρ2 h2, loopS tg F ds' ρ h = .nx ρ2 h2 ∧ I (k + ds'.length) ρ2 h2) ∨ R (loopS tg F ds' ρ h)
  | [], _, k, ρ, h, q => .inl ⟨ρ, h, rfl, q⟩
  | d :: ds', hm, k, ρ, h, q => by
    obtain ⟨ρ1, e0, c⟩ := hs k d ρ h (hm d (by simp)) q
    rcases c with ⟨ρ2, h2, e1, q1⟩ | r
    · rw [loop_nx e0 e1]
      have := loop_inv I R hR hs ds' (fun d hd => hm d (by simp [hd])) (k + 1) ρ2 h2 q1
      rwa [show k + (d :: ds').length = k + 1 + ds'.length by simp; omega]
    · refine .inr ?_
      obtain ⟨n1, n2, n3⟩ := hR _ r
      rw [loopS]
      simp only [e0]
      cases e : F ρ1 h with
      | nx a b => exact absurd e (n1 a b)
      | ct a b => exact absurd e (n2 a b)
      | bk a b => exact absurd e (n3 a b)
      | rt a b => rw [e] at r; exact r
      | ex a b c d => rw [e] at r; exact r
      | ro a b => rw [e] at r; exact r
      | no => rw [e] at r; exact r
theorem runB_rt {ar n : Nat} (hl : ds.length = ar) (e : F (startE n ds) h = .rt d h1) : runB ar n F ds h = .ok d h1 := by
  unfold runB
  rw [if_pos hl, e]
theorem runB_nx {ar n : Nat} (hl : ds.length = ar) (e : F (startE n ds) h = .nx ρ1 h1) : runB ar n F ds h = .ok .non h1 := by
  unfold runB
  rw [if_pos hl, e]
theorem runB_ro {ar n : Nat} (hl : ds.length = ar) (e : F (startE n ds) h = .ro xs h1) : runB ar n F ds h = .ok (.lst xs) h1 := by
  unfold runB
  rw [if_pos hl, e]
theorem runO_ro {ar n : Nat} (hl : ds.length = ar) (e : F (startE n ds) h = .ro xs h1) : runO ar n F ds h = .ok xs h1 := by
  unfold runO
  rw [if_pos hl, e]
end
end WR
set_option Elab.async false
set_option linter.all false
set_option autoImplicit false
set_option maxRecDepth 100000
set_option maxHeartbeats 4000000
namespace WR.K02
open PySem PySem.Spec PyProof.Rows L2
def top (i : Nat) : Stmt := PySem.Challenge.pw_whatturns_k02_tables_rows_and_clashes.main.body.getD i (.Pass ⟨0, 0, 0, 0⟩)
def mth (i j : Nat) : Stmt := (clsBody (top i)).getD j (.Pass ⟨0, 0, 0, 0⟩)
def isiC : List Str := ["Table"]
def isiT (t u : String ⊕ Str) : Option Bool := match t, u with
  | .inl t, .inl u => if t ∈ ["NoneType", "bool", "int", "str", "tuple", "list", "dict"] ∧ u ∈ ["int", "bool", "str", "tuple"] then some (decide (t = u ∨ (t = "bool" ∧ u = "int"))) else none
  | .inl t, .inr u => if t ∈ ["NoneType", "bool", "int", "str", "tuple", "list", "dict"] ∧ u = "Table" then some false else none
  | .inr t, .inr u => if t = "Table" ∧ u = "Table" then some true else none
  | .inr t, .inl u => if t = "Table" ∧ u ∈ ["int", "bool", "str", "tuple"] then some false else none
theorem isi_in : ∀ c u b, isiT (.inr c) u = some b → c ∈ isiC := by
  intro c u b h
  cases u with
  | inl u => unfold isiT at h; dsimp only at h; split at h <;> simp_all [isiC]
  | inr u => unfold isiT at h; dsimp only at h; split at h <;> simp_all [isiC]
def excT (c x : Str) : Option Bool := if c = "InvalidTable" ∧ x = "InvalidTable" then some true else none
def xtT (c : Str) (t : D) : Option Bool := match t with
  | .ty n => if c = "InvalidTable" ∧ n = "ValueError" then some true else none
  | .glo x => if c = "InvalidTable" ∧ x = "TurnError" then some true else none
  | _ => none
def N_p_is_integer : List Str := ["thing"]
def F_p_is_integer : MS := sRet (eAn (eN (isiP isiT) (aCons (eVar 0) (aCons (eCst (.ty "int")) (aNil)))) (eNt (eN (isiP isiT) (aCons (eVar 0) (aCons (eCst (.ty "bool")) (aNil))))))
def d_p_is_integer : List D → M D := runB 1 1 F_p_is_integer
def N_p_is_name : List Str := ["thing", "letter"]
def F_p_is_name : MS := sSeq (sIf (tOr (tNt (tst (eN (isiP isiT) (aCons (eVar 0) (aCons (eCst (.ty "str")) (aNil)))))) (tNt (tst (eChain leP leP (eCst (.int 1)) (eN lenP (aCons (eVar 0) (aNil))) (eCst (.int 8)))))) (sRet (eCst (.bl false))) (sNil)) (sRet (eN allP (aCons (eFz (sizM (mLc (iSeq (eVar 0)) [1] (tgN 1) (tYs) (e2 inP (eVar 1) (eCst (.str "abcdefghijklmnopqrstuvwxyz")))))) (aNil))))
def d_p_is_name : List D → M D := runB 1 2 F_p_is_name
def N_p_are_names : List Str := ["thing", "one"]
def F_p_are_names : MS := sRet (eAn (eN (isiP isiT) (aCons (eVar 0) (aCons (eCst (.ty "tuple")) (aNil)))) (eAn (e2 leP (eN lenP (aCons (eVar 0) (aNil))) (eCst (.int 2))) (eN allP (aCons (eFz (sizM (mLc (iSeq (eVar 0)) [1] (tgN 1) (tYs) (eCallK 1 0 (bdId) d_p_is_name (aCons (eVar 1) (aNil)) aNil)))) (aNil)))))
def d_p_are_names : List D → M D := runB 1 2 F_p_are_names
def N_p_is_key : List Str := ["thing", "columns", "column", "one"]
def F_p_is_key : MS := sSeq (sIf (tOr (tNt (tst (eN (isiP isiT) (aCons (eVar 0) (aCons (eCst (.ty "tuple")) (aNil)))))) (tNt (tst (eN allP (aCons (eFz (sizM (mLc (iSeq (eVar 0)) [3] (tgN 3) (tYs) (eCallK 1 0 (bdId) d_p_is_name (aCons (eVar 3) (aNil)) aNil)))) (aNil)))))) (sRet (eCst (.bl false))) (sNil)) (sRet (e2 eqP (eFz (mList (aCons (eVar 0) (aNil)))) (eFz (sizM (mLc (iSeq (eVar 1)) [2] (tgN 2) (tst (e2 inP (eVar 2) (eVar 0))) (eVar 2))))))
def d_p_is_key : List D → M D := runB 2 4 F_p_is_key
def N_Table_init : List Str := ["self", "name", "names", "numbers", "key", "columns"]
def F_Table_init : MS := sSeq (sIf (tOr (tNt (tst (eCallK 1 0 (bdId) d_p_is_name (aCons (eVar 1) (aNil)) aNil))) (tOr (tNt (tst (eCallK 1 0 (bdId) d_p_are_names (aCons (eVar 2) (aNil)) aNil))) (tNt (tst (eCallK 1 0 (bdId) d_p_are_names (aCons (eVar 3) (aNil)) aNil))))) (sRaise0 "InvalidTable") (sNil)) (sSeq (sAsg (e2 addP (eVar 2) (eVar 3)) (tgN 5)) (sSeq (sIf (tOr (tst (e2 eqP (eVar 5) (eTup (aNil)))) (tOr (tst (e2 ltP (eLenSet (eVar 5)) (eN lenP (aCons (eVar 5) (aNil))))) (tNt (tst (eCallK 2 0 (bdId) d_p_is_key (aCons (eVar 4) (aCons (eVar 5) (aNil))) aNil))))) (sRaise0 "InvalidTable") (sNil)) (sSeq (sSlf 0 ["Table"] "name" (eVar 1)) (sSeq (sSlf 0 ["Table"] "names" (eVar 2)) (sSeq (sSlf 0 ["Table"] "numbers" (eVar 3)) (sSlf 0 ["Table"] "key" (eVar 4)))))))
def d_Table_init : List D → M (List (Str × D)) := runN "Table" 5 6 F_Table_init
def N_Table_columns : List Str := ["self"]
def F_Table_columns : MS := sRet (e2 addP (eFld ["Table"] "names" (eVar 0)) (eFld ["Table"] "numbers" (eVar 0)))
def d_Table_columns : List D → M D := runB 1 1 F_Table_columns
def N_Table_is_row : List Str := ["self", "thing", "many", "one"]
def F_Table_is_row : MS := sSeq (sAsg (eN lenP (aCons (eFld ["Table"] "names" (eVar 0)) (aNil))) (tgN 2)) (sSeq (sIf (tOr (tNt (tst (eN (isiP isiT) (aCons (eVar 1) (aCons (eCst (.ty "tuple")) (aNil)))))) (tst (e2 neP (eN lenP (aCons (eVar 1) (aNil))) (e2 addP (eVar 2) (eN lenP (aCons (eFld ["Table"] "numbers" (eVar 0)) (aNil))))))) (sRet (eCst (.bl false))) (sNil)) (sRet (eAn (eN allP (aCons (eFz (sizM (mLc (iSeq (eSl slP (eVar 1) none (some (eVar 2)))) [3] (tgN 3) (tYs) (eCallK 1 0 (bdId) d_p_is_name (aCons (eVar 3) (aNil)) aNil)))) (aNil))) (eN allP (aCons (eFz (sizM (mLc (iSeq (eSl slP (eVar 1) (some (eVar 2)) none)) [3] (tgN 3) (tYs) (eCallK 1 0 (bdId) d_p_is_integer (aCons (eVar 3) (aNil)) aNil)))) (aNil))))))
def d_Table_is_row : List D → M D := runB 2 4 F_Table_is_row
def N_Table_key_of : List Str := ["self", "row", "column", "value"]
def F_Table_key_of : MS := sRet (eN tupP1 (aCons (eFz (sizM (mLc (iOf zipP (aCons (eProp "Table" d_Table_columns (eVar 0)) (aCons (eVar 1) (aNil)))) [2, 3] (tgT (tgCons (tgN 2) (tgCons (tgN 3) (tgNil)))) (tst (e2 inP (eVar 2) (eFld ["Table"] "key" (eVar 0)))) (eVar 3)))) (aNil)))
def d_Table_key_of : List D → M D := runB 2 4 F_Table_key_of
def N_Table_clash : List Str := ["self", "one", "other"]
def F_Table_clash : MS := sRet (eAn (e2 neP (eFld ["Table"] "key" (eVar 0)) (eTup (aNil))) (e2 eqP (eMeth "Table" "key_of" 1 0 (bdId) d_Table_key_of (eVar 0) (aCons (eVar 1) (aNil)) aNil) (eMeth "Table" "key_of" 1 0 (bdId) d_Table_key_of (eVar 0) (aCons (eVar 2) (aNil)) aNil)))
def d_Table_clash : List D → M D := runB 3 3 F_Table_clash
def N_Table_eq : List Str := ["self", "other"]
def F_Table_eq : MS := sSeq (sIf (tOr (tNt (tst (eN (isiP isiT) (aCons (eVar 1) (aCons (eCst (.glo "Table")) (aNil)))))) (tst (e2 neP (eFld ["Table"] "name" (eVar 0)) (eFld ["Table"] "name" (eVar 1))))) (sRet (eCst (.bl false))) (sNil)) (sRet (eAn (e2 eqP (eFld ["Table"] "names" (eVar 0)) (eFld ["Table"] "names" (eVar 1))) (eAn (e2 eqP (eFld ["Table"] "numbers" (eVar 0)) (eFld ["Table"] "numbers" (eVar 1))) (e2 eqP (eFld ["Table"] "key" (eVar 0)) (eFld ["Table"] "key" (eVar 1))))))
def d_Table_eq : List D → M D := runB 2 2 F_Table_eq
def N_l_source : List Str := ["_law_script", "_law_stirred", "_law_cell"]
def F_l_source : MS := sSeq (sAsg (eCst (.int 90102)) (tgN 1)) (sSeq (sFor (iSeq (eSl slP (eVar 0) none (some (eCst (.int 60))))) (tgN 2) (sAsg (e2 modP (e2 addP (e2 addP (e2 mulP (eVar 1) (eCst (.int 48271))) (e2 modP (eVar 2) (eCst (.int 2147483563)))) (eCst (.int 17))) (eCst (.int 2147483629))) (tgN 1))) (sRet (eNew (sizM (aCons (eNew (mList (aCons (eSl slP (eVar 0) none (some (eCst (.int 60)))) (aNil)))) (aCons (eVar 1) (aCons (eCst (.int 0)) (aNil))))))))
def d_l_source : List D → M D := runB 1 3 F_l_source
def N_l_draw : List Str := ["_law_source_here", "_law_many", "_law_number", "_law_cell"]
def F_l_draw : MS := sSeq (sSetL (eVar 0) (eCst (.int 2)) (e2 addP (e2 ixP (eVar 0) (eCst (.int 2))) (eCst (.int 1)))) (sSeq (sAsg (e2 addP (e2 ixP (eVar 0) (eCst (.int 1))) (e2 mulP (e2 mulP (eCst (.int 40009)) (e2 ixP (eVar 0) (eCst (.int 2)))) (e2 ixP (eVar 0) (eCst (.int 2))))) (tgN 2)) (sSeq (sIf (tst (e2 neP (e2 ixP (eVar 0) (eCst (.int 0))) (eFz (sizM (aNil))))) (sSeq (sAsg (eLm pPopAt (e2 ixP (eVar 0) (eCst (.int 0))) (aCons (eCst (.int 0)) (aNil))) (tgN 3)) (sSeq (sIf (tst (e2 geP (eVar 3) (e2 powP (eCst (.int 10)) (eCst (.int 18))))) (sSeq (sExp (eLm pInsert (e2 ixP (eVar 0) (eCst (.int 0))) (aCons (eCst (.int 0)) (aCons (e2 fdivP (eVar 3) (eVar 1)) (aNil))))) (sRet (e2 modP (eVar 3) (eVar 1)))) (sNil)) (sAsg (e2 addP (eVar 2) (eVar 3)) (tgN 2)))) (sNil)) (sSeq (sAsg (e2 modP (e2 mulP (e2 modP (eVar 2) (eCst (.int 2147483563))) (eCst (.int 69621))) (eCst (.int 2147483647))) (tgN 2)) (sSeq (sAsg (e2 modP (e2 addP (e2 addP (e2 mulP (eVar 2) (eVar 2)) (e2 mulP (eCst (.int 30029)) (eVar 2))) (eCst (.int 5))) (eCst (.int 2147483587))) (tgN 2)) (sRet (e2 modP (e2 fdivP (e2 modP (e2 mulP (eVar 2) (eCst (.int 40692))) (eCst (.int 2147483629))) (eCst (.int 32))) (eVar 1)))))))
def d_l_draw : List D → M D := runB 2 4 F_l_draw
def N_l_pick : List Str := ["_law_source_here", "_law_items"]
def F_l_pick : MS := sRet (e2 ixP (eVar 1) (eCallK 2 0 (bdId) d_l_draw (aCons (eVar 0) (aCons (eN lenP (aCons (eVar 1) (aNil))) (aNil))) aNil))
def d_l_pick : List D → M D := runB 2 2 F_l_pick
def N_l_word : List Str := ["_law_source_here", "_law_letters", "_law_some", "_law_way", "_law_k"]
def F_l_word : MS := sSeq (sAsg (eCst (.str "abcdefghijklmnopqrstuvwxyz")) (tgN 1)) (sSeq (sAsg (eFz (sizM (aCons (eCst (.str "a")) (aCons (eCst (.str "b")) (aCons (eCst (.str "ab")) (aCons (eCst (.str "ba")) (aCons (eCst (.str "t")) (aCons (eCst (.str "p")) (aCons (eCst (.str "names")) (aCons (eCst (.str "row")) (aCons (eCst (.str "insert")) (aCons (eCst (.str "key")) (aCons (eCst (.str "old")) (aCons (eCst (.str "abcdefgh")) (aCons (eCst (.str "abcdefgz")) (aCons (eCst (.str "z")) (aNil))))))))))))))))) (tgN 2)) (sSeq (sAsg (eCallK 2 0 (bdId) d_l_draw (aCons (eVar 0) (aCons (eCst (.int 20)) (aNil))) aNil) (tgN 3)) (sSeq (sIf (tst (e2 ltP (eVar 3) (eCst (.int 14)))) (sRet (e2 ixP (eVar 2) (eVar 3))) (sNil)) (sRet (eSm pJoin (eCst (.str "")) (aCons (eFz (sizM (mLc (iOf rng1 (aCons (e2 addP (eCst (.int 1)) (eCallK 2 0 (bdId) d_l_draw (aCons (eVar 0) (aCons (eCst (.int 8)) (aNil))) aNil)) (aNil))) [4] (tgN 4) (tYs) (eCallK 2 0 (bdId) d_l_pick (aCons (eVar 0) (aCons (eVar 1) (aNil))) aNil)))) (aNil)))))))
def d_l_word : List D → M D := runB 1 5 F_l_word
def N_l_other : List Str := ["_law_source_here", "_law_far", "_law_some"]
def F_l_other : MS := sSeq (sAsg (e2 addP (e2 powP (eCst (.int 10)) (eCst (.int 39))) (eCallK 2 0 (bdId) d_l_draw (aCons (eVar 0) (aCons (eCst (.int 1000)) (aNil))) aNil)) (tgN 1)) (sSeq (sAsg (eFz (sizM (aCons (eCst .non) (aCons (eCst (.bl true)) (aCons (eCst (.bl false)) (aCons (eCst (.int 0)) (aCons (eCst (.int 1)) (aCons (eVar 1) (aCons (eCst (.str "")) (aCons (eCst (.str "A")) (aCons (eCst (.str "a1")) (aCons (eCst (.str "a b")) (aCons (eCst (.str "abcdefghi")) (aCons (eCst (.str "a,")) (aCons (eCst (.str "-")) (aCons (eCst (.str "aA")) (aCons (eCst (.str "\n")) (aCons (eCst (.str "{")) (aCons (eCst (.str "a.b")) (aNil)))))))))))))))))))) (tgN 2)) (sRet (eCallK 2 0 (bdId) d_l_pick (aCons (eVar 0) (aCons (e2 addP (eVar 2) (eFz (sizM (aCons (eTup (aNil)) (aCons (eFz (sizM (aNil))) (aCons (eDict0) (aCons (eTup (aCons (eCst (.str "a")) (aNil))) (aCons (eFz (sizM (aCons (eCst (.str "a")) (aNil)))) (aCons (eTup (aCons (eCst (.str "a")) (aCons (eCst (.str "b")) (aCons (eCst (.str "c")) (aNil))))) (aCons (eTup (aCons (eTup (aNil)) (aNil))) (aCons (e2 mulP (eCst (.str "a")) (eCst (.int 300))) (aNil)))))))))))) (aNil))) aNil)))
def d_l_other : List D → M D := runB 1 3 F_l_other
def N_l_is_name : List Str := ["_law_it", "_law_letter"]
def F_l_is_name : MS := sSeq (sIf (tOr (tNt (tst (eN (isiP isiT) (aCons (eVar 0) (aCons (eCst (.ty "str")) (aNil)))))) (tNt (tst (eChain leP leP (eCst (.int 1)) (eN lenP (aCons (eVar 0) (aNil))) (eCst (.int 8)))))) (sRet (eCst (.bl false))) (sNil)) (sRet (e2 eqP (eFz (sizM (mLc (iSeq (eVar 0)) [1] (tgN 1) (tNt (tst (eChain leP leP (eCst (.str "a")) (eVar 1) (eCst (.str "z"))))) (eVar 1)))) (eFz (sizM (aNil)))))
def d_l_is_name : List D → M D := runB 1 2 F_l_is_name
def N_l_are_names : List Str := ["_law_it", "_law_item"]
def F_l_are_names : MS := sRet (eAn (eN (isiP isiT) (aCons (eVar 0) (aCons (eCst (.ty "tuple")) (aNil)))) (eAn (e2 ltP (eN lenP (aCons (eVar 0) (aNil))) (eCst (.int 3))) (e2 eqP (eFz (sizM (mLc (iSeq (eVar 0)) [1] (tgN 1) (tNt (tst (eCallK 1 0 (bdId) d_l_is_name (aCons (eVar 1) (aNil)) aNil))) (eVar 1)))) (eFz (sizM (aNil))))))
def d_l_are_names : List D → M D := runB 1 2 F_l_are_names
def N_l_key_right : List Str := ["_law_picked", "_law_columns", "_law_at", "_law_item"]
def F_l_key_right : MS := sSeq (sIf (tNt (tst (eN (isiP isiT) (aCons (eVar 0) (aCons (eCst (.ty "tuple")) (aNil)))))) (sRet (eCst (.bl false))) (sNil)) (sSeq (sAsg (e1 negP (eCst (.int 1))) (tgN 2)) (sSeq (sFor (iSeq (eVar 0)) (tgN 3) (sSeq (sIf (tOr (tNt (tst (eN (isiP isiT) (aCons (eVar 3) (aCons (eCst (.ty "str")) (aNil)))))) (tOr (tst (e2 notInP (eVar 3) (eVar 1))) (tst (e2 leP (eIdx (eVar 1) (eVar 3)) (eVar 2))))) (sRet (eCst (.bl false))) (sNil)) (sAsg (eIdx (eVar 1) (eVar 3)) (tgN 2)))) (sRet (eCst (.bl true)))))
def d_l_key_right : List D → M D := runB 2 4 F_l_key_right
def N_l_right : List Str := ["_law_title", "_law_labels", "_law_figures", "_law_picked", "_law_columns"]
def F_l_right : MS := sSeq (sIf (tOr (tNt (tst (eCallK 1 0 (bdId) d_l_is_name (aCons (eVar 0) (aNil)) aNil))) (tOr (tNt (tst (eCallK 1 0 (bdId) d_l_are_names (aCons (eVar 1) (aNil)) aNil))) (tNt (tst (eCallK 1 0 (bdId) d_l_are_names (aCons (eVar 2) (aNil)) aNil))))) (sRet (eCst (.bl false))) (sNil)) (sSeq (sAsg (e2 addP (eVar 1) (eVar 2)) (tgN 4)) (sSeq (sIf (tOr (tst (e2 eqP (eVar 4) (eTup (aNil)))) (tst (e2 neP (eLenSet (eVar 4)) (eN lenP (aCons (eVar 4) (aNil)))))) (sRet (eCst (.bl false))) (sNil)) (sRet (eCallK 2 0 (bdId) d_l_key_right (aCons (eVar 3) (aCons (eVar 4) (aNil))) aNil))))
def d_l_right : List D → M D := runB 4 5 F_l_right
def N_l_valid : List Str := ["_law_source_here", "_law_many", "_law_columns", "_law_k", "_law_words", "_law_split", "_law_picked", "_law_column", "_law_word_here"]
def F_l_valid : MS := sSeq (sAsg (e2 addP (eCst (.int 1)) (eCallK 2 0 (bdId) d_l_draw (aCons (eVar 0) (aCons (eCst (.int 4)) (aNil))) aNil)) (tgN 1)) (sSeq (sOwn 2 (sizM (aNil))) (sSeq (sFor (iOf rng1 (aCons (eVar 1) (aNil))) (tgN 3) (sSeq (sAsg (eFz (sizM (aCons (eCallK 1 0 (bdId) d_l_word (aCons (eVar 0) (aNil)) aNil) (aCons (eCst (.str "one")) (aCons (eCst (.str "two")) (aCons (eCst (.str "three")) (aCons (eCst (.str "four")) (aNil)))))))) (tgN 4)) (sMut 2 pAppend (aCons (e2 ixP (eFz (sizM (mLc (iSeq (eVar 4)) [8] (tgN 8) (tst (eCmpOr notInT (eVar 8) 2)) (eVar 8)))) (eCst (.int 0))) (aNil))))) (sSeq (sAsg (eN max2P (aCons (e2 subP (eVar 1) (eCst (.int 2))) (aCons (eN min2P (aCons (eCst (.int 2)) (aCons (eCallK 2 0 (bdId) d_l_draw (aCons (eVar 0) (aCons (e2 addP (eVar 1) (eCst (.int 1))) (aNil))) aNil) (aNil)))) (aNil)))) (tgN 5)) (sFrz 2 (sSeq (sAsg (eFz (sizM (mLc (iSeq (eVar 2)) [7] (tgN 7) (tst (e2 eqP (eCallK 2 0 (bdId) d_l_draw (aCons (eVar 0) (aCons (eCst (.int 3)) (aNil))) aNil) (eCst (.int 0)))) (eVar 7)))) (tgN 6)) (sRetO (sizM (aCons (eCallK 1 0 (bdId) d_l_word (aCons (eVar 0) (aNil)) aNil) (aCons (eN tupP1 (aCons (eSl slP (eVar 2) none (some (eVar 5))) (aNil))) (aCons (eN tupP1 (aCons (eSl slP (eVar 2) (some (eVar 5)) none) (aNil))) (aCons (eN tupP1 (aCons (eVar 6) (aNil))) (aNil))))))))))))
def d_l_valid : List D → M (List D) := runO 1 9 F_l_valid
def N_l_bent : List Str := ["_law_source_here", "_law_it", "_law_way", "_law_at", "_law_word_here", "_law_some"]
def F_l_bent : MS := sSeq (sAsg (eCallK 2 0 (bdId) d_l_draw (aCons (eVar 0) (aCons (eCst (.int 7)) (aNil))) aNil) (tgN 2)) (sSeq (sIf (tOr (tst (e2 eqP (eVar 2) (eCst (.int 0)))) (tNt (tst (eN (isiP isiT) (aCons (eVar 1) (aCons (eCst (.ty "tuple")) (aNil))))))) (sRet (eCallK 1 0 (bdId) d_l_other (aCons (eVar 0) (aNil)) aNil)) (sNil)) (sSeq (sAsg (eCallK 2 0 (bdId) d_l_draw (aCons (eVar 0) (aCons (e2 addP (eN lenP (aCons (eVar 1) (aNil))) (eCst (.int 1))) (aNil))) aNil) (tgN 3)) (sSeq (sAsg (eCallK 1 0 (bdId) d_l_word (aCons (eVar 0) (aNil)) aNil) (tgN 4)) (sSeq (sAsg (eFz (sizM (aCons (e2 addP (e2 addP (eSl slP (eVar 1) none (some (eVar 3))) (eTup (aCons (eCallK 1 0 (bdId) d_l_other (aCons (eVar 0) (aNil)) aNil) (aNil)))) (eSl slP (eVar 1) (some (e2 addP (eVar 3) (eCst (.int 1)))) none)) (aCons (e2 addP (eVar 1) (eTup (aCons (eVar 4) (aNil)))) (aCons (eRevT (eVar 1)) (aCons (eFz (mList (aCons (eVar 1) (aNil)))) (aCons (e2 addP (eVar 1) (eSl slP (eVar 1) none (some (eCst (.int 1))))) (aCons (eSl slP (eVar 1) (some (eCst (.int 1))) none) (aNil))))))))) (tgN 5)) (sRet (e2 ixP (eVar 5) (e2 subP (eVar 2) (eCst (.int 1)))))))))
def d_l_bent : List D → M D := runB 2 6 F_l_bent
def N_l_heard : List Str := ["_law_some", "_law_by_name", "_law_found", "e"]
def F_l_heard : MS := sSeq (sAsg (eCst .non) (tgN 2)) (sSeq (sTry excT (sIf (tst (eVar 1)) (sAsg (eMk "Table" (mkM 0 4 (bdP [3, 2, 1, 0] [(.tup []), (.tup [])]) d_Table_init aNil (aCons (e2 ixP (eVar 0) (eCst (.int 3))) (aCons (e2 ixP (eVar 0) (eCst (.int 2))) (aCons (e2 ixP (eVar 0) (eCst (.int 1))) (aCons (e2 ixP (eVar 0) (eCst (.int 0))) (aNil))))))) (tgN 2)) (sAsg (eMk "Table" (mkM 4 0 (bdP [0, 1, 2, 3] [(.tup []), (.tup [])]) d_Table_init (aCons (e2 ixP (eVar 0) (eCst (.int 0))) (aCons (e2 ixP (eVar 0) (eCst (.int 1))) (aCons (e2 ixP (eVar 0) (eCst (.int 2))) (aCons (e2 ixP (eVar 0) (eCst (.int 3))) (aNil))))) aNil)) (tgN 2))) (⟨"InvalidTable", some 3, sAsg (eIf (tAn (tst (eXis xtT 3 (.glo "TurnError"))) (tst (eXis xtT 3 (.ty "ValueError")))) (eCst .non) (eCst (.str "odd"))) (tgN 2)⟩ :: [])) (sRet (eVar 2)))
def d_l_heard : List D → M D := runB 2 4 F_l_heard
def N_l_row : List Str := ["_law_source_here", "_law_some", "_law_far", "_law_words", "_law_column"]
def F_l_row : MS := sSeq (sAsg (eFz (sizM (mLc (iSeq (e2 ixP (eVar 1) (eCst (.int 1)))) [4] (tgN 4) (tYs) (eCallK 2 0 (bdId) d_l_pick (aCons (eVar 0) (aCons (eFz (sizM (aCons (eCst (.str "a")) (aCons (eCst (.str "b")) (aCons (eCst (.str "ab")) (aCons (eCst (.str "abcdefgh")) (aNil))))))) (aNil))) aNil)))) (tgN 3)) (sRet (eN tupP1 (aCons (e2 addP (eVar 3) (eFz (sizM (mLc (iSeq (e2 ixP (eVar 1) (eCst (.int 2)))) [4] (tgN 4) (tYs) (eCallK 2 0 (bdId) d_l_pick (aCons (eVar 0) (aCons (eFz (sizM (aCons (eCst (.int 0)) (aCons (eCst (.int 1)) (aCons (e1 negP (eCst (.int 1))) (aCons (eCst (.int 7)) (aCons (eVar 2) (aCons (e2 subP (eCst (.int 0)) (eVar 2)) (aNil))))))))) (aNil))) aNil))))) (aNil))))
def d_l_row : List D → M D := runB 3 5 F_l_row
def N_l_is_row : List Str := ["_law_some", "_law_it", "_law_place", "_law_value"]
def F_l_is_row : MS := sSeq (sIf (tOr (tNt (tst (eN (isiP isiT) (aCons (eVar 1) (aCons (eCst (.ty "tuple")) (aNil)))))) (tst (e2 neP (eN lenP (aCons (eVar 1) (aNil))) (e2 addP (eN lenP (aCons (e2 ixP (eVar 0) (eCst (.int 1))) (aNil))) (eN lenP (aCons (e2 ixP (eVar 0) (eCst (.int 2))) (aNil))))))) (sRet (eCst (.bl false))) (sNil)) (sSeq (sFor (iOf enuP (aCons (eVar 1) (aNil))) (tgT (tgCons (tgN 2) (tgCons (tgN 3) (tgNil)))) (sSeq (sIf (tAn (tst (e2 ltP (eVar 2) (eN lenP (aCons (e2 ixP (eVar 0) (eCst (.int 1))) (aNil))))) (tNt (tst (eCallK 1 0 (bdId) d_l_is_name (aCons (eVar 3) (aNil)) aNil)))) (sRet (eCst (.bl false))) (sNil)) (sIf (tAn (tst (e2 geP (eVar 2) (eN lenP (aCons (e2 ixP (eVar 0) (eCst (.int 1))) (aNil))))) (tOr (tst (eN (isiP isiT) (aCons (eVar 3) (aCons (eCst (.ty "bool")) (aNil))))) (tNt (tst (eN (isiP isiT) (aCons (eVar 3) (aCons (eCst (.ty "int")) (aNil)))))))) (sRet (eCst (.bl false))) (sNil)))) (sRet (eCst (.bl true))))
def d_l_is_row : List D → M D := runB 2 4 F_l_is_row
def N_l_clash : List Str := ["_law_some", "_law_item", "_law_twin", "_law_columns", "_law_unlike", "_law_column"]
def F_l_clash : MS := sSeq (sAsg (e2 addP (e2 ixP (eVar 0) (eCst (.int 1))) (e2 ixP (eVar 0) (eCst (.int 2)))) (tgN 3)) (sSeq (sAsg (eFz (sizM (mLc (iSeq (e2 ixP (eVar 0) (eCst (.int 3)))) [5] (tgN 5) (tst (e2 neP (e2 ixP (eVar 1) (eIdx (eVar 3) (eVar 5))) (e2 ixP (eVar 2) (eIdx (eVar 3) (eVar 5))))) (eVar 5)))) (tgN 4)) (sRet (eAn (e2 neP (e2 ixP (eVar 0) (eCst (.int 3))) (eTup (aNil))) (e2 eqP (eVar 4) (eFz (sizM (aNil)))))))
def d_l_clash : List D → M D := runB 3 6 F_l_clash
def N_l_rows_right : List Str := ["_law_source_here", "_law_table", "_law_some", "_law_rows", "_law_wide", "_law_row_here", "_law_at", "_law_twin", "_law_things", "_law_it", "_law_kept", "_law_due", "_law_mate", "_law_k"]
def F_l_rows_right : MS := sSeq (sAsg (eFz (sizM (mLc (iOf rng1 (aCons (eCst (.int 5)) (aNil))) [13] (tgN 13) (tYs) (eCallK 3 0 (bdId) d_l_row (aCons (eVar 0) (aCons (eVar 2) (aCons (e2 subP (e2 powP (eCst (.int 10)) (eCst (.int 12))) (eCst (.int 1))) (aNil)))) aNil)))) (tgN 3)) (sSeq (sAsg (eCallK 3 0 (bdId) d_l_row (aCons (eVar 0) (aCons (eVar 2) (aCons (e2 addP (e2 powP (eCst (.int 10)) (eCst (.int 38))) (eCallK 2 0 (bdId) d_l_draw (aCons (eVar 0) (aCons (e2 powP (eCst (.int 10)) (eCst (.int 6))) (aNil))) aNil)) (aNil)))) aNil) (tgN 4)) (sSeq (sFor (iSeq (eVar 3)) (tgN 5) (sSeq (sAsg (eCallK 2 0 (bdId) d_l_draw (aCons (eVar 0) (aCons (e2 addP (eN lenP (aCons (eVar 5) (aNil))) (eCst (.int 1))) (aNil))) aNil) (tgN 6)) (sSeq (sAsg (e2 addP (e2 addP (eSl slP (eVar 5) none (some (eVar 6))) (eTup (aCons (eCallK 1 0 (bdId) d_l_other (aCons (eVar 0) (aNil)) aNil) (aNil)))) (eSl slP (eVar 5) (some (e2 addP (eVar 6) (eCst (.int 1)))) none)) (tgN 7)) (sSeq (sAsg (eFz (sizM (aCons (eVar 5) (aCons (eVar 7) (aCons (eFz (mList (aCons (eVar 5) (aNil)))) (aCons (eSl slP (eVar 5) (some (eCst (.int 1))) none) (aCons (e2 addP (eVar 5) (eSl slP (eVar 5) none (some (eCst (.int 1))))) (aCons (eRevT (eVar 5)) (aCons (e2 addP (e2 addP (eSl slP (eVar 5) none (some (eVar 6))) (eTup (aCons (eCst (.bl true)) (aNil)))) (eSl slP (eVar 5) (some (e2 addP (eVar 6) (eCst (.int 1)))) none)) (aCons (eTup (aCons (eVar 5) (aNil))) (aNil))))))))))) (tgN 8)) (sSeq (sFor (iSeq (e2 addP (eVar 8) (eFz (sizM (aCons (eCallK 1 0 (bdId) d_l_other (aCons (eVar 0) (aNil)) aNil) (aCons (eVar 4) (aNil))))))) (tgN 9) (sSeq (sPar2 10 11 (aCons (eN reprP (aCons (eVar 9) (aNil))) (aCons (eN reprP (aCons (eCallK 2 0 (bdId) d_l_is_row (aCons (eVar 2) (aCons (eVar 9) (aNil))) aNil) (aNil))) (aNil)))) (sIf (tst (e2 neP (eFz (sizM (aCons (eN reprP (aCons (eMeth "Table" "is_row" 1 0 (bdId) d_Table_is_row (eVar 1) (aCons (eVar 9) (aNil)) aNil) (aNil))) (aCons (eN reprP (aCons (eMeth "Table" "is_row" 0 1 (bdP [0, 1] []) d_Table_is_row (eVar 1) aNil (aCons (eVar 9) (aNil))) (aNil))) (aCons (eN reprP (aCons (eVar 9) (aNil))) (aNil)))))) (eFz (sizM (aCons (eVar 11) (aCons (eVar 11) (aCons (eVar 10) (aNil)))))))) (sRet (eCst (.bl false))) (sNil)))) (sFor (iSeq (eVar 3)) (tgN 12) (sSeq (sAsg (eN reprP (aCons (eCallK 3 0 (bdId) d_l_clash (aCons (eVar 2) (aCons (eVar 5) (aCons (eVar 12) (aNil)))) aNil) (aNil))) (tgN 11)) (sIf (tOr (tst (e2 neP (eN reprP (aCons (eMeth "Table" "clash" 2 0 (bdId) d_Table_clash (eVar 1) (aCons (eVar 5) (aCons (eVar 12) (aNil))) aNil) (aNil))) (eVar 11))) (tst (e2 neP (eN reprP (aCons (eMeth "Table" "clash" 0 2 (bdP [0, 2, 1] []) d_Table_clash (eVar 1) aNil (aCons (eVar 5) (aCons (eVar 12) (aNil)))) (aNil))) (eVar 11)))) (sRet (eCst (.bl false))) (sNil))))))))) (sRet (eCst (.bl true)))))
def d_l_rows_right : List D → M D := runB 3 14 F_l_rows_right
def N_l_equal_right : List Str := ["_law_source_here", "_law_table", "_law_some", "_law_same", "_law_place", "_law_twin", "_law_due", "_law_found", "_law_things", "_law_it"]
def F_l_equal_right : MS := sSeq (sPar2 3 4 (aCons (eMk "Table" (mkM 4 0 (bdP [0, 1, 2, 3] [(.tup []), (.tup [])]) d_Table_init (aCons (e2 ixP (eVar 2) (eCst (.int 0))) (aCons (e2 ixP (eVar 2) (eCst (.int 1))) (aCons (e2 ixP (eVar 2) (eCst (.int 2))) (aCons (e2 ixP (eVar 2) (eCst (.int 3))) (aNil))))) aNil)) (aCons (eCallK 2 0 (bdId) d_l_draw (aCons (eVar 0) (aCons (eCst (.int 4)) (aNil))) aNil) (aNil)))) (sSeq (sIf (tst (e2 neP (eN reprP (aCons (eFz (sizM (aCons (eeqO "Table" d_Table_eq (eVar 1) (eVar 3)) (aCons (eeqO "Table" d_Table_eq (eVar 3) (eVar 1)) (aCons (eneO "Table" d_Table_eq (eVar 1) (eVar 3)) (aNil)))))) (aNil))) (eN reprP (aCons (eFz (sizM (aCons (eCst (.bl true)) (aCons (eCst (.bl true)) (aCons (eCst (.bl false)) (aNil)))))) (aNil))))) (sRet (eCst (.bl false))) (sNil)) (sSeq (sOwn 5 (mList (aCons (eVar 2) (aNil)))) (sSeq (sSetO 5 (eVar 4) (e2 ixP (eFz (eCallO d_l_valid (aCons (eVar 0) (aNil)))) (eVar 4))) (sSeq (sIf (tst (eCallK 4 0 (bdId) d_l_right (aCons (eIxO 5 (eCst (.int 0))) (aCons (eIxO 5 (eCst (.int 1))) (aCons (eIxO 5 (eCst (.int 2))) (aCons (eIxO 5 (eCst (.int 3))) (aNil))))) aNil)) (sSeq (sAsg (eCmpOl eqT 5 (eVar 2)) (tgN 6)) (sSeq (sAsg (eMk "Table" (mkM 4 0 (bdP [0, 1, 2, 3] [(.tup []), (.tup [])]) d_Table_init (aCons (eIxO 5 (eCst (.int 0))) (aCons (eIxO 5 (eCst (.int 1))) (aCons (eIxO 5 (eCst (.int 2))) (aCons (eIxO 5 (eCst (.int 3))) (aNil))))) aNil)) (tgN 7)) (sIf (tst (e2 neP (eN reprP (aCons (eFz (sizM (aCons (eeqO "Table" d_Table_eq (eVar 1) (eVar 7)) (aCons (eeqO "Table" d_Table_eq (eVar 7) (eVar 1)) (aNil))))) (aNil))) (eN reprP (aCons (eFz (sizM (aCons (eVar 6) (aCons (eVar 6) (aNil))))) (aNil))))) (sRet (eCst (.bl false))) (sNil)))) (sNil)) (sSeq (sAsg (eFz (sizM (aCons (eCst .non) (aCons (e2 ixP (eVar 2) (eCst (.int 0))) (aCons (eN tupP1 (aCons (eVar 2) (aNil))) (aCons (eVar 2) (aCons (eCst (.int 0)) (aCons (eCst (.str "table")) (aCons (eTup (aNil)) (aNil)))))))))) (tgN 8)) (sRet (e2 eqP (eFz (sizM (mLc (iSeq (eVar 8)) [9] (tgN 9) (tOr (tst (eeqO "Table" d_Table_eq (eVar 1) (eVar 9))) (tst (eeqO "Table" d_Table_eq (eVar 9) (eVar 1)))) (eVar 9)))) (eFz (sizM (aNil))))))))))
def d_l_equal_right : List D → M D := runB 3 10 F_l_equal_right
def N_l_table_right : List Str := ["_law_source_here", "_law_some", "_law_kept", "_law_is_right", "_law_by_name", "_law_table", "_law_found"]
def F_l_table_right : MS := sSeq (sPar2 2 3 (aCons (eN reprP (aCons (eVar 1) (aNil))) (aCons (eCallK 4 0 (bdId) d_l_right (aCons (e2 ixP (eVar 1) (eCst (.int 0))) (aCons (e2 ixP (eVar 1) (eCst (.int 1))) (aCons (e2 ixP (eVar 1) (eCst (.int 2))) (aCons (e2 ixP (eVar 1) (eCst (.int 3))) (aNil))))) aNil) (aNil)))) (sSeq (sFor (iSeq (eTup (aCons (eCst (.bl false)) (aCons (eCst (.bl true)) (aNil))))) (tgN 4) (sSeq (sAsg (eCallK 2 0 (bdId) d_l_heard (aCons (eVar 1) (aCons (eVar 4) (aNil))) aNil) (tgN 5)) (sSeq (sIf (tOr (tAn (tNt (tst (eVar 3))) (tst (e2 isNotP (eVar 5) (eCst .non)))) (tAn (tst (eVar 3)) (tNt (tst (eN (isiP isiT) (aCons (eVar 5) (aCons (eCst (.glo "Table")) (aNil)))))))) (sRet (eCst (.bl false))) (sNil)) (sIf (tst (eVar 3)) (sSeq (sAsg (eFz (sizM (aCons (eFld ["Table"] "name" (eVar 5)) (aCons (eFld ["Table"] "names" (eVar 5)) (aCons (eFld ["Table"] "numbers" (eVar 5)) (aCons (eFld ["Table"] "key" (eVar 5)) (aNil))))))) (tgN 6)) (sSeq (sIf (tOr (tst (e2 neP (eN reprP (aCons (eVar 6) (aNil))) (eVar 2))) (tst (e2 neP (eN reprP (aCons (eProp "Table" d_Table_columns (eVar 5)) (aNil))) (eN reprP (aCons (e2 addP (e2 ixP (eVar 1) (eCst (.int 1))) (e2 ixP (eVar 1) (eCst (.int 2)))) (aNil)))))) (sRet (eCst (.bl false))) (sNil)) (sIf (tOr (tNt (tst (eCallK 3 0 (bdId) d_l_rows_right (aCons (eVar 0) (aCons (eVar 5) (aCons (eVar 1) (aNil)))) aNil))) (tNt (tst (eCallK 3 0 (bdId) d_l_equal_right (aCons (eVar 0) (aCons (eVar 5) (aCons (eVar 1) (aNil)))) aNil)))) (sRet (eCst (.bl false))) (sNil)))) (sNil))))) (sRet (e2 eqP (eN reprP (aCons (eVar 1) (aNil))) (eVar 2))))
def d_l_table_right : List D → M D := runB 2 7 F_l_table_right
def N_l_defaults_right : List Str := ["_law_word_here", "_law_item", "_law_two", "_law_found"]
def F_l_defaults_right : MS := sSeq (sPar2 1 2 (aCons (eMk "Table" (mkM 2 0 (bdP [0, 1, 2, 3] [(.tup []), (.tup [])]) d_Table_init (aCons (eVar 0) (aCons (eTup (aCons (eCst (.str "a")) (aNil))) (aNil))) aNil)) (aCons (eMk "Table" (mkM 3 0 (bdP [0, 1, 2, 4] [(.tup []), (.tup [])]) d_Table_init (aCons (eVar 0) (aCons (eTup (aNil)) (aCons (eTup (aCons (eCst (.str "p")) (aNil))) (aNil)))) aNil)) (aNil)))) (sSeq (sIf (tst (e2 neP (eN reprP (aCons (eFz (sizM (aCons (eFld ["Table"] "names" (eVar 1)) (aCons (eFld ["Table"] "numbers" (eVar 1)) (aCons (eFld ["Table"] "key" (eVar 1)) (aCons (eProp "Table" d_Table_columns (eVar 1)) (aNil))))))) (aNil))) (eN reprP (aCons (eFz (sizM (aCons (eTup (aCons (eCst (.str "a")) (aNil))) (aCons (eTup (aNil)) (aCons (eTup (aNil)) (aCons (eTup (aCons (eCst (.str "a")) (aNil))) (aNil))))))) (aNil))))) (sRet (eCst (.bl false))) (sNil)) (sSeq (sAsg (eFz (sizM (aCons (eFld ["Table"] "names" (eVar 2)) (aCons (eFld ["Table"] "numbers" (eVar 2)) (aCons (eFld ["Table"] "key" (eVar 2)) (aCons (eProp "Table" d_Table_columns (eVar 2)) (aCons (eMeth "Table" "clash" 2 0 (bdId) d_Table_clash (eVar 1) (aCons (eTup (aCons (eCst (.str "x")) (aNil))) (aCons (eTup (aCons (eCst (.str "x")) (aNil))) (aNil))) aNil) (aCons (eeqO "Table" d_Table_eq (eVar 1) (eVar 2)) (aNil))))))))) (tgN 3)) (sRet (e2 eqP (eN reprP (aCons (eVar 3) (aNil))) (eN reprP (aCons (eFz (sizM (aCons (eTup (aNil)) (aCons (eTup (aCons (eCst (.str "p")) (aNil))) (aCons (eTup (aNil)) (aCons (eTup (aCons (eCst (.str "p")) (aNil))) (aCons (eCst (.bl false)) (aCons (eCst (.bl false)) (aNil))))))))) (aNil)))))))
def d_l_defaults_right : List D → M D := runB 1 4 F_l_defaults_right
def N_law : List Str := ["_law_script", "_law_source_here", "_law_turn", "_law_word_here", "_law_some", "_law_k", "_law_at"]
def F_law : MS := sSeq (sAsg (eCallK 1 0 (bdId) d_l_source (aCons (eVar 0) (aNil)) aNil) (tgN 1)) (sSeq (sFor (iOf rng1 (aCons (eCst (.int 40)) (aNil))) (tgN 2) (sSeq (sAsg (eCallK 2 0 (bdId) d_l_pick (aCons (eVar 1) (aCons (eFz (sizM (aCons (eCallK 1 0 (bdId) d_l_word (aCons (eVar 1) (aNil)) aNil) (aCons (eCallK 1 0 (bdId) d_l_other (aCons (eVar 1) (aNil)) aNil) (aCons (e2 addP (eCallK 1 0 (bdId) d_l_word (aCons (eVar 1) (aNil)) aNil) (eCst (.str "s"))) (aNil)))))) (aNil))) aNil) (tgN 3)) (sSeq (sIf (tst (e2 neP (eFz (sizM (aCons (eN reprP (aCons (eCallK 1 0 (bdId) d_p_is_name (aCons (eVar 3) (aNil)) aNil) (aNil))) (aCons (eN reprP (aCons (eCallK 0 1 (bdP [0] []) d_p_is_name aNil (aCons (eVar 3) (aNil))) (aNil))) (aNil))))) (e2 mulP (eFz (sizM (aCons (eN reprP (aCons (eCallK 1 0 (bdId) d_l_is_name (aCons (eVar 3) (aNil)) aNil) (aNil))) (aNil)))) (eCst (.int 2))))) (sRet (eCst (.bl false))) (sNil)) (sSeq (sOwn 4 (eCallO d_l_valid (aCons (eVar 1) (aNil)))) (sSeq (sFor (iOf rng1 (aCons (eCallK 2 0 (bdId) d_l_pick (aCons (eVar 1) (aCons (eFz (sizM (aCons (eCst (.int 0)) (aCons (eCst (.int 0)) (aCons (eCst (.int 1)) (aCons (eCst (.int 1)) (aCons (eCst (.int 2)) (aNil)))))))) (aNil))) aNil) (aNil))) (tgN 5) (sSeq (sAsg (eCallK 2 0 (bdId) d_l_draw (aCons (eVar 1) (aCons (eCst (.int 4)) (aNil))) aNil) (tgN 6)) (sSetO 4 (eVar 6) (eCallK 2 0 (bdId) d_l_bent (aCons (eVar 1) (aCons (eIxO 4 (eVar 6)) (aNil))) aNil)))) (sFrz 4 (sIf (tNt (tst (eCallK 2 0 (bdId) d_l_table_right (aCons (eVar 1) (aCons (eVar 4) (aNil))) aNil))) (sRet (eCst (.bl false))) (sNil)))))))) (sRet (eCallK 1 0 (bdId) d_l_defaults_right (aCons (eCallK 1 0 (bdId) d_l_word (aCons (eVar 1) (aNil)) aNil) (aNil)) aNil)))
def d_law : List D → M D := runB 1 7 F_law
end WR.K02
set_option Elab.async false
set_option linter.all false
set_option autoImplicit false
set_option maxRecDepth 100000
set_option maxHeartbeats 4000000
namespace WR.K02
open PySem PySem.Spec PyProof.Rows L2
structure Tx (Γ : PC) : Prop where
  b_int : Γ.mg "int" = none
  isi : KitOk Γ.K Γ.mg isiC isiT
  b_isinstance : Γ.mg "isinstance" = none
  b_bool : Γ.mg "bool" = none
  b_str : Γ.mg "str" = none
  b_len : Γ.mg "len" = none
  c_MOST_LETTERS : Con Γ.K Γ.mg "MOST_LETTERS" (.int 8)
  c_LETTERS : Con Γ.K Γ.mg "LETTERS" (.str "abcdefghijklmnopqrstuvwxyz")
  b_all : Γ.mg "all" = none
  b_tuple : Γ.mg "tuple" = none
  c_MOST_COLUMNS : Con Γ.K Γ.mg "MOST_COLUMNS" (.int 2)
  b_list : Γ.mg "list" = none
  x_InvalidTable : XE Γ "InvalidTable" none
  b_set : Γ.mg "set" = none
  f_name : FldOk Γ ["Table"] "name"
  f_names : FldOk Γ ["Table"] "names"
  f_numbers : FldOk Γ ["Table"] "numbers"
  f_key : FldOk Γ ["Table"] "key"
  b_zip : Γ.mg "zip" = none
  g_Table : Con Γ.K Γ.mg "Table" (.glo "Table")
  b_range : Γ.mg "range" = none
  b_min : Γ.mg "min" = none
  b_max : Γ.mg "max" = none
  g_TurnError : Con Γ.K Γ.mg "TurnError" (.glo "TurnError")
  xt : XtOk Γ.K Γ.mg xtT
  b_ValueError : Γ.mg "ValueError" = none
  sub : SubOk Γ.K Γ.mg excT
  b_enumerate : Γ.mg "enumerate" = none
  b_repr : Γ.mg "repr" = none
  q_Table_eq : EqF Γ "Table"
  d_p_is_integer : DefF Γ "is_integer" (top 4) []
  d_p_is_name : DefF Γ "is_name" (top 9) []
  d_p_are_names : DefF Γ "are_names" (top 10) []
  d_p_is_key : DefF Γ "is_key" (top 11) []
  d_Table_init : IniF Γ "Table" (mth 12 0) [(.tup []), (.tup [])]
  d_Table_columns : PrpF Γ "Table" "columns" (mth 12 1)
  d_Table_is_row : MthF Γ "Table" "is_row" (mth 12 2) []
  d_Table_key_of : MthF Γ "Table" "key_of" (mth 12 3) []
  d_Table_clash : MthF Γ "Table" "clash" (mth 12 4) []
  d_Table_eq : MthF Γ "Table" "__eq__" (mth 12 5) []
  d_l_source : DefF Γ "_law_source" (top 14) []
  d_l_draw : DefF Γ "_law_draw" (top 15) []
  d_l_pick : DefF Γ "_law_pick" (top 16) []
  d_l_word : DefF Γ "_law_word" (top 17) []
  d_l_other : DefF Γ "_law_other" (top 18) []
  d_l_is_name : DefF Γ "_law_is_name" (top 19) []
  d_l_are_names : DefF Γ "_law_are_names" (top 20) []
  d_l_key_right : DefF Γ "_law_key_right" (top 21) []
  d_l_right : DefF Γ "_law_right" (top 22) []
  d_l_valid : DefF Γ "_law_valid" (top 23) []
  d_l_bent : DefF Γ "_law_bent" (top 24) []
  d_l_heard : DefF Γ "_law_heard" (top 25) []
  d_l_row : DefF Γ "_law_row" (top 26) []
  d_l_is_row : DefF Γ "_law_is_row" (top 27) []
  d_l_clash : DefF Γ "_law_clash" (top 28) []
  d_l_rows_right : DefF Γ "_law_rows_right" (top 29) []
  d_l_equal_right : DefF Γ "_law_equal_right" (top 30) []
  d_l_table_right : DefF Γ "_law_table_right" (top 31) []
  d_l_defaults_right : DefF Γ "_law_defaults_right" (top 32) []
  d_law : DefF Γ "law" (top 33) []
section
variable {Γ : PC}
theorem B_Table_init_0_key_numbers_names_name (T : Tx Γ) : MkB Γ "Table" ["self", "name", "names", "numbers", "key"] 0 ["key", "numbers", "names", "name"] (bdP [3, 2, 1, 0] [(.tup []), (.tup [])]) := mkB_df T.d_Table_init (fun _ _ _ _ _ _ _ _ _ us ws its h1 h2 h3 => match us, ws, its, h1, h2, h3 with | [], [b0, b1, b2, b3], [c0, c1], _, _, _ => ⟨[b3, b2, b1, b0], _, rfl, rfl, rfl, rfl⟩)
theorem B_Table_init_2 (T : Tx Γ) : MkB Γ "Table" ["self", "name", "names", "numbers", "key"] 2 [] (bdP [0, 1, 2, 3] [(.tup []), (.tup [])]) := mkB_df T.d_Table_init (fun _ _ _ _ _ _ _ _ _ us ws its h1 h2 h3 => match us, ws, its, h1, h2, h3 with | [a0, a1], [], [c0, c1], _, _, _ => ⟨[a0, a1, c0, c1], _, rfl, rfl, rfl, rfl⟩)
theorem B_Table_init_3 (T : Tx Γ) : MkB Γ "Table" ["self", "name", "names", "numbers", "key"] 3 [] (bdP [0, 1, 2, 4] [(.tup []), (.tup [])]) := mkB_df T.d_Table_init (fun _ _ _ _ _ _ _ _ _ us ws its h1 h2 h3 => match us, ws, its, h1, h2, h3 with | [a0, a1, a2], [], [c0, c1], _, _, _ => ⟨[a0, a1, a2, c1], _, rfl, rfl, rfl, rfl⟩)
theorem B_Table_init_4 (T : Tx Γ) : MkB Γ "Table" ["self", "name", "names", "numbers", "key"] 4 [] (bdP [0, 1, 2, 3] [(.tup []), (.tup [])]) := mkB_df T.d_Table_init (fun _ _ _ _ _ _ _ _ _ us ws its h1 h2 h3 => match us, ws, its, h1, h2, h3 with | [a0, a1, a2, a3], [], [c0, c1], _, _, _ => ⟨[a0, a1, a2, a3], _, rfl, rfl, rfl, rfl⟩)
theorem B_Table_clash_1_other_one (T : Tx Γ) : MtB Γ "Table" "clash" ["self", "one", "other"] 1 ["other", "one"] (bdP [0, 2, 1] []) := mtB_kw T.d_Table_clash (fun _ _ _ _ _ _ _ us ws h1 h2 => match us, ws, h1, h2 with | [a0], [b0, b1], _, _ => ⟨[a0, b1, b0], rfl, rfl, rfl⟩)
theorem B_Table_clash_3 (T : Tx Γ) : MtB Γ "Table" "clash" ["self", "one", "other"] 3 [] (bdId) := mtB_id T.d_Table_clash (fun _ _ _ _ _ _ _ us hl => match us, hl with | [_, _, _], _ => rfl)
theorem B_Table_is_row_1_thing (T : Tx Γ) : MtB Γ "Table" "is_row" ["self", "thing"] 1 ["thing"] (bdP [0, 1] []) := mtB_kw T.d_Table_is_row (fun _ _ _ _ _ _ _ us ws h1 h2 => match us, ws, h1, h2 with | [a0], [b0], _, _ => ⟨[a0, b0], rfl, rfl, rfl⟩)
theorem B_Table_is_row_2 (T : Tx Γ) : MtB Γ "Table" "is_row" ["self", "thing"] 2 [] (bdId) := mtB_id T.d_Table_is_row (fun _ _ _ _ _ _ _ us hl => match us, hl with | [_, _], _ => rfl)
theorem B_Table_key_of_2 (T : Tx Γ) : MtB Γ "Table" "key_of" ["self", "row"] 2 [] (bdId) := mtB_id T.d_Table_key_of (fun _ _ _ _ _ _ _ us hl => match us, hl with | [_, _], _ => rfl)
theorem B_l_are_names_1 (T : Tx Γ) : FnB Γ "_law_are_names" ["_law_it"] 1 [] (bdId) := fnB_id T.d_l_are_names (fun _ _ _ _ _ _ us hl => match us, hl with | [_], _ => rfl)
theorem B_l_bent_2 (T : Tx Γ) : FnB Γ "_law_bent" ["_law_source_here", "_law_it"] 2 [] (bdId) := fnB_id T.d_l_bent (fun _ _ _ _ _ _ us hl => match us, hl with | [_, _], _ => rfl)
theorem B_l_clash_3 (T : Tx Γ) : FnB Γ "_law_clash" ["_law_some", "_law_item", "_law_twin"] 3 [] (bdId) := fnB_id T.d_l_clash (fun _ _ _ _ _ _ us hl => match us, hl with | [_, _, _], _ => rfl)
theorem B_l_defaults_right_1 (T : Tx Γ) : FnB Γ "_law_defaults_right" ["_law_word_here"] 1 [] (bdId) := fnB_id T.d_l_defaults_right (fun _ _ _ _ _ _ us hl => match us, hl with | [_], _ => rfl)
theorem B_l_draw_2 (T : Tx Γ) : FnB Γ "_law_draw" ["_law_source_here", "_law_many"] 2 [] (bdId) := fnB_id T.d_l_draw (fun _ _ _ _ _ _ us hl => match us, hl with | [_, _], _ => rfl)
theorem B_l_equal_right_3 (T : Tx Γ) : FnB Γ "_law_equal_right" ["_law_source_here", "_law_table", "_law_some"] 3 [] (bdId) := fnB_id T.d_l_equal_right (fun _ _ _ _ _ _ us hl => match us, hl with | [_, _, _], _ => rfl)
theorem B_l_heard_2 (T : Tx Γ) : FnB Γ "_law_heard" ["_law_some", "_law_by_name"] 2 [] (bdId) := fnB_id T.d_l_heard (fun _ _ _ _ _ _ us hl => match us, hl with | [_, _], _ => rfl)
theorem B_l_is_name_1 (T : Tx Γ) : FnB Γ "_law_is_name" ["_law_it"] 1 [] (bdId) := fnB_id T.d_l_is_name (fun _ _ _ _ _ _ us hl => match us, hl with | [_], _ => rfl)
theorem B_l_is_row_2 (T : Tx Γ) : FnB Γ "_law_is_row" ["_law_some", "_law_it"] 2 [] (bdId) := fnB_id T.d_l_is_row (fun _ _ _ _ _ _ us hl => match us, hl with | [_, _], _ => rfl)
theorem B_l_key_right_2 (T : Tx Γ) : FnB Γ "_law_key_right" ["_law_picked", "_law_columns"] 2 [] (bdId) := fnB_id T.d_l_key_right (fun _ _ _ _ _ _ us hl => match us, hl with | [_, _], _ => rfl)
theorem B_l_other_1 (T : Tx Γ) : FnB Γ "_law_other" ["_law_source_here"] 1 [] (bdId) := fnB_id T.d_l_other (fun _ _ _ _ _ _ us hl => match us, hl with | [_], _ => rfl)
theorem B_l_pick_2 (T : Tx Γ) : FnB Γ "_law_pick" ["_law_source_here", "_law_items"] 2 [] (bdId) := fnB_id T.d_l_pick (fun _ _ _ _ _ _ us hl => match us, hl with | [_, _], _ => rfl)
theorem B_l_right_4 (T : Tx Γ) : FnB Γ "_law_right" ["_law_title", "_law_labels", "_law_figures", "_law_picked"] 4 [] (bdId) := fnB_id T.d_l_right (fun _ _ _ _ _ _ us hl => match us, hl with | [_, _, _, _], _ => rfl)
theorem B_l_row_3 (T : Tx Γ) : FnB Γ "_law_row" ["_law_source_here", "_law_some", "_law_far"] 3 [] (bdId) := fnB_id T.d_l_row (fun _ _ _ _ _ _ us hl => match us, hl with | [_, _, _], _ => rfl)
theorem B_l_rows_right_3 (T : Tx Γ) : FnB Γ "_law_rows_right" ["_law_source_here", "_law_table", "_law_some"] 3 [] (bdId) := fnB_id T.d_l_rows_right (fun _ _ _ _ _ _ us hl => match us, hl with | [_, _, _], _ => rfl)
theorem B_l_source_1 (T : Tx Γ) : FnB Γ "_law_source" ["_law_script"] 1 [] (bdId) := fnB_id T.d_l_source (fun _ _ _ _ _ _ us hl => match us, hl with | [_], _ => rfl)
theorem B_l_table_right_2 (T : Tx Γ) : FnB Γ "_law_table_right" ["_law_source_here", "_law_some"] 2 [] (bdId) := fnB_id T.d_l_table_right (fun _ _ _ _ _ _ us hl => match us, hl with | [_, _], _ => rfl)
theorem B_l_valid_1 (T : Tx Γ) : FnB Γ "_law_valid" ["_law_source_here"] 1 [] (bdId) := fnB_id T.d_l_valid (fun _ _ _ _ _ _ us hl => match us, hl with | [_], _ => rfl)
theorem B_l_word_1 (T : Tx Γ) : FnB Γ "_law_word" ["_law_source_here"] 1 [] (bdId) := fnB_id T.d_l_word (fun _ _ _ _ _ _ us hl => match us, hl with | [_], _ => rfl)
theorem B_p_are_names_1 (T : Tx Γ) : FnB Γ "are_names" ["thing"] 1 [] (bdId) := fnB_id T.d_p_are_names (fun _ _ _ _ _ _ us hl => match us, hl with | [_], _ => rfl)
theorem B_p_is_integer_1 (T : Tx Γ) : FnB Γ "is_integer" ["thing"] 1 [] (bdId) := fnB_id T.d_p_is_integer (fun _ _ _ _ _ _ us hl => match us, hl with | [_], _ => rfl)
theorem B_p_is_key_2 (T : Tx Γ) : FnB Γ "is_key" ["thing", "columns"] 2 [] (bdId) := fnB_id T.d_p_is_key (fun _ _ _ _ _ _ us hl => match us, hl with | [_, _], _ => rfl)
theorem B_p_is_name_0_thing (T : Tx Γ) : FnB Γ "is_name" ["thing"] 0 ["thing"] (bdP [0] []) := fnB_kw T.d_p_is_name (fun _ _ _ _ _ _ us ws h1 h2 => match us, ws, h1, h2 with | [], [b0], _, _ => ⟨[b0], rfl, rfl, rfl⟩)
theorem B_p_is_name_1 (T : Tx Γ) : FnB Γ "is_name" ["thing"] 1 [] (bdId) := fnB_id T.d_p_is_name (fun _ _ _ _ _ _ us hl => match us, hl with | [_], _ => rfl)
theorem S_p_is_integer : FnScope N_p_is_integer ["thing"] (defScope (top 4)) := ⟨rfl, rfl, rfl, by decide +kernel, rfl, by decide +kernel, by decide +kernel⟩
theorem W_p_is_integer (T : Tx Γ) (X : Cx) (B : Bs) (W : WX) (c : Fok Γ X W 0 N_p_is_integer (defScope (top 4)) (defScope (top 4))) : DSs X B W (defBody (top 4)) F_p_is_integer := s_one (s_ret (d_and (isi_ c.toBok T.isi isi_in T.b_isinstance (da_cons (v_ c.toBok 0) (da_cons (ty_ c.toBok T.b_int bt_int (by decide)) (da_nil)))) (d_one (d_not (isi_ c.toBok T.isi isi_in T.b_isinstance (da_cons (v_ c.toBok 0) (da_cons (ty_ c.toBok T.b_bool bt_bool (by decide)) (da_nil))))))))
theorem P_p_is_integer (T : Tx Γ) : FnP Γ 1 "is_integer" ["thing"] d_p_is_integer := fnP_of T.d_p_is_integer S_p_is_integer (by decide +kernel) (W_p_is_integer T)
theorem S_p_is_name : FnScope N_p_is_name ["thing"] (defScope (top 9)) := ⟨rfl, rfl, rfl, by decide +kernel, rfl, by decide +kernel, by decide +kernel⟩
theorem W_p_is_name (T : Tx Γ) (X : Cx) (B : Bs) (W : WX) (c : Fok Γ X W 0 N_p_is_name (defScope (top 9)) (defScope (top 9))) : DSs X B W (defBody (top 9)) F_p_is_name := s_cons (s_if (dt_bool (dw_or (dt_not (dt_val (isi_ c.toBok T.isi isi_in T.b_isinstance (da_cons (v_ c.toBok 0) (da_cons (ty_ c.toBok T.b_str bt_str (by decide)) (da_nil)))))) (dw_or1 (dt_not (dt_chain (o_le) (o_le) (d_int) (len_ c.toBok T.b_len (da_cons (v_ c.toBok 0) (da_nil))) (glob_ c.toBok T.c_MOST_LETTERS)))))) (s_one (s_ret (d_bl))) (s_nil)) (s_one (s_ret (all_ c.toCok T.b_all (da_cons (d_frz (lc_ c.toCok [("letter", 1)] (i_seq (v_ c.toBok 0)) (by decide +kernel) (fun X c => gn_ c.toBok 1) (fun X c => pts_yes) (fun X c => d_cmp (q_in c.toBok) (v_ c.toBok 1) (glob_ c.toBok T.c_LETTERS)))) (da_nil)))))
theorem P_p_is_name (T : Tx Γ) : FnP Γ 1 "is_name" ["thing"] d_p_is_name := fnP_of T.d_p_is_name S_p_is_name (by decide +kernel) (W_p_is_name T)
theorem S_p_are_names : FnScope N_p_are_names ["thing"] (defScope (top 10)) := ⟨rfl, rfl, rfl, by decide +kernel, rfl, by decide +kernel, by decide +kernel⟩
theorem W_p_are_names (T : Tx Γ) (X : Cx) (B : Bs) (W : WX) (c : Fok Γ X W 1 N_p_are_names (defScope (top 10)) (defScope (top 10))) : DSs X B W (defBody (top 10)) F_p_are_names := s_one (s_ret (d_and (isi_ c.toBok T.isi isi_in T.b_isinstance (da_cons (v_ c.toBok 0) (da_cons (ty_ c.toBok T.b_tuple bt_tuple (by decide)) (da_nil)))) (d_and (d_cmp (o_le) (len_ c.toBok T.b_len (da_cons (v_ c.toBok 0) (da_nil))) (glob_ c.toBok T.c_MOST_COLUMNS)) (d_one (all_ c.toCok T.b_all (da_cons (d_frz (lc_ c.toCok [("one", 1)] (i_seq (v_ c.toBok 0)) (by decide +kernel) (fun X c => gn_ c.toBok 1) (fun X c => pts_yes) (fun X c => callA' c (P_p_is_name T) (B_p_is_name_1 T) (da_cons (v_ c.toBok 1) (da_nil))))) (da_nil)))))))
theorem P_p_are_names (T : Tx Γ) : FnP Γ 2 "are_names" ["thing"] d_p_are_names := fnP_of T.d_p_are_names S_p_are_names (by decide +kernel) (W_p_are_names T)
theorem S_p_is_key : FnScope N_p_is_key ["thing", "columns"] (defScope (top 11)) := ⟨rfl, rfl, rfl, by decide +kernel, rfl, by decide +kernel, by decide +kernel⟩
theorem W_p_is_key (T : Tx Γ) (X : Cx) (B : Bs) (W : WX) (c : Fok Γ X W 1 N_p_is_key (defScope (top 11)) (defScope (top 11))) : DSs X B W (defBody (top 11)) F_p_is_key := s_cons (s_if (dt_bool (dw_or (dt_not (dt_val (isi_ c.toBok T.isi isi_in T.b_isinstance (da_cons (v_ c.toBok 0) (da_cons (ty_ c.toBok T.b_tuple bt_tuple (by decide)) (da_nil)))))) (dw_or1 (dt_not (dt_val (all_ c.toCok T.b_all (da_cons (d_frz (lc_ c.toCok [("one", 3)] (i_seq (v_ c.toBok 0)) (by decide +kernel) (fun X c => gn_ c.toBok 3) (fun X c => pts_yes) (fun X c => callA' c (P_p_is_name T) (B_p_is_name_1 T) (da_cons (v_ c.toBok 3) (da_nil))))) (da_nil)))))))) (s_one (s_ret (d_bl))) (s_nil)) (s_one (s_ret (d_cmp (q_eq c.toBok) (d_frz (list_ c.toBok T.b_list (da_cons (v_ c.toBok 0) (da_nil)))) (d_frz (lc_ c.toCok [("column", 2)] (i_seq (v_ c.toBok 1)) (by decide +kernel) (fun X c => gn_ c.toBok 2) (fun X c => pts_if (dt_cmp (q_in c.toBok) (v_ c.toBok 2) (v_ c.toBok 0))) (fun X c => v_ c.toBok 2))))))
theorem P_p_is_key (T : Tx Γ) : FnP Γ 2 "is_key" ["thing", "columns"] d_p_is_key := fnP_of T.d_p_is_key S_p_is_key (by decide +kernel) (W_p_is_key T)
theorem S_Table_init : FnScope N_Table_init ["self", "name", "names", "numbers", "key"] (defScope (mth 12 0)) := ⟨rfl, rfl, rfl, by decide +kernel, rfl, by decide +kernel, by decide +kernel⟩
theorem W_Table_init (T : Tx Γ) (X : Cx) (B : Bs) (W : WX) (c : Fok Γ X W 2 N_Table_init (defScope (mth 12 0)) (defScope (mth 12 0))) : DSs X B W (defBody (mth 12 0)) F_Table_init := s_cons (s_if (dt_bool (dw_or (dt_not (dt_val (callA' c.toCok (P_p_is_name T) (B_p_is_name_1 T) (da_cons (v_ c.toBok 1) (da_nil))))) (dw_or (dt_not (dt_val (callA' c.toCok (P_p_are_names T) (B_p_are_names_1 T) (da_cons (v_ c.toBok 2) (da_nil))))) (dw_or1 (dt_not (dt_val (callA' c.toCok (P_p_are_names T) (B_p_are_names_1 T) (da_cons (v_ c.toBok 3) (da_nil))))))))) (s_one (raise0' c.toCok T.x_InvalidTable)) (s_nil)) (s_cons (set_ c.toBok 5 (d_bin o_add (v_ c.toBok 2) (v_ c.toBok 3))) (s_cons (s_if (dt_bool (dw_or (dt_cmp (q_eq c.toBok) (v_ c.toBok 5) (d_tup (da_nil))) (dw_or (dt_cmp (o_lt) (lenSet_ c.toCok T.b_len T.b_set (v_ c.toBok 5)) (len_ c.toBok T.b_len (da_cons (v_ c.toBok 5) (da_nil)))) (dw_or1 (dt_not (dt_val (callA' c.toCok (P_p_is_key T) (B_p_is_key_2 T) (da_cons (v_ c.toBok 4) (da_cons (v_ c.toBok 5) (da_nil)))))))))) (s_one (raise0' c.toCok T.x_InvalidTable)) (s_nil)) (s_cons (slf_ c.toBok 0 T.f_name (v_ c.toBok 1)) (s_cons (slf_ c.toBok 0 T.f_names (v_ c.toBok 2)) (s_cons (slf_ c.toBok 0 T.f_numbers (v_ c.toBok 3)) (s_one (slf_ c.toBok 0 T.f_key (v_ c.toBok 4))))))))
theorem P_Table_init (T : Tx Γ) : MkP Γ 3 "Table" ["self", "name", "names", "numbers", "key"] d_Table_init := mkP_of T.d_Table_init S_Table_init (by decide +kernel) (by decide) (W_Table_init T)
theorem S_Table_columns : FnScope N_Table_columns ["self"] (defScope (mth 12 1)) := ⟨rfl, rfl, rfl, by decide +kernel, rfl, by decide +kernel, by decide +kernel⟩
theorem W_Table_columns (T : Tx Γ) (X : Cx) (B : Bs) (W : WX) (c : Fok Γ X W 0 N_Table_columns (defScope (mth 12 1)) (defScope (mth 12 1))) : DSs X B W (defBody (mth 12 1)) F_Table_columns := s_one (s_ret (d_bin o_add (fld_ c.toBok T.f_names (v_ c.toBok 0)) (fld_ c.toBok T.f_numbers (v_ c.toBok 0))))
theorem P_Table_columns (T : Tx Γ) : PrP Γ 1 "Table" "columns" ["self"] d_Table_columns := prP_of T.d_Table_columns S_Table_columns (by decide +kernel) (W_Table_columns T) (fun _ _ _ _ _ _ _ us hl => match us, hl with | [_], _ => rfl)
theorem S_Table_is_row : FnScope N_Table_is_row ["self", "thing"] (defScope (mth 12 2)) := ⟨rfl, rfl, rfl, by decide +kernel, rfl, by decide +kernel, by decide +kernel⟩
theorem W_Table_is_row (T : Tx Γ) (X : Cx) (B : Bs) (W : WX) (c : Fok Γ X W 1 N_Table_is_row (defScope (mth 12 2)) (defScope (mth 12 2))) : DSs X B W (defBody (mth 12 2)) F_Table_is_row := s_cons (set_ c.toBok 2 (len_ c.toBok T.b_len (da_cons (fld_ c.toBok T.f_names (v_ c.toBok 0)) (da_nil)))) (s_cons (s_if (dt_bool (dw_or (dt_not (dt_val (isi_ c.toBok T.isi isi_in T.b_isinstance (da_cons (v_ c.toBok 1) (da_cons (ty_ c.toBok T.b_tuple bt_tuple (by decide)) (da_nil)))))) (dw_or1 (dt_cmp (q_ne c.toBok) (len_ c.toBok T.b_len (da_cons (v_ c.toBok 1) (da_nil))) (d_bin o_add (v_ c.toBok 2) (len_ c.toBok T.b_len (da_cons (fld_ c.toBok T.f_numbers (v_ c.toBok 0)) (da_nil)))))))) (s_one (s_ret (d_bl))) (s_nil)) (s_one (s_ret (d_and (all_ c.toCok T.b_all (da_cons (d_frz (lc_ c.toCok [("one", 3)] (i_seq (d_sl (v_ c.toBok 1) (dp_none) (dp_some (v_ c.toBok 2)))) (by decide +kernel) (fun X c => gn_ c.toBok 3) (fun X c => pts_yes) (fun X c => callA' c (P_p_is_name T) (B_p_is_name_1 T) (da_cons (v_ c.toBok 3) (da_nil))))) (da_nil))) (d_one (all_ c.toCok T.b_all (da_cons (d_frz (lc_ c.toCok [("one", 3)] (i_seq (d_sl (v_ c.toBok 1) (dp_some (v_ c.toBok 2)) (dp_none))) (by decide +kernel) (fun X c => gn_ c.toBok 3) (fun X c => pts_yes) (fun X c => callA' c (P_p_is_integer T) (B_p_is_integer_1 T) (da_cons (v_ c.toBok 3) (da_nil))))) (da_nil))))))))
theorem P_Table_is_row (T : Tx Γ) : MtP Γ 2 "Table" "is_row" ["self", "thing"] d_Table_is_row := mtP_of T.d_Table_is_row S_Table_is_row (by decide +kernel) (W_Table_is_row T)
theorem S_Table_key_of : FnScope N_Table_key_of ["self", "row"] (defScope (mth 12 3)) := ⟨rfl, rfl, rfl, by decide +kernel, rfl, by decide +kernel, by decide +kernel⟩
theorem W_Table_key_of (T : Tx Γ) (X : Cx) (B : Bs) (W : WX) (c : Fok Γ X W 2 N_Table_key_of (defScope (mth 12 3)) (defScope (mth 12 3))) : DSs X B W (defBody (mth 12 3)) F_Table_key_of := s_one (s_ret (tuple_ c.toBok T.b_tuple (da_cons (d_frz (lc_ c.toCok [("column", 2), ("value", 3)] (zip_ c.toBok T.b_zip (da_cons (prop' c.toCok (P_Table_columns T) (v_ c.toBok 0)) (da_cons (v_ c.toBok 1) (da_nil)))) (by decide +kernel) (fun X c => gt_ c (gs_cons (gn_ c.toBok 2) (gs_cons (gn_ c.toBok 3) (gs_nil))) (tgCons_len (tgCons_len (tgNil_len)))) (fun X c => pts_if (dt_cmp (q_in c.toBok) (v_ c.toBok 2) (fld_ c.toBok T.f_key (v_ c.toBok 0)))) (fun X c => v_ c.toBok 3))) (da_nil))))
theorem P_Table_key_of (T : Tx Γ) : MtP Γ 3 "Table" "key_of" ["self", "row"] d_Table_key_of := mtP_of T.d_Table_key_of S_Table_key_of (by decide +kernel) (W_Table_key_of T)
theorem S_Table_clash : FnScope N_Table_clash ["self", "one", "other"] (defScope (mth 12 4)) := ⟨rfl, rfl, rfl, by decide +kernel, rfl, by decide +kernel, by decide +kernel⟩
theorem W_Table_clash (T : Tx Γ) (X : Cx) (B : Bs) (W : WX) (c : Fok Γ X W 3 N_Table_clash (defScope (mth 12 4)) (defScope (mth 12 4))) : DSs X B W (defBody (mth 12 4)) F_Table_clash := s_one (s_ret (d_and (d_cmp (q_ne c.toBok) (fld_ c.toBok T.f_key (v_ c.toBok 0)) (d_tup (da_nil))) (d_one (d_cmp (q_eq c.toBok) (methA' c.toCok (P_Table_key_of T) (B_Table_key_of_2 T) (v_ c.toBok 0) (da_cons (v_ c.toBok 1) (da_nil))) (methA' c.toCok (P_Table_key_of T) (B_Table_key_of_2 T) (v_ c.toBok 0) (da_cons (v_ c.toBok 2) (da_nil)))))))
theorem P_Table_clash (T : Tx Γ) : MtP Γ 4 "Table" "clash" ["self", "one", "other"] d_Table_clash := mtP_of T.d_Table_clash S_Table_clash (by decide +kernel) (W_Table_clash T)
theorem S_Table_eq : FnScope N_Table_eq ["self", "other"] (defScope (mth 12 5)) := ⟨rfl, rfl, rfl, by decide +kernel, rfl, by decide +kernel, by decide +kernel⟩
theorem W_Table_eq (T : Tx Γ) (X : Cx) (B : Bs) (W : WX) (c : Fok Γ X W 0 N_Table_eq (defScope (mth 12 5)) (defScope (mth 12 5))) : DSs X B W (defBody (mth 12 5)) F_Table_eq := s_cons (s_if (dt_bool (dw_or (dt_not (dt_val (isi_ c.toBok T.isi isi_in T.b_isinstance (da_cons (v_ c.toBok 1) (da_cons (glob_ c.toBok T.g_Table) (da_nil)))))) (dw_or1 (dt_cmp (q_ne c.toBok) (fld_ c.toBok T.f_name (v_ c.toBok 0)) (fld_ c.toBok T.f_name (v_ c.toBok 1)))))) (s_one (s_ret (d_bl))) (s_nil)) (s_one (s_ret (d_and (d_cmp (q_eq c.toBok) (fld_ c.toBok T.f_names (v_ c.toBok 0)) (fld_ c.toBok T.f_names (v_ c.toBok 1))) (d_and (d_cmp (q_eq c.toBok) (fld_ c.toBok T.f_numbers (v_ c.toBok 0)) (fld_ c.toBok T.f_numbers (v_ c.toBok 1))) (d_one (d_cmp (q_eq c.toBok) (fld_ c.toBok T.f_key (v_ c.toBok 0)) (fld_ c.toBok T.f_key (v_ c.toBok 1))))))))
theorem P_Table_eq (T : Tx Γ) : MtP Γ 1 "Table" "__eq__" ["self", "other"] d_Table_eq := mtP_of T.d_Table_eq S_Table_eq (by decide +kernel) (W_Table_eq T)
theorem Q_Table_eq (T : Tx Γ) : EqP Γ 1 "Table" d_Table_eq := eqP_of T.d_Table_eq T.q_Table_eq (fun _ _ _ _ _ _ _ us hl => match us, hl with | [_, _], _ => rfl) S_Table_eq (by decide +kernel) (W_Table_eq T)
theorem S_l_source : FnScope N_l_source ["_law_script"] (defScope (top 14)) := ⟨rfl, rfl, rfl, by decide +kernel, rfl, by decide +kernel, by decide +kernel⟩
theorem W_l_source (T : Tx Γ) (X : Cx) (B : Bs) (W : WX) (c : Fok Γ X W 0 N_l_source (defScope (top 14)) (defScope (top 14))) : DSs X B W (defBody (top 14)) F_l_source := s_cons (set_ c.toBok 1 (d_int)) (s_cons (for_ c.toCok (i_seq (d_sl (v_ c.toBok 0) (dp_none) (dp_some (d_int)))) (gn_ c.toBok 2) (s_one (set_ c.toBok 1 (d_bin o_mod (d_bin o_add (d_bin o_add (d_bin o_mul (v_ c.toBok 1) (d_int)) (d_bin o_mod (v_ c.toBok 2) (d_int))) (d_int)) (d_int))))) (s_one (s_ret (d_new (do_lst (da_cons (d_new (list_ c.toBok T.b_list (da_cons (d_sl (v_ c.toBok 0) (dp_none) (dp_some (d_int))) (da_nil)))) (da_cons (v_ c.toBok 1) (da_cons (d_int) (da_nil)))))))))
theorem P_l_source (T : Tx Γ) : FnP Γ 1 "_law_source" ["_law_script"] d_l_source := fnP_of T.d_l_source S_l_source (by decide +kernel) (W_l_source T)
theorem S_l_draw : FnScope N_l_draw ["_law_source_here", "_law_many"] (defScope (top 15)) := ⟨rfl, rfl, rfl, by decide +kernel, rfl, by decide +kernel, by decide +kernel⟩
theorem W_l_draw (T : Tx Γ) (X : Cx) (B : Bs) (W : WX) (c : Fok Γ X W 0 N_l_draw (defScope (top 15)) (defScope (top 15))) : DSs X B W (defBody (top 15)) F_l_draw := s_cons (s_setL (d_bin o_add (d_ix o_ix (v_ c.toBok 0) (d_int)) (d_int)) (v_ c.toBok 0) (d_int)) (s_cons (set_ c.toBok 2 (d_bin o_add (d_ix o_ix (v_ c.toBok 0) (d_int)) (d_bin o_mul (d_bin o_mul (d_int) (d_ix o_ix (v_ c.toBok 0) (d_int))) (d_ix o_ix (v_ c.toBok 0) (d_int))))) (s_cons (s_if (dt_cmp (q_ne c.toBok) (d_ix o_ix (v_ c.toBok 0) (d_int)) (d_frz (do_lst (da_nil)))) (s_cons (set_ c.toBok 3 (d_lm PySem.F.slot_list_pop PySem.F.type_list_pop lm_popAt (d_ix o_ix (v_ c.toBok 0) (d_int)) (da_cons (d_int) (da_nil)))) (s_cons (s_if (dt_cmp (o_ge) (v_ c.toBok 3) (d_bin o_pow (d_int) (d_int))) (s_cons (s_expr (d_lm PySem.F.slot_list_insert PySem.F.type_list_insert lm_insert (d_ix o_ix (v_ c.toBok 0) (d_int)) (da_cons (d_int) (da_cons (d_bin o_fdiv (v_ c.toBok 3) (v_ c.toBok 1)) (da_nil))))) (s_one (s_ret (d_bin o_mod (v_ c.toBok 3) (v_ c.toBok 1))))) (s_nil)) (s_one (set_ c.toBok 2 (d_bin o_add (v_ c.toBok 2) (v_ c.toBok 3)))))) (s_nil)) (s_cons (set_ c.toBok 2 (d_bin o_mod (d_bin o_mul (d_bin o_mod (v_ c.toBok 2) (d_int)) (d_int)) (d_int))) (s_cons (set_ c.toBok 2 (d_bin o_mod (d_bin o_add (d_bin o_add (d_bin o_mul (v_ c.toBok 2) (v_ c.toBok 2)) (d_bin o_mul (d_int) (v_ c.toBok 2))) (d_int)) (d_int))) (s_one (s_ret (d_bin o_mod (d_bin o_fdiv (d_bin o_mod (d_bin o_mul (v_ c.toBok 2) (d_int)) (d_int)) (d_int)) (v_ c.toBok 1))))))))
theorem P_l_draw (T : Tx Γ) : FnP Γ 1 "_law_draw" ["_law_source_here", "_law_many"] d_l_draw := fnP_of T.d_l_draw S_l_draw (by decide +kernel) (W_l_draw T)
theorem S_l_pick : FnScope N_l_pick ["_law_source_here", "_law_items"] (defScope (top 16)) := ⟨rfl, rfl, rfl, by decide +kernel, rfl, by decide +kernel, by decide +kernel⟩
theorem W_l_pick (T : Tx Γ) (X : Cx) (B : Bs) (W : WX) (c : Fok Γ X W 1 N_l_pick (defScope (top 16)) (defScope (top 16))) : DSs X B W (defBody (top 16)) F_l_pick := s_one (s_ret (d_ix o_ix (v_ c.toBok 1) (callA' c.toCok (P_l_draw T) (B_l_draw_2 T) (da_cons (v_ c.toBok 0) (da_cons (len_ c.toBok T.b_len (da_cons (v_ c.toBok 1) (da_nil))) (da_nil))))))
theorem P_l_pick (T : Tx Γ) : FnP Γ 2 "_law_pick" ["_law_source_here", "_law_items"] d_l_pick := fnP_of T.d_l_pick S_l_pick (by decide +kernel) (W_l_pick T)
theorem S_l_word : FnScope N_l_word ["_law_source_here"] (defScope (top 17)) := ⟨rfl, rfl, rfl, by decide +kernel, rfl, by decide +kernel, by decide +kernel⟩
theorem W_l_word (T : Tx Γ) (X : Cx) (B : Bs) (W : WX) (c : Fok Γ X W 2 N_l_word (defScope (top 17)) (defScope (top 17))) : DSs X B W (defBody (top 17)) F_l_word := s_cons (set_ c.toBok 1 (d_str)) (s_cons (set_ c.toBok 2 (d_frz (do_lst (da_cons (d_str) (da_cons (d_str) (da_cons (d_str) (da_cons (d_str) (da_cons (d_str) (da_cons (d_str) (da_cons (d_str) (da_cons (d_str) (da_cons (d_str) (da_cons (d_str) (da_cons (d_str) (da_cons (d_str) (da_cons (d_str) (da_cons (d_str) (da_nil)))))))))))))))))) (s_cons (set_ c.toBok 3 (callA' c.toCok (P_l_draw T) (B_l_draw_2 T) (da_cons (v_ c.toBok 0) (da_cons (d_int) (da_nil))))) (s_cons (s_if (dt_cmp (o_lt) (v_ c.toBok 3) (d_int)) (s_one (s_ret (d_ix o_ix (v_ c.toBok 2) (v_ c.toBok 3)))) (s_nil)) (s_one (s_ret (d_sm PySem.F.slot_str_join PySem.F.type_str_join sm_join (d_str) (da_cons (d_frz (lc_ c.toCok [("_law_k", 4)] (range1_ c.toBok T.b_range (da_cons (d_bin o_add (d_int) (callA' c.toCok (P_l_draw T) (B_l_draw_2 T) (da_cons (v_ c.toBok 0) (da_cons (d_int) (da_nil))))) (da_nil))) (by decide +kernel) (fun X c => gn_ c.toBok 4) (fun X c => pts_yes) (fun X c => callA' c (P_l_pick T) (B_l_pick_2 T) (da_cons (v_ c.toBok 0) (da_cons (v_ c.toBok 1) (da_nil)))))) (da_nil))))))))
theorem P_l_word (T : Tx Γ) : FnP Γ 3 "_law_word" ["_law_source_here"] d_l_word := fnP_of T.d_l_word S_l_word (by decide +kernel) (W_l_word T)
theorem S_l_other : FnScope N_l_other ["_law_source_here"] (defScope (top 18)) := ⟨rfl, rfl, rfl, by decide +kernel, rfl, by decide +kernel, by decide +kernel⟩
theorem W_l_other (T : Tx Γ) (X : Cx) (B : Bs) (W : WX) (c : Fok Γ X W 2 N_l_other (defScope (top 18)) (defScope (top 18))) : DSs X B W (defBody (top 18)) F_l_other := s_cons (set_ c.toBok 1 (d_bin o_add (d_bin o_pow (d_int) (d_int)) (callA' c.toCok (P_l_draw T) (B_l_draw_2 T) (da_cons (v_ c.toBok 0) (da_cons (d_int) (da_nil)))))) (s_cons (set_ c.toBok 2 (d_frz (do_lst (da_cons (d_non) (da_cons (d_bl) (da_cons (d_bl) (da_cons (d_int) (da_cons (d_int) (da_cons (v_ c.toBok 1) (da_cons (d_str) (da_cons (d_str) (da_cons (d_str) (da_cons (d_str) (da_cons (d_str) (da_cons (d_str) (da_cons (d_str) (da_cons (d_str) (da_cons (d_str) (da_cons (d_str) (da_cons (d_str) (da_nil))))))))))))))))))))) (s_one (s_ret (callA' c.toCok (P_l_pick T) (B_l_pick_2 T) (da_cons (v_ c.toBok 0) (da_cons (d_bin o_add (v_ c.toBok 2) (d_frz (do_lst (da_cons (d_tup (da_nil)) (da_cons (d_frz (do_lst (da_nil))) (da_cons (d_dict0) (da_cons (d_tup (da_cons (d_str) (da_nil))) (da_cons (d_frz (do_lst (da_cons (d_str) (da_nil)))) (da_cons (d_tup (da_cons (d_str) (da_cons (d_str) (da_cons (d_str) (da_nil))))) (da_cons (d_tup (da_cons (d_tup (da_nil)) (da_nil))) (da_cons (d_bin o_mul (d_str) (d_int)) (da_nil)))))))))))) (da_nil)))))))
theorem P_l_other (T : Tx Γ) : FnP Γ 3 "_law_other" ["_law_source_here"] d_l_other := fnP_of T.d_l_other S_l_other (by decide +kernel) (W_l_other T)
theorem S_l_is_name : FnScope N_l_is_name ["_law_it"] (defScope (top 19)) := ⟨rfl, rfl, rfl, by decide +kernel, rfl, by decide +kernel, by decide +kernel⟩
theorem W_l_is_name (T : Tx Γ) (X : Cx) (B : Bs) (W : WX) (c : Fok Γ X W 0 N_l_is_name (defScope (top 19)) (defScope (top 19))) : DSs X B W (defBody (top 19)) F_l_is_name := s_cons (s_if (dt_bool (dw_or (dt_not (dt_val (isi_ c.toBok T.isi isi_in T.b_isinstance (da_cons (v_ c.toBok 0) (da_cons (ty_ c.toBok T.b_str bt_str (by decide)) (da_nil)))))) (dw_or1 (dt_not (dt_chain (o_le) (o_le) (d_int) (len_ c.toBok T.b_len (da_cons (v_ c.toBok 0) (da_nil))) (d_int)))))) (s_one (s_ret (d_bl))) (s_nil)) (s_one (s_ret (d_cmp (q_eq c.toBok) (d_frz (lc_ c.toCok [("_law_letter", 1)] (i_seq (v_ c.toBok 0)) (by decide +kernel) (fun X c => gn_ c.toBok 1) (fun X c => pts_if (dt_not (dt_chain (o_le) (o_le) (d_str) (v_ c.toBok 1) (d_str)))) (fun X c => v_ c.toBok 1))) (d_frz (do_lst (da_nil))))))
theorem P_l_is_name (T : Tx Γ) : FnP Γ 1 "_law_is_name" ["_law_it"] d_l_is_name := fnP_of T.d_l_is_name S_l_is_name (by decide +kernel) (W_l_is_name T)
theorem S_l_are_names : FnScope N_l_are_names ["_law_it"] (defScope (top 20)) := ⟨rfl, rfl, rfl, by decide +kernel, rfl, by decide +kernel, by decide +kernel⟩
theorem W_l_are_names (T : Tx Γ) (X : Cx) (B : Bs) (W : WX) (c : Fok Γ X W 1 N_l_are_names (defScope (top 20)) (defScope (top 20))) : DSs X B W (defBody (top 20)) F_l_are_names := s_one (s_ret (d_and (isi_ c.toBok T.isi isi_in T.b_isinstance (da_cons (v_ c.toBok 0) (da_cons (ty_ c.toBok T.b_tuple bt_tuple (by decide)) (da_nil)))) (d_and (d_cmp (o_lt) (len_ c.toBok T.b_len (da_cons (v_ c.toBok 0) (da_nil))) (d_int)) (d_one (d_cmp (q_eq c.toBok) (d_frz (lc_ c.toCok [("_law_item", 1)] (i_seq (v_ c.toBok 0)) (by decide +kernel) (fun X c => gn_ c.toBok 1) (fun X c => pts_if (dt_not (dt_val (callA' c (P_l_is_name T) (B_l_is_name_1 T) (da_cons (v_ c.toBok 1) (da_nil)))))) (fun X c => v_ c.toBok 1))) (d_frz (do_lst (da_nil))))))))
theorem P_l_are_names (T : Tx Γ) : FnP Γ 2 "_law_are_names" ["_law_it"] d_l_are_names := fnP_of T.d_l_are_names S_l_are_names (by decide +kernel) (W_l_are_names T)
theorem S_l_key_right : FnScope N_l_key_right ["_law_picked", "_law_columns"] (defScope (top 21)) := ⟨rfl, rfl, rfl, by decide +kernel, rfl, by decide +kernel, by decide +kernel⟩
theorem W_l_key_right (T : Tx Γ) (X : Cx) (B : Bs) (W : WX) (c : Fok Γ X W 0 N_l_key_right (defScope (top 21)) (defScope (top 21))) : DSs X B W (defBody (top 21)) F_l_key_right := s_cons (s_if (dt_not (dt_val (isi_ c.toBok T.isi isi_in T.b_isinstance (da_cons (v_ c.toBok 0) (da_cons (ty_ c.toBok T.b_tuple bt_tuple (by decide)) (da_nil)))))) (s_one (s_ret (d_bl))) (s_nil)) (s_cons (set_ c.toBok 2 (d_un o_neg (d_int))) (s_cons (for_ c.toCok (i_seq (v_ c.toBok 0)) (gn_ c.toBok 3) (s_cons (s_if (dt_bool (dw_or (dt_not (dt_val (isi_ c.toBok T.isi isi_in T.b_isinstance (da_cons (v_ c.toBok 3) (da_cons (ty_ c.toBok T.b_str bt_str (by decide)) (da_nil)))))) (dw_or (dt_cmp (q_notIn c.toBok) (v_ c.toBok 3) (v_ c.toBok 1)) (dw_or1 (dt_cmp (o_le) (idx_ c.toBok (v_ c.toBok 1) (v_ c.toBok 3)) (v_ c.toBok 2)))))) (s_one (s_ret (d_bl))) (s_nil)) (s_one (set_ c.toBok 2 (idx_ c.toBok (v_ c.toBok 1) (v_ c.toBok 3)))))) (s_one (s_ret (d_bl)))))
theorem P_l_key_right (T : Tx Γ) : FnP Γ 1 "_law_key_right" ["_law_picked", "_law_columns"] d_l_key_right := fnP_of T.d_l_key_right S_l_key_right (by decide +kernel) (W_l_key_right T)
theorem S_l_right : FnScope N_l_right ["_law_title", "_law_labels", "_law_figures", "_law_picked"] (defScope (top 22)) := ⟨rfl, rfl, rfl, by decide +kernel, rfl, by decide +kernel, by decide +kernel⟩
theorem W_l_right (T : Tx Γ) (X : Cx) (B : Bs) (W : WX) (c : Fok Γ X W 2 N_l_right (defScope (top 22)) (defScope (top 22))) : DSs X B W (defBody (top 22)) F_l_right := s_cons (s_if (dt_bool (dw_or (dt_not (dt_val (callA' c.toCok (P_l_is_name T) (B_l_is_name_1 T) (da_cons (v_ c.toBok 0) (da_nil))))) (dw_or (dt_not (dt_val (callA' c.toCok (P_l_are_names T) (B_l_are_names_1 T) (da_cons (v_ c.toBok 1) (da_nil))))) (dw_or1 (dt_not (dt_val (callA' c.toCok (P_l_are_names T) (B_l_are_names_1 T) (da_cons (v_ c.toBok 2) (da_nil))))))))) (s_one (s_ret (d_bl))) (s_nil)) (s_cons (set_ c.toBok 4 (d_bin o_add (v_ c.toBok 1) (v_ c.toBok 2))) (s_cons (s_if (dt_bool (dw_or (dt_cmp (q_eq c.toBok) (v_ c.toBok 4) (d_tup (da_nil))) (dw_or1 (dt_cmp (q_ne c.toBok) (lenSet_ c.toCok T.b_len T.b_set (v_ c.toBok 4)) (len_ c.toBok T.b_len (da_cons (v_ c.toBok 4) (da_nil))))))) (s_one (s_ret (d_bl))) (s_nil)) (s_one (s_ret (callA' c.toCok (P_l_key_right T) (B_l_key_right_2 T) (da_cons (v_ c.toBok 3) (da_cons (v_ c.toBok 4) (da_nil))))))))
theorem P_l_right (T : Tx Γ) : FnP Γ 3 "_law_right" ["_law_title", "_law_labels", "_law_figures", "_law_picked"] d_l_right := fnP_of T.d_l_right S_l_right (by decide +kernel) (W_l_right T)
theorem S_l_valid : FnScope N_l_valid ["_law_source_here"] (defScope (top 23)) := ⟨rfl, rfl, rfl, by decide +kernel, rfl, by decide +kernel, by decide +kernel⟩
theorem W_l_valid (T : Tx Γ) (X : Cx) (B : Bs) (W : WX) (c : Fok Γ X W 3 N_l_valid (defScope (top 23)) (defScope (top 23))) : DSs X B W (defBody (top 23)) F_l_valid := s_cons (set_ c.toBok 1 (d_bin o_add (d_int) (callA' c.toCok (P_l_draw T) (B_l_draw_2 T) (da_cons (v_ c.toBok 0) (da_cons (d_int) (da_nil)))))) (s_cons (own_ c.toBok 2 (do_lst (da_nil))) (s_cons (for_ c.toCok (range1_ c.toBok T.b_range (da_cons (v_ c.toBok 1) (da_nil))) (gn_ c.toBok 3) (s_cons (set_ c.toBok 4 (d_frz (do_lst (da_cons (callA' c.toCok (P_l_word T) (B_l_word_1 T) (da_cons (v_ c.toBok 0) (da_nil))) (da_cons (d_str) (da_cons (d_str) (da_cons (d_str) (da_cons (d_str) (da_nil))))))))) (s_one (mut_ c.toBok 2 PySem.F.slot_list_append PySem.F.type_list_append lm_append (da_cons (d_ix o_ix (d_frz (lc_ c.toCok [("_law_word_here", 8)] (i_seq (v_ c.toBok 4)) (by decide +kernel) (fun X c => gn_ c.toBok 8) (fun X c => pts_if (cmpOrT_ c.toBok 2 (c_notIn c.toBok.un) (v_ c.toBok 8))) (fun X c => v_ c.toBok 8))) (d_int)) (da_nil)))))) (s_cons (set_ c.toBok 5 (max2_ c.toCok T.b_max (da_cons (d_bin o_sub (v_ c.toBok 1) (d_int)) (da_cons (min2_ c.toCok T.b_min (da_cons (d_int) (da_cons (callA' c.toCok (P_l_draw T) (B_l_draw_2 T) (da_cons (v_ c.toBok 0) (da_cons (d_bin o_add (v_ c.toBok 1) (d_int)) (da_nil)))) (da_nil)))) (da_nil))))) (s_frz 2 (s_cons (setLc_ c.toCok 6 [("_law_column", 7)] (i_seq (v_ c.toBok 2)) (by decide +kernel) (fun X c => gn_ c.toBok 7) (fun X c => pts_if (dt_cmp (q_eq c.toBok) (callA' c (P_l_draw T) (B_l_draw_2 T) (da_cons (v_ c.toBok 0) (da_cons (d_int) (da_nil)))) (d_int))) (fun X c => v_ c.toBok 7)) (s_one (s_retO (do_lst (da_cons (callA' c.toCok (P_l_word T) (B_l_word_1 T) (da_cons (v_ c.toBok 0) (da_nil))) (da_cons (tuple_ c.toBok T.b_tuple (da_cons (d_sl (v_ c.toBok 2) (dp_none) (dp_some (v_ c.toBok 5))) (da_nil))) (da_cons (tuple_ c.toBok T.b_tuple (da_cons (d_sl (v_ c.toBok 2) (dp_some (v_ c.toBok 5)) (dp_none)) (da_nil))) (da_cons (tuple_ c.toBok T.b_tuple (da_cons (v_ c.toBok 6) (da_nil))) (da_nil)))))))))))))
theorem P_l_valid (T : Tx Γ) : FnPO Γ 4 "_law_valid" ["_law_source_here"] d_l_valid := fnPO_of T.d_l_valid S_l_valid (by decide +kernel) (W_l_valid T)
theorem S_l_bent : FnScope N_l_bent ["_law_source_here", "_law_it"] (defScope (top 24)) := ⟨rfl, rfl, rfl, by decide +kernel, rfl, by decide +kernel, by decide +kernel⟩
theorem W_l_bent (T : Tx Γ) (X : Cx) (B : Bs) (W : WX) (c : Fok Γ X W 3 N_l_bent (defScope (top 24)) (defScope (top 24))) : DSs X B W (defBody (top 24)) F_l_bent := s_cons (set_ c.toBok 2 (callA' c.toCok (P_l_draw T) (B_l_draw_2 T) (da_cons (v_ c.toBok 0) (da_cons (d_int) (da_nil))))) (s_cons (s_if (dt_bool (dw_or (dt_cmp (q_eq c.toBok) (v_ c.toBok 2) (d_int)) (dw_or1 (dt_not (dt_val (isi_ c.toBok T.isi isi_in T.b_isinstance (da_cons (v_ c.toBok 1) (da_cons (ty_ c.toBok T.b_tuple bt_tuple (by decide)) (da_nil))))))))) (s_one (s_ret (callA' c.toCok (P_l_other T) (B_l_other_1 T) (da_cons (v_ c.toBok 0) (da_nil))))) (s_nil)) (s_cons (set_ c.toBok 3 (callA' c.toCok (P_l_draw T) (B_l_draw_2 T) (da_cons (v_ c.toBok 0) (da_cons (d_bin o_add (len_ c.toBok T.b_len (da_cons (v_ c.toBok 1) (da_nil))) (d_int)) (da_nil))))) (s_cons (set_ c.toBok 4 (callA' c.toCok (P_l_word T) (B_l_word_1 T) (da_cons (v_ c.toBok 0) (da_nil)))) (s_cons (set_ c.toBok 5 (d_frz (do_lst (da_cons (d_bin o_add (d_bin o_add (d_sl (v_ c.toBok 1) (dp_none) (dp_some (v_ c.toBok 3))) (d_tup (da_cons (callA' c.toCok (P_l_other T) (B_l_other_1 T) (da_cons (v_ c.toBok 0) (da_nil))) (da_nil)))) (d_sl (v_ c.toBok 1) (dp_some (d_bin o_add (v_ c.toBok 3) (d_int))) (dp_none))) (da_cons (d_bin o_add (v_ c.toBok 1) (d_tup (da_cons (v_ c.toBok 4) (da_nil)))) (da_cons (d_revT (v_ c.toBok 1)) (da_cons (d_frz (list_ c.toBok T.b_list (da_cons (v_ c.toBok 1) (da_nil)))) (da_cons (d_bin o_add (v_ c.toBok 1) (d_sl (v_ c.toBok 1) (dp_none) (dp_some (d_int)))) (da_cons (d_sl (v_ c.toBok 1) (dp_some (d_int)) (dp_none)) (da_nil)))))))))) (s_one (s_ret (d_ix o_ix (v_ c.toBok 5) (d_bin o_sub (v_ c.toBok 2) (d_int)))))))))
theorem P_l_bent (T : Tx Γ) : FnP Γ 4 "_law_bent" ["_law_source_here", "_law_it"] d_l_bent := fnP_of T.d_l_bent S_l_bent (by decide +kernel) (W_l_bent T)
theorem S_l_heard : FnScope N_l_heard ["_law_some", "_law_by_name"] (defScope (top 25)) := ⟨rfl, rfl, rfl, by decide +kernel, rfl, by decide +kernel, by decide +kernel⟩
theorem W_l_heard (T : Tx Γ) (X : Cx) (B : Bs) (W : WX) (c : Fok Γ X W 4 N_l_heard (defScope (top 25)) (defScope (top 25))) : DSs X B W (defBody (top 25)) F_l_heard := s_cons (set_ c.toBok 2 (d_non)) (s_cons (try_ c T.sub (fun X W c => s_one (s_if (dt_val (v_ c.toBok 1)) (s_one (set_ c.toBok 2 (d_mk (mkK' c (P_Table_init T) (B_Table_init_0_key_numbers_names_name T) (dk_cons (d_ix o_ix (v_ c.toBok 0) (d_int)) (dk_cons (d_ix o_ix (v_ c.toBok 0) (d_int)) (dk_cons (d_ix o_ix (v_ c.toBok 0) (d_int)) (dk_cons (d_ix o_ix (v_ c.toBok 0) (d_int)) (dk_nil))))))))) (s_one (set_ c.toBok 2 (d_mk (mkA' c (P_Table_init T) (B_Table_init_4 T) (da_cons (d_ix o_ix (v_ c.toBok 0) (d_int)) (da_cons (d_ix o_ix (v_ c.toBok 0) (d_int)) (da_cons (d_ix o_ix (v_ c.toBok 0) (d_int)) (da_cons (d_ix o_ix (v_ c.toBok 0) (d_int)) (da_nil))))))))))) (.as (by rfl) (by rfl) (by rfl) (by rfl) (fun X c => s_one (set_ c 2 (d_if (dt_bool (dw_and (dt_val (xis_ c 3 T.xt (glob_ c T.g_TurnError) T.b_isinstance)) (dw_and1 (dt_val (xis_ c 3 T.xt (ty_ c T.b_ValueError bt_ValueError (by decide)) T.b_isinstance))))) (d_non) (d_str)))) (.nil))) (s_one (s_ret (v_ c.toBok 2))))
theorem P_l_heard (T : Tx Γ) : FnP Γ 5 "_law_heard" ["_law_some", "_law_by_name"] d_l_heard := fnP_of T.d_l_heard S_l_heard (by decide +kernel) (W_l_heard T)
theorem S_l_row : FnScope N_l_row ["_law_source_here", "_law_some", "_law_far"] (defScope (top 26)) := ⟨rfl, rfl, rfl, by decide +kernel, rfl, by decide +kernel, by decide +kernel⟩
theorem W_l_row (T : Tx Γ) (X : Cx) (B : Bs) (W : WX) (c : Fok Γ X W 2 N_l_row (defScope (top 26)) (defScope (top 26))) : DSs X B W (defBody (top 26)) F_l_row := s_cons (setLc_ c.toCok 3 [("_law_column", 4)] (i_seq (d_ix o_ix (v_ c.toBok 1) (d_int))) (by decide +kernel) (fun X c => gn_ c.toBok 4) (fun X c => pts_yes) (fun X c => callA' c (P_l_pick T) (B_l_pick_2 T) (da_cons (v_ c.toBok 0) (da_cons (d_frz (do_lst (da_cons (d_str) (da_cons (d_str) (da_cons (d_str) (da_cons (d_str) (da_nil))))))) (da_nil))))) (s_one (s_ret (tuple_ c.toBok T.b_tuple (da_cons (d_bin o_add (v_ c.toBok 3) (d_frz (lc_ c.toCok [("_law_column", 4)] (i_seq (d_ix o_ix (v_ c.toBok 1) (d_int))) (by decide +kernel) (fun X c => gn_ c.toBok 4) (fun X c => pts_yes) (fun X c => callA' c (P_l_pick T) (B_l_pick_2 T) (da_cons (v_ c.toBok 0) (da_cons (d_frz (do_lst (da_cons (d_int) (da_cons (d_int) (da_cons (d_un o_neg (d_int)) (da_cons (d_int) (da_cons (v_ c.toBok 2) (da_cons (d_bin o_sub (d_int) (v_ c.toBok 2)) (da_nil))))))))) (da_nil))))))) (da_nil)))))
theorem P_l_row (T : Tx Γ) : FnP Γ 3 "_law_row" ["_law_source_here", "_law_some", "_law_far"] d_l_row := fnP_of T.d_l_row S_l_row (by decide +kernel) (W_l_row T)
theorem S_l_is_row : FnScope N_l_is_row ["_law_some", "_law_it"] (defScope (top 27)) := ⟨rfl, rfl, rfl, by decide +kernel, rfl, by decide +kernel, by decide +kernel⟩
theorem W_l_is_row (T : Tx Γ) (X : Cx) (B : Bs) (W : WX) (c : Fok Γ X W 1 N_l_is_row (defScope (top 27)) (defScope (top 27))) : DSs X B W (defBody (top 27)) F_l_is_row := s_cons (s_if (dt_bool (dw_or (dt_not (dt_val (isi_ c.toBok T.isi isi_in T.b_isinstance (da_cons (v_ c.toBok 1) (da_cons (ty_ c.toBok T.b_tuple bt_tuple (by decide)) (da_nil)))))) (dw_or1 (dt_cmp (q_ne c.toBok) (len_ c.toBok T.b_len (da_cons (v_ c.toBok 1) (da_nil))) (d_bin o_add (len_ c.toBok T.b_len (da_cons (d_ix o_ix (v_ c.toBok 0) (d_int)) (da_nil))) (len_ c.toBok T.b_len (da_cons (d_ix o_ix (v_ c.toBok 0) (d_int)) (da_nil)))))))) (s_one (s_ret (d_bl))) (s_nil)) (s_cons (for_ c.toCok (enum_ c.toBok T.b_enumerate (da_cons (v_ c.toBok 1) (da_nil))) (gt_ c.toCok (gs_cons (gn_ c.toBok 2) (gs_cons (gn_ c.toBok 3) (gs_nil))) (tgCons_len (tgCons_len (tgNil_len)))) (s_cons (s_if (dt_bool (dw_and (dt_cmp (o_lt) (v_ c.toBok 2) (len_ c.toBok T.b_len (da_cons (d_ix o_ix (v_ c.toBok 0) (d_int)) (da_nil)))) (dw_and1 (dt_not (dt_val (callA' c.toCok (P_l_is_name T) (B_l_is_name_1 T) (da_cons (v_ c.toBok 3) (da_nil)))))))) (s_one (s_ret (d_bl))) (s_nil)) (s_one (s_if (dt_bool (dw_and (dt_cmp (o_ge) (v_ c.toBok 2) (len_ c.toBok T.b_len (da_cons (d_ix o_ix (v_ c.toBok 0) (d_int)) (da_nil)))) (dw_and1 (dt_bool (dw_or (dt_val (isi_ c.toBok T.isi isi_in T.b_isinstance (da_cons (v_ c.toBok 3) (da_cons (ty_ c.toBok T.b_bool bt_bool (by decide)) (da_nil))))) (dw_or1 (dt_not (dt_val (isi_ c.toBok T.isi isi_in T.b_isinstance (da_cons (v_ c.toBok 3) (da_cons (ty_ c.toBok T.b_int bt_int (by decide)) (da_nil)))))))))))) (s_one (s_ret (d_bl))) (s_nil))))) (s_one (s_ret (d_bl))))
theorem P_l_is_row (T : Tx Γ) : FnP Γ 2 "_law_is_row" ["_law_some", "_law_it"] d_l_is_row := fnP_of T.d_l_is_row S_l_is_row (by decide +kernel) (W_l_is_row T)
theorem S_l_clash : FnScope N_l_clash ["_law_some", "_law_item", "_law_twin"] (defScope (top 28)) := ⟨rfl, rfl, rfl, by decide +kernel, rfl, by decide +kernel, by decide +kernel⟩
theorem W_l_clash (T : Tx Γ) (X : Cx) (B : Bs) (W : WX) (c : Fok Γ X W 0 N_l_clash (defScope (top 28)) (defScope (top 28))) : DSs X B W (defBody (top 28)) F_l_clash := s_cons (set_ c.toBok 3 (d_bin o_add (d_ix o_ix (v_ c.toBok 0) (d_int)) (d_ix o_ix (v_ c.toBok 0) (d_int)))) (s_cons (setLc_ c.toCok 4 [("_law_column", 5)] (i_seq (d_ix o_ix (v_ c.toBok 0) (d_int))) (by decide +kernel) (fun X c => gn_ c.toBok 5) (fun X c => pts_if (dt_cmp (q_ne c.toBok) (d_ix o_ix (v_ c.toBok 1) (idx_ c.toBok (v_ c.toBok 3) (v_ c.toBok 5))) (d_ix o_ix (v_ c.toBok 2) (idx_ c.toBok (v_ c.toBok 3) (v_ c.toBok 5))))) (fun X c => v_ c.toBok 5)) (s_one (s_ret (d_and (d_cmp (q_ne c.toBok) (d_ix o_ix (v_ c.toBok 0) (d_int)) (d_tup (da_nil))) (d_one (d_cmp (q_eq c.toBok) (v_ c.toBok 4) (d_frz (do_lst (da_nil)))))))))
theorem P_l_clash (T : Tx Γ) : FnP Γ 1 "_law_clash" ["_law_some", "_law_item", "_law_twin"] d_l_clash := fnP_of T.d_l_clash S_l_clash (by decide +kernel) (W_l_clash T)
theorem S_l_rows_right : FnScope N_l_rows_right ["_law_source_here", "_law_table", "_law_some"] (defScope (top 29)) := ⟨rfl, rfl, rfl, by decide +kernel, rfl, by decide +kernel, by decide +kernel⟩
theorem W_l_rows_right (T : Tx Γ) (X : Cx) (B : Bs) (W : WX) (c : Fok Γ X W 4 N_l_rows_right (defScope (top 29)) (defScope (top 29))) : DSs X B W (defBody (top 29)) F_l_rows_right := s_cons (setLc_ c.toCok 3 [("_law_k", 13)] (range1_ c.toBok T.b_range (da_cons (d_int) (da_nil))) (by decide +kernel) (fun X c => gn_ c.toBok 13) (fun X c => pts_yes) (fun X c => callA' c (P_l_row T) (B_l_row_3 T) (da_cons (v_ c.toBok 0) (da_cons (v_ c.toBok 2) (da_cons (d_bin o_sub (d_bin o_pow (d_int) (d_int)) (d_int)) (da_nil)))))) (s_cons (set_ c.toBok 4 (callA' c.toCok (P_l_row T) (B_l_row_3 T) (da_cons (v_ c.toBok 0) (da_cons (v_ c.toBok 2) (da_cons (d_bin o_add (d_bin o_pow (d_int) (d_int)) (callA' c.toCok (P_l_draw T) (B_l_draw_2 T) (da_cons (v_ c.toBok 0) (da_cons (d_bin o_pow (d_int) (d_int)) (da_nil))))) (da_nil)))))) (s_cons (for_ c.toCok (i_seq (v_ c.toBok 3)) (gn_ c.toBok 5) (s_cons (set_ c.toBok 6 (callA' c.toCok (P_l_draw T) (B_l_draw_2 T) (da_cons (v_ c.toBok 0) (da_cons (d_bin o_add (len_ c.toBok T.b_len (da_cons (v_ c.toBok 5) (da_nil))) (d_int)) (da_nil))))) (s_cons (set_ c.toBok 7 (d_bin o_add (d_bin o_add (d_sl (v_ c.toBok 5) (dp_none) (dp_some (v_ c.toBok 6))) (d_tup (da_cons (callA' c.toCok (P_l_other T) (B_l_other_1 T) (da_cons (v_ c.toBok 0) (da_nil))) (da_nil)))) (d_sl (v_ c.toBok 5) (dp_some (d_bin o_add (v_ c.toBok 6) (d_int))) (dp_none)))) (s_cons (set_ c.toBok 8 (d_frz (do_lst (da_cons (v_ c.toBok 5) (da_cons (v_ c.toBok 7) (da_cons (d_frz (list_ c.toBok T.b_list (da_cons (v_ c.toBok 5) (da_nil)))) (da_cons (d_sl (v_ c.toBok 5) (dp_some (d_int)) (dp_none)) (da_cons (d_bin o_add (v_ c.toBok 5) (d_sl (v_ c.toBok 5) (dp_none) (dp_some (d_int)))) (da_cons (d_revT (v_ c.toBok 5)) (da_cons (d_bin o_add (d_bin o_add (d_sl (v_ c.toBok 5) (dp_none) (dp_some (v_ c.toBok 6))) (d_tup (da_cons (d_bl) (da_nil)))) (d_sl (v_ c.toBok 5) (dp_some (d_bin o_add (v_ c.toBok 6) (d_int))) (dp_none))) (da_cons (d_tup (da_cons (v_ c.toBok 5) (da_nil))) (da_nil)))))))))))) (s_cons (for_ c.toCok (i_seq (d_bin o_add (v_ c.toBok 8) (d_frz (do_lst (da_cons (callA' c.toCok (P_l_other T) (B_l_other_1 T) (da_cons (v_ c.toBok 0) (da_nil))) (da_cons (v_ c.toBok 4) (da_nil))))))) (gn_ c.toBok 9) (s_cons (par2_ c.toCok 10 11 (da_cons (repr_ c.toBok T.b_repr (da_cons (v_ c.toBok 9) (da_nil))) (da_cons (repr_ c.toBok T.b_repr (da_cons (callA' c.toCok (P_l_is_row T) (B_l_is_row_2 T) (da_cons (v_ c.toBok 2) (da_cons (v_ c.toBok 9) (da_nil)))) (da_nil))) (da_nil)))) (s_one (s_if (dt_cmp (q_ne c.toBok) (d_frz (do_lst (da_cons (repr_ c.toBok T.b_repr (da_cons (methA' c.toCok (P_Table_is_row T) (B_Table_is_row_2 T) (v_ c.toBok 1) (da_cons (v_ c.toBok 9) (da_nil))) (da_nil))) (da_cons (repr_ c.toBok T.b_repr (da_cons (methK' c.toCok (P_Table_is_row T) (B_Table_is_row_1_thing T) (v_ c.toBok 1) (dk_cons (v_ c.toBok 9) (dk_nil))) (da_nil))) (da_cons (repr_ c.toBok T.b_repr (da_cons (v_ c.toBok 9) (da_nil))) (da_nil)))))) (d_frz (do_lst (da_cons (v_ c.toBok 11) (da_cons (v_ c.toBok 11) (da_cons (v_ c.toBok 10) (da_nil))))))) (s_one (s_ret (d_bl))) (s_nil))))) (s_one (for_ c.toCok (i_seq (v_ c.toBok 3)) (gn_ c.toBok 12) (s_cons (set_ c.toBok 11 (repr_ c.toBok T.b_repr (da_cons (callA' c.toCok (P_l_clash T) (B_l_clash_3 T) (da_cons (v_ c.toBok 2) (da_cons (v_ c.toBok 5) (da_cons (v_ c.toBok 12) (da_nil))))) (da_nil)))) (s_one (s_if (dt_bool (dw_or (dt_cmp (q_ne c.toBok) (repr_ c.toBok T.b_repr (da_cons (methA' c.toCok (P_Table_clash T) (B_Table_clash_3 T) (v_ c.toBok 1) (da_cons (v_ c.toBok 5) (da_cons (v_ c.toBok 12) (da_nil)))) (da_nil))) (v_ c.toBok 11)) (dw_or1 (dt_cmp (q_ne c.toBok) (repr_ c.toBok T.b_repr (da_cons (methK' c.toCok (P_Table_clash T) (B_Table_clash_1_other_one T) (v_ c.toBok 1) (dk_cons (v_ c.toBok 5) (dk_cons (v_ c.toBok 12) (dk_nil)))) (da_nil))) (v_ c.toBok 11))))) (s_one (s_ret (d_bl))) (s_nil))))))))))) (s_one (s_ret (d_bl)))))
theorem P_l_rows_right (T : Tx Γ) : FnP Γ 5 "_law_rows_right" ["_law_source_here", "_law_table", "_law_some"] d_l_rows_right := fnP_of T.d_l_rows_right S_l_rows_right (by decide +kernel) (W_l_rows_right T)
theorem S_l_equal_right : FnScope N_l_equal_right ["_law_source_here", "_law_table", "_law_some"] (defScope (top 30)) := ⟨rfl, rfl, rfl, by decide +kernel, rfl, by decide +kernel, by decide +kernel⟩
theorem W_l_equal_right (T : Tx Γ) (X : Cx) (B : Bs) (W : WX) (c : Fok Γ X W 4 N_l_equal_right (defScope (top 30)) (defScope (top 30))) : DSs X B W (defBody (top 30)) F_l_equal_right := s_cons (par2_ c.toCok 3 4 (da_cons (d_mk (mkA' c.toCok (P_Table_init T) (B_Table_init_4 T) (da_cons (d_ix o_ix (v_ c.toBok 2) (d_int)) (da_cons (d_ix o_ix (v_ c.toBok 2) (d_int)) (da_cons (d_ix o_ix (v_ c.toBok 2) (d_int)) (da_cons (d_ix o_ix (v_ c.toBok 2) (d_int)) (da_nil))))))) (da_cons (callA' c.toCok (P_l_draw T) (B_l_draw_2 T) (da_cons (v_ c.toBok 0) (da_cons (d_int) (da_nil)))) (da_nil)))) (s_cons (s_if (dt_cmp (q_ne c.toBok) (repr_ c.toBok T.b_repr (da_cons (d_frz (do_lst (da_cons (eqO_ c.toCok (Q_Table_eq T) (v_ c.toBok 1) (v_ c.toBok 3)) (da_cons (eqO_ c.toCok (Q_Table_eq T) (v_ c.toBok 3) (v_ c.toBok 1)) (da_cons (neO_ c.toCok (Q_Table_eq T) (v_ c.toBok 1) (v_ c.toBok 3)) (da_nil)))))) (da_nil))) (repr_ c.toBok T.b_repr (da_cons (d_frz (do_lst (da_cons (d_bl) (da_cons (d_bl) (da_cons (d_bl) (da_nil)))))) (da_nil)))) (s_one (s_ret (d_bl))) (s_nil)) (s_cons (own_ c.toBok 5 (list_ c.toBok T.b_list (da_cons (v_ c.toBok 2) (da_nil)))) (s_cons (setO_ c.toBok 5 (d_ix o_ix (d_frz (callO' c.toCok (P_l_valid T) (B_l_valid_1 T) (da_cons (v_ c.toBok 0) (da_nil)))) (v_ c.toBok 4)) (v_ c.toBok 4)) (s_cons (s_if (dt_val (callA' c.toCok (P_l_right T) (B_l_right_4 T) (da_cons (ixO_ c.toBok 5 (d_int)) (da_cons (ixO_ c.toBok 5 (d_int)) (da_cons (ixO_ c.toBok 5 (d_int)) (da_cons (ixO_ c.toBok 5 (d_int)) (da_nil))))))) (s_cons (set_ c.toBok 6 (cmpOl_ c.toBok 5 (c_eq c.toBok.un) (v_ c.toBok 2))) (s_cons (set_ c.toBok 7 (d_mk (mkA' c.toCok (P_Table_init T) (B_Table_init_4 T) (da_cons (ixO_ c.toBok 5 (d_int)) (da_cons (ixO_ c.toBok 5 (d_int)) (da_cons (ixO_ c.toBok 5 (d_int)) (da_cons (ixO_ c.toBok 5 (d_int)) (da_nil)))))))) (s_one (s_if (dt_cmp (q_ne c.toBok) (repr_ c.toBok T.b_repr (da_cons (d_frz (do_lst (da_cons (eqO_ c.toCok (Q_Table_eq T) (v_ c.toBok 1) (v_ c.toBok 7)) (da_cons (eqO_ c.toCok (Q_Table_eq T) (v_ c.toBok 7) (v_ c.toBok 1)) (da_nil))))) (da_nil))) (repr_ c.toBok T.b_repr (da_cons (d_frz (do_lst (da_cons (v_ c.toBok 6) (da_cons (v_ c.toBok 6) (da_nil))))) (da_nil)))) (s_one (s_ret (d_bl))) (s_nil))))) (s_nil)) (s_cons (set_ c.toBok 8 (d_frz (do_lst (da_cons (d_non) (da_cons (d_ix o_ix (v_ c.toBok 2) (d_int)) (da_cons (tuple_ c.toBok T.b_tuple (da_cons (v_ c.toBok 2) (da_nil))) (da_cons (v_ c.toBok 2) (da_cons (d_int) (da_cons (d_str) (da_cons (d_tup (da_nil)) (da_nil))))))))))) (s_one (s_ret (d_cmp (q_eq c.toBok) (d_frz (lc_ c.toCok [("_law_it", 9)] (i_seq (v_ c.toBok 8)) (by decide +kernel) (fun X c => gn_ c.toBok 9) (fun X c => pts_if (dt_bool (dw_or (eqOT_ c (Q_Table_eq T) (v_ c.toBok 1) (v_ c.toBok 9)) (dw_or1 (eqOT_ c (Q_Table_eq T) (v_ c.toBok 9) (v_ c.toBok 1)))))) (fun X c => v_ c.toBok 9))) (d_frz (do_lst (da_nil)))))))))))
theorem P_l_equal_right (T : Tx Γ) : FnP Γ 5 "_law_equal_right" ["_law_source_here", "_law_table", "_law_some"] d_l_equal_right := fnP_of T.d_l_equal_right S_l_equal_right (by decide +kernel) (W_l_equal_right T)
theorem S_l_table_right : FnScope N_l_table_right ["_law_source_here", "_law_some"] (defScope (top 31)) := ⟨rfl, rfl, rfl, by decide +kernel, rfl, by decide +kernel, by decide +kernel⟩
theorem W_l_table_right (T : Tx Γ) (X : Cx) (B : Bs) (W : WX) (c : Fok Γ X W 5 N_l_table_right (defScope (top 31)) (defScope (top 31))) : DSs X B W (defBody (top 31)) F_l_table_right := s_cons (par2_ c.toCok 2 3 (da_cons (repr_ c.toBok T.b_repr (da_cons (v_ c.toBok 1) (da_nil))) (da_cons (callA' c.toCok (P_l_right T) (B_l_right_4 T) (da_cons (d_ix o_ix (v_ c.toBok 1) (d_int)) (da_cons (d_ix o_ix (v_ c.toBok 1) (d_int)) (da_cons (d_ix o_ix (v_ c.toBok 1) (d_int)) (da_cons (d_ix o_ix (v_ c.toBok 1) (d_int)) (da_nil)))))) (da_nil)))) (s_cons (for_ c.toCok (i_seq (d_tup (da_cons (d_bl) (da_cons (d_bl) (da_nil))))) (gn_ c.toBok 4) (s_cons (set_ c.toBok 5 (callA' c.toCok (P_l_heard T) (B_l_heard_2 T) (da_cons (v_ c.toBok 1) (da_cons (v_ c.toBok 4) (da_nil))))) (s_cons (s_if (dt_bool (dw_or (dt_bool (dw_and (dt_not (dt_val (v_ c.toBok 3))) (dw_and1 (dt_cmp (o_isNot) (v_ c.toBok 5) (d_non))))) (dw_or1 (dt_bool (dw_and (dt_val (v_ c.toBok 3)) (dw_and1 (dt_not (dt_val (isi_ c.toBok T.isi isi_in T.b_isinstance (da_cons (v_ c.toBok 5) (da_cons (glob_ c.toBok T.g_Table) (da_nil)))))))))))) (s_one (s_ret (d_bl))) (s_nil)) (s_one (s_if (dt_val (v_ c.toBok 3)) (s_cons (set_ c.toBok 6 (d_frz (do_lst (da_cons (fld_ c.toBok T.f_name (v_ c.toBok 5)) (da_cons (fld_ c.toBok T.f_names (v_ c.toBok 5)) (da_cons (fld_ c.toBok T.f_numbers (v_ c.toBok 5)) (da_cons (fld_ c.toBok T.f_key (v_ c.toBok 5)) (da_nil)))))))) (s_cons (s_if (dt_bool (dw_or (dt_cmp (q_ne c.toBok) (repr_ c.toBok T.b_repr (da_cons (v_ c.toBok 6) (da_nil))) (v_ c.toBok 2)) (dw_or1 (dt_cmp (q_ne c.toBok) (repr_ c.toBok T.b_repr (da_cons (prop' c.toCok (P_Table_columns T) (v_ c.toBok 5)) (da_nil))) (repr_ c.toBok T.b_repr (da_cons (d_bin o_add (d_ix o_ix (v_ c.toBok 1) (d_int)) (d_ix o_ix (v_ c.toBok 1) (d_int))) (da_nil))))))) (s_one (s_ret (d_bl))) (s_nil)) (s_one (s_if (dt_bool (dw_or (dt_not (dt_val (callA' c.toCok (P_l_rows_right T) (B_l_rows_right_3 T) (da_cons (v_ c.toBok 0) (da_cons (v_ c.toBok 5) (da_cons (v_ c.toBok 1) (da_nil))))))) (dw_or1 (dt_not (dt_val (callA' c.toCok (P_l_equal_right T) (B_l_equal_right_3 T) (da_cons (v_ c.toBok 0) (da_cons (v_ c.toBok 5) (da_cons (v_ c.toBok 1) (da_nil)))))))))) (s_one (s_ret (d_bl))) (s_nil))))) (s_nil)))))) (s_one (s_ret (d_cmp (q_eq c.toBok) (repr_ c.toBok T.b_repr (da_cons (v_ c.toBok 1) (da_nil))) (v_ c.toBok 2)))))
theorem P_l_table_right (T : Tx Γ) : FnP Γ 6 "_law_table_right" ["_law_source_here", "_law_some"] d_l_table_right := fnP_of T.d_l_table_right S_l_table_right (by decide +kernel) (W_l_table_right T)
theorem S_l_defaults_right : FnScope N_l_defaults_right ["_law_word_here"] (defScope (top 32)) := ⟨rfl, rfl, rfl, by decide +kernel, rfl, by decide +kernel, by decide +kernel⟩
theorem W_l_defaults_right (T : Tx Γ) (X : Cx) (B : Bs) (W : WX) (c : Fok Γ X W 4 N_l_defaults_right (defScope (top 32)) (defScope (top 32))) : DSs X B W (defBody (top 32)) F_l_defaults_right := s_cons (par2_ c.toCok 1 2 (da_cons (d_mk (mkA' c.toCok (P_Table_init T) (B_Table_init_2 T) (da_cons (v_ c.toBok 0) (da_cons (d_tup (da_cons (d_str) (da_nil))) (da_nil))))) (da_cons (d_mk (mkA' c.toCok (P_Table_init T) (B_Table_init_3 T) (da_cons (v_ c.toBok 0) (da_cons (d_tup (da_nil)) (da_cons (d_tup (da_cons (d_str) (da_nil))) (da_nil)))))) (da_nil)))) (s_cons (s_if (dt_cmp (q_ne c.toBok) (repr_ c.toBok T.b_repr (da_cons (d_frz (do_lst (da_cons (fld_ c.toBok T.f_names (v_ c.toBok 1)) (da_cons (fld_ c.toBok T.f_numbers (v_ c.toBok 1)) (da_cons (fld_ c.toBok T.f_key (v_ c.toBok 1)) (da_cons (prop' c.toCok (P_Table_columns T) (v_ c.toBok 1)) (da_nil))))))) (da_nil))) (repr_ c.toBok T.b_repr (da_cons (d_frz (do_lst (da_cons (d_tup (da_cons (d_str) (da_nil))) (da_cons (d_tup (da_nil)) (da_cons (d_tup (da_nil)) (da_cons (d_tup (da_cons (d_str) (da_nil))) (da_nil))))))) (da_nil)))) (s_one (s_ret (d_bl))) (s_nil)) (s_cons (set_ c.toBok 3 (d_frz (do_lst (da_cons (fld_ c.toBok T.f_names (v_ c.toBok 2)) (da_cons (fld_ c.toBok T.f_numbers (v_ c.toBok 2)) (da_cons (fld_ c.toBok T.f_key (v_ c.toBok 2)) (da_cons (prop' c.toCok (P_Table_columns T) (v_ c.toBok 2)) (da_cons (methA' c.toCok (P_Table_clash T) (B_Table_clash_3 T) (v_ c.toBok 1) (da_cons (d_tup (da_cons (d_str) (da_nil))) (da_cons (d_tup (da_cons (d_str) (da_nil))) (da_nil)))) (da_cons (eqO_ c.toCok (Q_Table_eq T) (v_ c.toBok 1) (v_ c.toBok 2)) (da_nil)))))))))) (s_one (s_ret (d_cmp (q_eq c.toBok) (repr_ c.toBok T.b_repr (da_cons (v_ c.toBok 3) (da_nil))) (repr_ c.toBok T.b_repr (da_cons (d_frz (do_lst (da_cons (d_tup (da_nil)) (da_cons (d_tup (da_cons (d_str) (da_nil))) (da_cons (d_tup (da_nil)) (da_cons (d_tup (da_cons (d_str) (da_nil))) (da_cons (d_bl) (da_cons (d_bl) (da_nil))))))))) (da_nil))))))))
theorem P_l_defaults_right (T : Tx Γ) : FnP Γ 5 "_law_defaults_right" ["_law_word_here"] d_l_defaults_right := fnP_of T.d_l_defaults_right S_l_defaults_right (by decide +kernel) (W_l_defaults_right T)
theorem S_law : FnScope N_law ["_law_script"] (defScope (top 33)) := ⟨rfl, rfl, rfl, by decide +kernel, rfl, by decide +kernel, by decide +kernel⟩
theorem W_law (T : Tx Γ) (X : Cx) (B : Bs) (W : WX) (c : Fok Γ X W 6 N_law (defScope (top 33)) (defScope (top 33))) : DSs X B W (defBody (top 33)) F_law := s_cons (set_ c.toBok 1 (callA' c.toCok (P_l_source T) (B_l_source_1 T) (da_cons (v_ c.toBok 0) (da_nil)))) (s_cons (for_ c.toCok (range1_ c.toBok T.b_range (da_cons (d_int) (da_nil))) (gn_ c.toBok 2) (s_cons (set_ c.toBok 3 (callA' c.toCok (P_l_pick T) (B_l_pick_2 T) (da_cons (v_ c.toBok 1) (da_cons (d_frz (do_lst (da_cons (callA' c.toCok (P_l_word T) (B_l_word_1 T) (da_cons (v_ c.toBok 1) (da_nil))) (da_cons (callA' c.toCok (P_l_other T) (B_l_other_1 T) (da_cons (v_ c.toBok 1) (da_nil))) (da_cons (d_bin o_add (callA' c.toCok (P_l_word T) (B_l_word_1 T) (da_cons (v_ c.toBok 1) (da_nil))) (d_str)) (da_nil)))))) (da_nil))))) (s_cons (s_if (dt_cmp (q_ne c.toBok) (d_frz (do_lst (da_cons (repr_ c.toBok T.b_repr (da_cons (callA' c.toCok (P_p_is_name T) (B_p_is_name_1 T) (da_cons (v_ c.toBok 3) (da_nil))) (da_nil))) (da_cons (repr_ c.toBok T.b_repr (da_cons (callK' c.toCok (P_p_is_name T) (B_p_is_name_0_thing T) (dk_cons (v_ c.toBok 3) (dk_nil))) (da_nil))) (da_nil))))) (d_bin o_mul (d_frz (do_lst (da_cons (repr_ c.toBok T.b_repr (da_cons (callA' c.toCok (P_l_is_name T) (B_l_is_name_1 T) (da_cons (v_ c.toBok 3) (da_nil))) (da_nil))) (da_nil)))) (d_int))) (s_one (s_ret (d_bl))) (s_nil)) (s_cons (own_ c.toBok 4 (callO' c.toCok (P_l_valid T) (B_l_valid_1 T) (da_cons (v_ c.toBok 1) (da_nil)))) (s_cons (for_ c.toCok (range1_ c.toBok T.b_range (da_cons (callA' c.toCok (P_l_pick T) (B_l_pick_2 T) (da_cons (v_ c.toBok 1) (da_cons (d_frz (do_lst (da_cons (d_int) (da_cons (d_int) (da_cons (d_int) (da_cons (d_int) (da_cons (d_int) (da_nil)))))))) (da_nil)))) (da_nil))) (gn_ c.toBok 5) (s_cons (set_ c.toBok 6 (callA' c.toCok (P_l_draw T) (B_l_draw_2 T) (da_cons (v_ c.toBok 1) (da_cons (d_int) (da_nil))))) (s_one (setO_ c.toBok 4 (callA' c.toCok (P_l_bent T) (B_l_bent_2 T) (da_cons (v_ c.toBok 1) (da_cons (ixO_ c.toBok 4 (v_ c.toBok 6)) (da_nil)))) (v_ c.toBok 6))))) (s_frz 4 (s_one (s_if (dt_not (dt_val (callA' c.toCok (P_l_table_right T) (B_l_table_right_2 T) (da_cons (v_ c.toBok 1) (da_cons (v_ c.toBok 4) (da_nil)))))) (s_one (s_ret (d_bl))) (s_nil))))))))) (s_one (s_ret (callA' c.toCok (P_l_defaults_right T) (B_l_defaults_right_1 T) (da_cons (callA' c.toCok (P_l_word T) (B_l_word_1 T) (da_cons (v_ c.toBok 1) (da_nil))) (da_nil))))))
theorem P_law (T : Tx Γ) : FnP Γ 7 "law" ["_law_script"] d_law := fnP_of T.d_law S_law (by decide +kernel) (W_law T)
end
end WR.K02
set_option Elab.async false
set_option linter.all false
set_option autoImplicit false
set_option maxRecDepth 100000
set_option maxHeartbeats 4000000
namespace WR.K02
open PySem PySem.Spec PyProof.Rows L2
section
variable {P : Program} {w : World} {K : PySem.W.Frag} {mg : Str → Option Value} {h base : Heap} {C E T : Addr} {newId : String}
theorem kitTT {t n : String} {l : List Value} {r : Bool} (h1 : PySem.W.kitMeta n = true) (h2 : PySem.fastBuiltinMro t = some l) (h3 : l.contains (.type n) = r) (h4 : t = n → r = true) : PySem.W.kitOne K (.type t) (.type n) = some r :=
  kitT h1 (by rw [sub_bt h2, h3]) fun e => h4 (by cases e; rfl)
theorem km_int : PySem.W.kitMeta "int" = true := by decide +kernel
theorem km_bool : PySem.W.kitMeta "bool" = true := by decide +kernel
theorem km_str : PySem.W.kitMeta "str" = true := by decide +kernel
theorem km_tuple : PySem.W.kitMeta "tuple" = true := by decide +kernel
theorem km_ValueError : PySem.W.kitMeta "ValueError" = true := by decide +kernel
theorem isi_mk (A : XAll P K mg) (T : CK K mg "Table" C) (c : ClsAt K C [.type "object"] newId) (ha : PySem.W.findIn K (.ref C) "__class__" = some (some (.builtin "object.__class__"))) : KitOk K mg isiC isiT := by
  have hm : PySem.W.mroIn K C (.type "object") = some true := c.sub (.type "object")
  have atC : ∀ {v : Value}, mg "Table" = some v → v = .ref C := fun {v} e => by
    have e' := T.mg
    rw [e] at e'
    exact Option.some.inj e'
  refine ⟨fun x hx C' e => ?_, fun t u b hb tv uv ht hu => ?_⟩
  · obtain rfl : x = "Table" := by simpa [isiC] using hx
    cases atC e
    exact ⟨T.cl, ha, A.hn, A.ht, hm⟩
  · have one : ∀ {r : Bool} (l : String) (L : List Value), PySem.fastBuiltinMro l = some L → L.contains (.ref C) = r → r = false → PySem.W.kitOne K (.type l) (.ref C) = some r := fun l L h1 h2 h3 => c.kitR (by rw [sub_bt h1, h2]) fun e => nomatch e
    cases t with
    | inl t =>
      obtain rfl : tv = .type t := ht
      cases u with
      | inl u =>
        obtain rfl : uv = .type u := hu
        unfold isiT at hb
        dsimp only at hb
        split at hb
        · rename_i hc
          obtain ⟨h1, h2⟩ := hc
          simp only [List.mem_cons, List.not_mem_nil, or_false] at h1 h2
          cases hb
          rcases h1 with rfl | rfl | rfl | rfl | rfl | rfl | rfl <;> rcases h2 with rfl | rfl | rfl | rfl <;>
            first
            | exact kitTT km_int (by first | exact mro_NoneType | exact mro_bool | exact mro_int | exact mro_str | exact mro_tuple | exact mro_list | exact mro_dict) (by rfl) (by decide)
            | exact kitTT km_bool (by first | exact mro_NoneType | exact mro_bool | exact mro_int | exact mro_str | exact mro_tuple | exact mro_list | exact mro_dict) (by rfl) (by decide)
            | exact kitTT km_str (by first | exact mro_NoneType | exact mro_bool | exact mro_int | exact mro_str | exact mro_tuple | exact mro_list | exact mro_dict) (by rfl) (by decide)
            | exact kitTT km_tuple (by first | exact mro_NoneType | exact mro_bool | exact mro_int | exact mro_str | exact mro_tuple | exact mro_list | exact mro_dict) (by rfl) (by decide)
        · cases hb
      | inr u =>
        unfold isiT at hb
        dsimp only at hb
        split at hb
        · rename_i hc
          obtain ⟨h1, rfl⟩ := hc
          cases hb
          obtain rfl := atC hu
          simp only [List.mem_cons, List.not_mem_nil, or_false] at h1
          rcases h1 with rfl | rfl | rfl | rfl | rfl | rfl | rfl
          · exact one _ _ mro_NoneType rfl rfl
          · exact one _ _ mro_bool rfl rfl
          · exact one _ _ mro_int rfl rfl
          · exact one _ _ mro_str rfl rfl
          · exact one _ _ mro_tuple rfl rfl
          · exact one _ _ mro_list rfl rfl
          · exact one _ _ mro_dict rfl rfl
        · cases hb
    | inr t =>
      obtain ⟨ht1, ht2⟩ := ht
      obtain rfl : t = "Table" := by simpa [isiC] using ht1
      obtain rfl := atC ht2
      cases u with
      | inl u =>
        obtain rfl : uv = .type u := hu
        unfold isiT at hb
        dsimp only at hb
        split at hb
        · rename_i hc
          obtain ⟨_, h2⟩ := hc
          simp only [List.mem_cons, List.not_mem_nil, or_false] at h2
          cases hb
          rcases h2 with rfl | rfl | rfl | rfl
          · exact kitT km_int (c.sub _) fun e => nomatch e
          · exact kitT km_bool (c.sub _) fun e => nomatch e
          · exact kitT km_str (c.sub _) fun e => nomatch e
          · exact kitT km_tuple (c.sub _) fun e => nomatch e
        · cases hb
      | inr u =>
        unfold isiT at hb
        dsimp only at hb
        split at hb
        · rename_i hc
          obtain ⟨_, rfl⟩ := hc
          cases hb
          obtain rfl := atC hu
          exact c.kitR (by rw [c.sub]; simp) fun _ => rfl
        · cases hb
theorem sub_mk (r : XRaw P K mg "ValueError.__new__" WT.valChain "InvalidTable" E T none) : SubOk K mg excT := fun c x b hb C hC => by
  unfold excT at hb
  split at hb
  · rename_i hc
    obtain ⟨rfl, rfl⟩ := hc
    cases hb
    have e := r.er.mg
    rw [hC] at e
    cases e
    refine ⟨.ref E, .inl r.er.mg, ?_⟩
    rw [r.at_.exm r.at_ (by rfl)]
    simp
  · cases hb
theorem xt_mk (r : XRaw P K mg "ValueError.__new__" WT.valChain "InvalidTable" E T none) (hT : mg "TurnError" = some (.ref T)) (ct : ClsAt K T WT.valChain newId) : XtOk K mg xtT := fun c t b hb C hC => by
  unfold xtT at hb
  split at hb
  · split at hb
    · rename_i n hc
      obtain ⟨rfl, rfl⟩ := hc
      cases hb
      have e := r.er.mg
      rw [hC] at e
      cases e
      exact ⟨r.ask, .inl ⟨_, rfl, kitT km_ValueError (r.at_.sub _) fun e => nomatch e⟩⟩
    · cases hb
  · split at hb
    · rename_i x hc
      obtain ⟨rfl, rfl⟩ := hc
      cases hb
      have e := r.er.mg
      rw [hC] at e
      cases e
      refine ⟨r.ask, .inr ⟨_, rfl, fun tv ht => ?_⟩⟩
      rw [hT] at ht
      cases ht
      exact ct.kitR (by rw [r.at_.sub]; simp) fun _ => rfl
    · cases hb
  · cases hb
end
end WR.K02
set_option Elab.async false
set_option linter.all false
set_option autoImplicit false
set_option maxRecDepth 100000
set_option maxHeartbeats 4000000
namespace WR.K02
open PySem PySem.Spec PyProof.Rows L2
/-! ### types -/
def isStrD : D → Bool
  | .str _ => true
  | _ => false
def isTupD : D → Bool
  | .tup _ => true
  | _ => false
def isIntD : D → Bool
  | .int _ => true
  | _ => false
def isBlD : D → Bool
  | .bl _ => true
  | _ => false
/-- values that have a type -/
def Tyd : D → Prop
  | .non | .bl _ | .int _ | .str _ | .tup _ | .lst _ | .fz _ | .dct _ => True
  | _ => False
section
variable {h : IH} {d : D}
theorem isi_str (hd : Tyd d) : isiP isiT h [d, .ty "str"] = some (.bl (isStrD d)) := by
  cases d <;> first | exact hd.elim | rfl
theorem isi_tup (hd : Tyd d) : isiP isiT h [d, .ty "tuple"] = some (.bl (isTupD d)) := by
  cases d <;> first | exact hd.elim | rfl
theorem isi_int (hd : Tyd d) : isiP isiT h [d, .ty "int"] = some (.bl (isIntD d || isBlD d)) := by
  cases d <;> first | exact hd.elim | rfl
theorem isi_bool (hd : Tyd d) : isiP isiT h [d, .ty "bool"] = some (.bl (isBlD d)) := by
  cases d <;> first | exact hd.elim | rfl
end
theorem is_integer_eq (d : D) (h : IH) (hd : Tyd d) : d_p_is_integer [d] h = .ok (.bl (isIntD d)) h := by
  refine runB_rt rfl ?_
  unfold F_p_is_integer
  have e : isIntD d = ((isIntD d || isBlD d) && !isBlD d) := by cases d <;> rfl
  rw [e]
  exact ret_ok (eAn_b (eN_ok (aCons_ok (eVar_ok rfl) (aCons_ok eCst_ok aNil_ok)) (isi_int hd)) fun _ => eNt_ok (eN_ok (aCons_ok (eVar_ok rfl) (aCons_ok eCst_ok aNil_ok)) (isi_bool hd)))
/-! ### names -/
def lowB (c : Nat) : Bool := decide (97 ≤ c) && decide (c ≤ 122)
def lenB (x : Str) : Bool := decide (1 ≤ x.length) && decide (x.length ≤ 8)
def nameS (x : Str) : Bool := lenB x && x.cps.toList.all lowB
def nameB : D → Bool
  | .str x => nameS x
  | _ => false
theorem letters_mem (c : Nat) : decide (c ∈ ("abcdefghijklmnopqrstuvwxyz" : Str).cps.toList) = lowB c := by
  have e : ("abcdefghijklmnopqrstuvwxyz" : Str).cps.toList = (List.range 26).map (· + 97) := by decide +kernel
  rw [e]
  unfold lowB
  by_cases h : 97 ≤ c ∧ c ≤ 122
  · rw [decide_eq_true h.1, decide_eq_true h.2]
    refine decide_eq_true (List.mem_map.mpr ⟨c - 97, List.mem_range.mpr (by omega), by omega⟩)
  · have : ¬ c ∈ (List.range 26).map (· + 97) := fun q => by
      obtain ⟨i, hi, e⟩ := List.mem_map.mp q
      have := List.mem_range.mp hi
      omega
    rw [decide_eq_false this]
    by_cases h1 : 97 ≤ c
    · have h2 : ¬ c ≤ 122 := fun q => h ⟨h1, q⟩
      simp [h2]
    · simp [h1]
theorem blsOf_map (f : D → Bool) : ∀ ds : List D, blsOf (ds.map fun d => D.bl (f d)) = some (ds.map f)
  | [] => rfl
  | d :: ds => by
    show (blsOf (ds.map fun d => D.bl (f d))).map (f d :: ·) = _
    rw [blsOf_map f ds]
    rfl
/-- all([..]) -/
theorem all_ok {g : En → M (List D)} {ρ : En} {h h1 : IH} {ds : List D} (p : D → Bool) (e : g ρ h = .ok (ds.map fun d => D.bl (p d)) h1) : eN allP (aCons (eFz g) aNil) ρ h = .ok (.bl (ds.all p)) h1 := by
  refine eN_ok (aCons_ok (fz_ok e) aNil_ok) ?_
  show (blsOf (ds.map fun d => D.bl (p d))).map (fun bs => D.bl (bs.all id)) = _
  rw [blsOf_map]
  simp [List.all_map, Function.comp_def]
/-- what a sign is -/
def sgn : D → Nat
  | .str x => x.cps[0]!
  | _ => 0
theorem chrs_len (x : Str) : (chrs x).length = x.length := by simp [chrs, Str.length]
theorem chrs_all (x : Str) (p : Nat → Bool) : ((chrs x).all fun d => p (sgn d)) = x.cps.toList.all p := by
  simp [chrs, sgn, List.all_map, Function.comp_def]
theorem len_str {x : Str} {ρ : En} {h : IH} {i : Nat} (hi : slot ρ i = some (.str x)) (hl : x.length ≤ 1000) : eN lenP (aCons (eVar i) aNil) ρ h = .ok (.int x.length) h :=
  eN_ok (aCons_ok (eVar_ok hi) aNil_ok) (by show (if x.length ≤ sizeLine then some (D.int x.length) else none) = _; rw [if_pos (Nat.le_trans hl (by decide))])
theorem len_test {x : Str} {ρ : En} {h : IH} {i : Nat} (hi : slot ρ i = some (.str x)) (hl : x.length ≤ 1000) : eChain leP leP (eCst (.int 1)) (eN lenP (aCons (eVar i) aNil)) (eCst (.int 8)) ρ h = .ok (.bl (lenB x)) h := by
  by_cases h1 : 1 ≤ x.length
  · have e : lenB x = decide ((x.length : Int) ≤ 8) := by
      unfold lenB
      rw [decide_eq_true h1]
      by_cases h2 : x.length ≤ 8
      · rw [decide_eq_true h2, decide_eq_true (by omega)]
        rfl
      · rw [decide_eq_false h2, decide_eq_false (by omega)]
        rfl
    rw [e]
    exact eChain_t eCst_ok (len_str hi hl) (by show some (D.bl (decide ((1 : Int) ≤ (x.length : Int)))) = _; rw [decide_eq_true (by omega)]) eCst_ok rfl
  · have e : lenB x = false := by
      unfold lenB
      rw [decide_eq_false h1]
      rfl
    rw [e]
    exact eChain_f eCst_ok (len_str hi hl) (by show some (D.bl (decide ((1 : Int) ≤ (x.length : Int)))) = _; rw [decide_eq_false (by omega)])
/-- not a str, or too long or short -/
def badN : D → Bool
  | .str x => !lenB x
  | _ => true
theorem name_test {d : D} {h : IH} {ρ : En} (hd : Tyd d) (hl : ∀ x, d = .str x → x.length ≤ 1000) (hi : slot ρ 0 = some d) : tOr (tNt (tst (eN (isiP isiT) (aCons (eVar 0) (aCons (eCst (.ty "str")) aNil))))) (tNt (tst (eChain leP leP (eCst (.int 1)) (eN lenP (aCons (eVar 0) aNil)) (eCst (.int 8))))) ρ h = .ok (badN d) h := by
  have a : tNt (tst (eN (isiP isiT) (aCons (eVar 0) (aCons (eCst (.ty "str")) aNil)))) ρ h = .ok (!isStrD d) h := tNt_ok (tst_ok (eN_ok (aCons_ok (eVar_ok hi) (aCons_ok eCst_ok aNil_ok)) (isi_str hd)))
  cases d with
  | str x => exact tOr_f a (tNt_ok (tst_ok (len_test hi (hl x rfl))))
  | _ => first | exact hd.elim | exact tOr_t a
theorem is_name_eq (d : D) (h : IH) (hd : Tyd d) (hl : ∀ x, d = .str x → x.length ≤ 1000) : d_p_is_name [d] h = .ok (.bl (nameB d)) h := by
  refine runB_rt rfl ?_
  unfold F_p_is_name
  have a := name_test (h := h) hd hl (ρ := startE 2 [d]) rfl
  cases d with
  | str x =>
    cases hb : lenB x with
    | false =>
      have a' : _ = Res.ok true h := a.trans (by show Res.ok (!lenB x) h = _; rw [hb]; rfl)
      rw [seq_take a' (ret_ok eCst_ok)]
      show _ = SR.rt (.bl (lenB x && _)) h
      rw [hb]
      rfl
    | true =>
      have a' : _ = Res.ok false h := a.trans (by show Res.ok (!lenB x) h = _; rw [hb]; rfl)
      rw [seq_skip a']
      refine ret_ok ?_
      show _ = Res.ok (D.bl (lenB x && x.cps.toList.all lowB)) h
      rw [hb, Bool.true_and, ← chrs_all]
      refine all_ok _ (siz_ok (mLc_map _ (iSeq_ok (eVar_ok rfl) rfl) fun d hd => ?_) (by rw [List.length_map, chrs_len]; have := hl x rfl; omega))
      obtain ⟨c, hc, rfl⟩ := List.mem_map.mp hd
      refine e2_ok (eVar_ok rfl) eCst_ok ?_
      show some (D.bl (decide (c ∈ ("abcdefghijklmnopqrstuvwxyz" : Str).cps.toList))) = _
      rw [letters_mem]
      rfl
  | _ => first | exact hd.elim | (rw [seq_take a (ret_ok eCst_ok)]; rfl)
/-! _law_is_name -/
theorem lt_sgn (a b : Nat) : decide (([a] : List Nat) < [b]) = decide (a < b) := by
  by_cases h : a < b
  · rw [decide_eq_true h]
    exact decide_eq_true (List.Lex.rel h)
  · rw [decide_eq_false h]
    refine decide_eq_false fun q => ?_
    cases q with
    | rel q => exact h q
    | cons q => cases q
theorem low_chain {ρ : En} {h : IH} {i c : Nat} (hi : slot ρ i = some (.str ⟨#[c]⟩)) : eChain leP leP (eCst (.str "a")) (eVar i) (eCst (.str "z")) ρ h = .ok (.bl (lowB c)) h := by
  have ea : (("a" : Str)).cps.toList = [97] := by decide +kernel
  have ez : (("z" : Str)).cps.toList = [122] := by decide +kernel
  by_cases h1 : 97 ≤ c
  · have e : lowB c = !decide (122 < c) := by
      unfold lowB
      rw [decide_eq_true h1]
      by_cases h2 : c ≤ 122
      · rw [decide_eq_true h2, decide_eq_false (by omega)]
        rfl
      · rw [decide_eq_false h2, decide_eq_true (by omega)]
        rfl
    rw [e]
    refine eChain_t eCst_ok (eVar_ok hi) ?_ eCst_ok ?_
    · show some (D.bl (!decide (([c] : List Nat) < ("a" : Str).cps.toList))) = _
      rw [ea, lt_sgn, decide_eq_false (by omega)]
      rfl
    · show some (D.bl (!decide (("z" : Str).cps.toList < ([c] : List Nat)))) = _
      rw [ez, lt_sgn]
  · have e : lowB c = false := by
      unfold lowB
      rw [decide_eq_false h1]
      rfl
    rw [e]
    refine eChain_f eCst_ok (eVar_ok hi) ?_
    show some (D.bl (!decide (([c] : List Nat) < ("a" : Str).cps.toList))) = _
    rw [ea, lt_sgn, decide_eq_true (by omega)]
    rfl
/-- data that may be compared -/
def Cmp (d : D) : Prop := ∃ p, D.pd d = some p ∧ shp p = true
theorem shaped_of {p : PyData} (h1 : p.canLay0 = true) (h2 : p.depth ≤ 64) : shp p = true := by
  exact shp_of (PyData.plain_of_canLay0 p h1) h2
/-- flat data that may be compared -/
def Fl (d : D) : Prop := ∃ p, D.pd d = some p ∧ p.canLay0 = true ∧ p.depth = 0
theorem fl_all : ∀ {ds : List D}, (∀ d ∈ ds, Fl d) → ∃ ps, D.pdL ds = some ps ∧ PyData.canLayAll0 ps = true ∧ PyData.depthAll ps = 0 ∧ ps.length = ds.length
  | [], _ => ⟨[], by simp [D.pdL], by simp [PyData.canLayAll0], by simp [PyData.depthAll], rfl⟩
  | d :: ds, h => by
    obtain ⟨p, a1, a2, a3⟩ := h d (by simp)
    obtain ⟨ps, b1, b2, b3, b4⟩ := fl_all (ds := ds) fun x hx => h x (by simp [hx])
    exact ⟨p :: ps, by simp [D.pdL, a1, b1], by simp [PyData.canLayAll0, a2, b2], by simp [PyData.depthAll, a3, b3], by simp [b4]⟩
theorem fl_str {x : Str} (h : PyData.strOk x = true) : Fl (.str x) := ⟨.str x, by simp [D.pd], by simpa [PyData.canLay0] using h, by simp [PyData.depth]⟩
theorem fl_int (i : Int) : Fl (.int i) := ⟨.int i, by simp [D.pd], by simp [PyData.canLay0], by simp [PyData.depth]⟩
theorem cmp_tup {ds : List D} (h : ∀ d ∈ ds, Fl d) : Cmp (.tup ds) := by
  obtain ⟨ps, b1, b2, b3, b4⟩ := fl_all h
  exact ⟨.tuple ps, by simp [D.pd, b1], shaped_of (by simpa [PyData.canLay0] using b2) (by simp [PyData.depth, b3])⟩
theorem cmp_lst {ds : List D} (h : ∀ d ∈ ds, Fl d) : Cmp (.lst ds) := by
  obtain ⟨ps, b1, b2, b3, b4⟩ := fl_all h
  exact ⟨.list ps, by simp [D.pd, b1], shaped_of (by simpa [PyData.canLay0] using b2) (by simp [PyData.depth, b3])⟩
/-- [..] == [] -/
theorem eq_nil (ds : List D) : eqT (.lst ds) (.lst []) = some ds.isEmpty := by
  cases ds with
  | nil =>
    have e2 : D.pd (.lst []) = some (.list []) := by simp [D.pd, D.pdL]
    unfold eqT
    rw [if_neg (by decide), e2]
    rfl
  | cons d ds =>
    unfold eqT
    rw [if_pos (by simp [lenNe, lstOf])]
    rfl
theorem l_is_name_eq (d : D) (h : IH) (hd : Tyd d) (hl : ∀ x, d = .str x → x.length ≤ 1000) : d_l_is_name [d] h = .ok (.bl (nameB d)) h := by
  refine runB_rt rfl ?_
  unfold F_l_is_name
  have a := name_test (h := h) hd hl (ρ := startE 2 [d]) rfl
  cases d with
  | str x =>
    have hx1 := hl x rfl
    cases hb : lenB x with
    | false =>
      have a' : _ = Res.ok true h := a.trans (by show Res.ok (!lenB x) h = _; rw [hb]; rfl)
      rw [seq_take a' (ret_ok eCst_ok)]
      show _ = SR.rt (.bl (lenB x && _)) h
      rw [hb]
      rfl
    | true =>
      have a' : _ = Res.ok false h := a.trans (by show Res.ok (!lenB x) h = _; rw [hb]; rfl)
      rw [seq_skip a']
      refine ret_ok ?_
      show _ = Res.ok (D.bl (lenB x && x.cps.toList.all lowB)) h
      rw [hb, Bool.true_and, ← chrs_all]
      have e1 : mLc (iSeq (eVar 0)) [1] (tgN 1) (tNt (tst (eChain leP leP (eCst (.str "a")) (eVar 1) (eCst (.str "z"))))) (eVar 1) (startE 2 [D.str x]) h = .ok (((chrs x).filter fun d => !lowB (sgn d)).map id) h := by
        refine mLc_filter _ _ (fun d => [some (.val (.str x)), some (.val d)]) (iSeq_ok (eVar_ok rfl) rfl) (fun d _ => rfl) (fun d hd => ?_) fun d _ _ => eVar_ok rfl
        obtain ⟨c, hc, rfl⟩ := List.mem_map.mp hd
        exact tNt_ok (tst_ok (low_chain rfl))
      refine e2_ok (fz_ok (siz_ok e1 ?_)) (fz_ok (siz_ok aNil_ok)) ?_
      · rw [List.length_map]
        have := List.length_filter_le (fun d => !lowB (sgn d)) (chrs x)
        rw [chrs_len] at this
        omega
      · show (eqT (.lst _) (.lst [])).map D.bl = _
        rw [List.map_id, eq_nil]
        show some (D.bl _) = some (D.bl _)
        congr 2
        rw [Bool.eq_iff_iff, List.isEmpty_iff, List.filter_eq_nil_iff, List.all_eq_true]
        simp
  | _ => first | exact hd.elim | (rw [seq_take a (ret_ok eCst_ok)]; rfl)
/-! ### several names -/
/-- an item: its type is known, texts are not long -/
def Itm (d : D) : Prop := Tyd d ∧ ∀ x, d = .str x → x.length ≤ 1000
def namesB : D → Bool
  | .tup ds => decide (ds.length ≤ 2) && ds.all nameB
  | _ => false
/-- a value: of items -/
def Val (d : D) : Prop := Itm d ∧ ∀ ds, d = .tup ds → ds.length ≤ 1000 ∧ ∀ x ∈ ds, Itm x
theorem len_tup {ds : List D} {ρ : En} {h : IH} {i : Nat} (hi : slot ρ i = some (.tup ds)) : eN lenP (aCons (eVar i) aNil) ρ h = .ok (.int ds.length) h := eN_ok (aCons_ok (eVar_ok hi) aNil_ok) rfl
theorem all_names {ρ : En} {h : IH} {ds : List D} {g : En → M (List D)} {vs : List Nat} {i : Nat} (e : g ρ h = .ok ds h) (hs : ∀ d ∈ ds, slot ((wipeE ρ vs).set i (some (.val d))) i = some d) (hd : ∀ d ∈ ds, Itm d) (hl : ds.length ≤ 100000) : eN allP (aCons (eFz (sizM (mLc g vs (tgN i) tYs (eCallK 1 0 bdId d_p_is_name (aCons (eVar i) aNil) aNil)))) aNil) ρ h = .ok (.bl (ds.all nameB)) h :=
  all_ok nameB (siz_ok (mLc_map _ e fun d hm => eCallK_ok (aCons_ok (eVar_ok (hs d hm)) aNil_ok) aNil_ok ⟨rfl, rfl⟩ rfl (is_name_eq d h (hd d hm).1 (hd d hm).2)) (by rw [List.length_map]; exact hl))
theorem are_names_eq (d : D) (h : IH) (hd : Val d) : d_p_are_names [d] h = .ok (.bl (namesB d)) h := by
  refine runB_rt rfl ?_
  unfold F_p_are_names
  have a : eN (isiP isiT) (aCons (eVar 0) (aCons (eCst (.ty "tuple")) aNil)) (startE 2 [d]) h = .ok (.bl (isTupD d)) h := eN_ok (aCons_ok (eVar_ok rfl) (aCons_ok eCst_ok aNil_ok)) (isi_tup hd.1.1)
  refine ret_ok ?_
  by_cases ht : ∃ ds, d = .tup ds
  · obtain ⟨ds, rfl⟩ := ht
    obtain ⟨hl, hi⟩ := hd.2 ds rfl
    refine eAn_t a (eAn_b (e2_ok (len_tup rfl) eCst_ok ?_) fun _ => all_names (iSeq_ok (eVar_ok rfl) rfl) (fun _ _ => rfl) hi (by omega))
    show some (D.bl (decide ((ds.length : Int) ≤ 2))) = some (D.bl (decide (ds.length ≤ 2)))
    congr 2
    exact decide_eq_decide.mpr (by omega)
  · have e : isTupD d = false ∧ namesB d = false := by
      cases d <;> first | exact ⟨rfl, rfl⟩ | exact absurd ⟨_, rfl⟩ ht
    rw [e.1] at a
    rw [e.2]
    exact eAn_f a
/-- [x for x in it if not _law_is_name(x)] == [] -/
theorem no_other {ρ : En} {h : IH} {ds : List D} {g : En → M (List D)} {vs : List Nat} {i : Nat} (e : g ρ h = .ok ds h) (hs : ∀ d ∈ ds, slot ((wipeE ρ vs).set i (some (.val d))) i = some d) (hd : ∀ d ∈ ds, Itm d) (hl : ds.length ≤ 100000) : e2 eqP (eFz (sizM (mLc g vs (tgN i) (tNt (tst (eCallK 1 0 bdId d_l_is_name (aCons (eVar i) aNil) aNil))) (eVar i)))) (eFz (sizM aNil)) ρ h = .ok (.bl (ds.all nameB)) h := by
  have e1 : mLc g vs (tgN i) (tNt (tst (eCallK 1 0 bdId d_l_is_name (aCons (eVar i) aNil) aNil))) (eVar i) ρ h = .ok ((ds.filter fun d => !nameB d).map id) h :=
    mLc_filter _ _ (fun d => (wipeE ρ vs).set i (some (.val d))) e (fun _ _ => rfl) (fun d hm => tNt_ok (tst_ok (eCallK_ok (aCons_ok (eVar_ok (hs d hm)) aNil_ok) aNil_ok ⟨rfl, rfl⟩ rfl (l_is_name_eq d h (hd d hm).1 (hd d hm).2)))) fun d hm _ => eVar_ok (hs d hm)
  refine e2_ok (fz_ok (siz_ok e1 ?_)) (fz_ok (siz_ok aNil_ok)) ?_
  · rw [List.length_map]
    exact Nat.le_trans (List.length_filter_le _ _) hl
  · show (eqT (.lst _) (.lst [])).map D.bl = _
    rw [List.map_id, eq_nil]
    show some (D.bl _) = some (D.bl _)
    congr 2
    rw [Bool.eq_iff_iff, List.isEmpty_iff, List.filter_eq_nil_iff, List.all_eq_true]
    simp
theorem l_are_names_eq (d : D) (h : IH) (hd : Val d) : d_l_are_names [d] h = .ok (.bl (namesB d)) h := by
  refine runB_rt rfl ?_
  unfold F_l_are_names
  have a : eN (isiP isiT) (aCons (eVar 0) (aCons (eCst (.ty "tuple")) aNil)) (startE 2 [d]) h = .ok (.bl (isTupD d)) h := eN_ok (aCons_ok (eVar_ok rfl) (aCons_ok eCst_ok aNil_ok)) (isi_tup hd.1.1)
  refine ret_ok ?_
  by_cases ht : ∃ ds, d = .tup ds
  · obtain ⟨ds, rfl⟩ := ht
    obtain ⟨hl, hi⟩ := hd.2 ds rfl
    refine eAn_t a (eAn_b (e2_ok (len_tup rfl) eCst_ok ?_) fun _ => no_other (iSeq_ok (eVar_ok rfl) rfl) (fun _ _ => rfl) hi (by omega))
    show some (D.bl (decide ((ds.length : Int) < 3))) = some (D.bl (decide (ds.length ≤ 2)))
    congr 2
    exact decide_eq_decide.mpr (by omega)
  · have e : isTupD d = false ∧ namesB d = false := by
      cases d <;> first | exact ⟨rfl, rfl⟩ | exact absurd ⟨_, rfl⟩ ht
    rw [e.1] at a
    rw [e.2]
    exact eAn_f a
end WR.K02
set_option Elab.async false
set_option linter.all false
set_option autoImplicit false
set_option maxRecDepth 100000
set_option maxHeartbeats 4000000
namespace WR.K02
open PySem PySem.Spec PyProof.Rows L2
/-! ### lists of texts -/
theorem pd_strs : ∀ xs : List Str, D.pdL (xs.map D.str) = some (xs.map PyData.str)
  | [] => by simp [D.pdL]
  | x :: xs => by simp [D.pdL, D.pd, pd_strs xs]
theorem lay_strs : ∀ {xs : List Str}, (∀ x ∈ xs, PyData.strOk x = true) → PyData.canLayAll0 (xs.map PyData.str) = true
  | [], _ => by simp [PyData.canLayAll0]
  | x :: xs, h => by
    have e := lay_strs (xs := xs) fun y hy => h y (by simp [hy])
    simp only [List.map_cons, PyData.canLayAll0, PyData.canLay0, h x (by simp), e, Bool.and_self]
theorem depth_strs : ∀ xs : List Str, PyData.depthAll (xs.map PyData.str) = 0
  | [] => by simp [PyData.depthAll]
  | x :: xs => by simp [PyData.depthAll, PyData.depth, depth_strs xs]
theorem eqv_strs : ∀ xs ys : List Str, PyData.eqvAll (xs.map PyData.str) (ys.map PyData.str) = decide (xs = ys)
  | [], [] => by simp [PyData.eqvAll]
  | [], y :: ys => by simp [PyData.eqvAll]
  | x :: xs, [] => by simp [PyData.eqvAll]
  | x :: xs, y :: ys => by
    simp only [List.map_cons, PyData.eqvAll, PyData.eqv, eqv_strs xs ys]
    by_cases h : x = y
    · subst h
      simp
    · have hb : (x == y) = false := beq_eq_false_iff_ne.mpr h
      simp [h, hb]
theorem shaped_l {xs : List Str} (h : ∀ x ∈ xs, PyData.strOk x = true) : shp (.list (xs.map PyData.str)) = true := shaped_of (by simpa [PyData.canLay0] using lay_strs h) (by simp [PyData.depth, depth_strs])
theorem shaped_t {xs : List Str} (h : ∀ x ∈ xs, PyData.strOk x = true) : shp (.tuple (xs.map PyData.str)) = true := shaped_of (by simpa [PyData.canLay0] using lay_strs h) (by simp [PyData.depth, depth_strs])
theorem eq_lists {xs ys : List Str} (hx : ∀ x ∈ xs, PyData.strOk x = true) (hy : ∀ x ∈ ys, PyData.strOk x = true) : eqT (.lst (xs.map D.str)) (.lst (ys.map D.str)) = some (decide (xs = ys)) := by
  unfold eqT
  split
  · rename_i hl
    have : xs ≠ ys := fun e => by
      subst e
      simp [lenNe, lstOf] at hl
    rw [decide_eq_false this]
  · have e1 : ∀ zs : List Str, D.pd (.lst (zs.map D.str)) = some (.list (zs.map PyData.str)) := fun zs => by simp [D.pd, pd_strs]
    rw [e1, e1]
    dsimp only
    rw [if_pos ⟨shaped_l hx, shaped_l hy⟩]
    simp only [PyData.eqv, eqv_strs]
theorem eq_tups {xs ys : List Str} (hx : ∀ x ∈ xs, PyData.strOk x = true) (hy : ∀ x ∈ ys, PyData.strOk x = true) : eqT (.tup (xs.map D.str)) (.tup (ys.map D.str)) = some (decide (xs = ys)) := by
  unfold eqT
  have e1 : ∀ zs : List Str, D.pd (.tup (zs.map D.str)) = some (.tuple (zs.map PyData.str)) := fun zs => by simp [D.pd, pd_strs]
  rw [if_neg (by simp [lenNe, lstOf]), e1, e1]
  dsimp only
  rw [if_pos ⟨shaped_t hx, shaped_t hy⟩]
  simp only [PyData.eqv, eqv_strs]
theorem any_strs (x : Str) : ∀ ys : List Str, ((ys.map PyData.str).any fun q => PyData.eqv q (.str x)) = decide (x ∈ ys)
  | [] => by simp
  | y :: ys => by
    simp only [List.map_cons, List.any_cons, any_strs x ys, PyData.eqv]
    by_cases h : y = x
    · subst h
      simp
    · have hb : (y == x) = false := beq_eq_false_iff_ne.mpr h
      have h' : ¬ x = y := fun e => h e.symm
      simp [hb, h']
theorem in_tup {x : Str} {ys : List Str} (hx : PyData.strOk x = true) (hy : ∀ x ∈ ys, PyData.strOk x = true) : inT (.str x) (.tup (ys.map D.str)) = some (decide (x ∈ ys)) := by
  have e1 : D.pd (.tup (ys.map D.str)) = some (.tuple (ys.map PyData.str)) := by simp [D.pd, pd_strs]
  have e2 : D.pd (.str x) = some (.str x) := by simp [D.pd]
  have e3 : shp (.str x) = true := shaped_of (by simpa [PyData.canLay0] using hx) (by simp [PyData.depth])
  show (match D.pd (.str x), D.pd (.tup (ys.map D.str)) with
    | some p, some (.list qs) => if shp p = true ∧ shp (.list qs) = true then some (qs.any fun z => PyData.eqv z p) else none
    | some p, some (.tuple qs) => if shp p = true ∧ shp (.tuple qs) = true then some (qs.any fun z => PyData.eqv z p) else none
    | _, _ => none) = _
  rw [e1, e2]
  dsimp only
  rw [if_pos ⟨e3, shaped_t hy⟩, any_strs]
/-- signs of names are fine -/
theorem nameS_ok {x : Str} (h : nameS x = true) : PyData.strOk x = true := by
  unfold nameS at h
  obtain ⟨_, h2⟩ := Bool.and_eq_true_iff.mp h
  unfold PyData.strOk
  rw [Array.all_eq_true_iff_forall_mem]
  intro c hc
  have := List.all_eq_true.mp h2 c (by simpa using hc)
  unfold lowB at this
  simp at this
  simp
  omega
/-! ### keys: in the order of the columns -/
theorem idx_ne {x c : Str} {cs : List Str} (h : x ≠ c) : (c :: cs).idxOf x = cs.idxOf x + 1 := by
  have hb : (c == x) = false := beq_eq_false_iff_ne.mpr (Ne.symm h)
  rw [List.idxOf_cons, hb]
  rfl
theorem idx_lt_of_nodup : ∀ {cs : List Str}, cs.Nodup → cs.Pairwise fun x y => cs.idxOf x < cs.idxOf y
  | [], _ => .nil
  | c :: cs, h => by
    obtain ⟨h1, h2⟩ := List.nodup_cons.mp h
    refine List.pairwise_cons.mpr ⟨fun y hy => ?_, ?_⟩
    · have : y ≠ c := fun e => h1 (e ▸ hy)
      rw [List.idxOf_cons_self, idx_ne this]
      omega
    · refine (idx_lt_of_nodup h2).imp_of_mem fun {x y} hx hy q => ?_
      have nx : x ≠ c := fun e => h1 (e ▸ hx)
      have ny : y ≠ c := fun e => h1 (e ▸ hy)
      rw [idx_ne nx, idx_ne ny]
      omega
/-- two lists that rise by a number, with the same members -/
theorem rise_eq (n : Str → Nat) : ∀ {xs ys : List Str}, xs.Pairwise (fun x y => n x < n y) → ys.Pairwise (fun x y => n x < n y) → (∀ z, z ∈ xs ↔ z ∈ ys) → xs = ys
  | [], [], _, _, _ => rfl
  | [], y :: ys, _, _, h => absurd ((h y).mpr (by simp)) (by simp)
  | x :: xs, [], _, _, h => absurd ((h x).mp (by simp)) (by simp)
  | x :: xs, y :: ys, hx, hy, h => by
    obtain ⟨hx1, hx2⟩ := List.pairwise_cons.mp hx
    obtain ⟨hy1, hy2⟩ := List.pairwise_cons.mp hy
    have e : x = y := by
      rcases List.mem_cons.mp ((h x).mp (by simp)) with e | e
      · exact e
      · rcases List.mem_cons.mp ((h y).mpr (by simp)) with e' | e'
        · exact e'.symm
        · have a := hy1 x e
          have b := hx1 y e'
          omega
    subst e
    refine congrArg (x :: ·) (rise_eq n hx2 hy2 fun z => ?_)
    have hz := h z
    constructor
    · intro q
      rcases List.mem_cons.mp (hz.mp (by simp [q])) with e | e
      · subst e
        have := hx1 z q
        omega
      · exact e
    · intro q
      rcases List.mem_cons.mp (hz.mpr (by simp [q])) with e | e
      · subst e
        have := hy1 z q
        omega
      · exact e
/-- picked in the order of the columns -/
def keyB (ps cs : List Str) : Bool := decide (ps = cs.filter fun c => decide (c ∈ ps))
theorem keyB_iff {ps cs : List Str} (nd : cs.Nodup) : keyB ps cs = true ↔ (∀ x ∈ ps, x ∈ cs) ∧ ps.Pairwise fun x y => cs.idxOf x < cs.idxOf y := by
  unfold keyB
  rw [decide_eq_true_iff]
  constructor
  · intro e
    have sub : ps.Sublist cs := by
      rw [e]
      exact List.filter_sublist
    exact ⟨fun x hx => sub.subset hx, (idx_lt_of_nodup nd).sublist sub⟩
  · rintro ⟨h1, h2⟩
    refine rise_eq (fun x => cs.idxOf x) h2 ((idx_lt_of_nodup nd).sublist List.filter_sublist) fun z => ?_
    rw [List.mem_filter, decide_eq_true_iff]
    exact ⟨fun q => ⟨h1 z q, q⟩, fun q => q.2⟩
end WR.K02
set_option Elab.async false
set_option linter.all false
set_option autoImplicit false
set_option maxRecDepth 100000
set_option maxHeartbeats 4000000
namespace WR.K02
open PySem PySem.Spec PyProof.Rows L2
def sOf : D → Str
  | .str x => x
  | _ => Str.empty
def strL (ds : List D) : List Str := ds.map sOf
theorem names_strs : ∀ {ds : List D}, ds.all nameB = true → ds = (strL ds).map D.str ∧ ∀ x ∈ strL ds, nameS x = true
  | [], _ => ⟨rfl, fun _ z => nomatch z⟩
  | d :: ds, h => by
    rw [List.all_cons, Bool.and_eq_true] at h
    obtain ⟨e, q⟩ := names_strs h.2
    cases d with
    | str x =>
      refine ⟨by show _ = D.str x :: (strL ds).map D.str; rw [← e], fun y hy => ?_⟩
      rcases List.mem_cons.mp hy with rfl | hy
      · exact h.1
      · exact q y hy
    | _ => exact absurd h.1 (by simp [nameB])
theorem strL_map (xs : List Str) : strL (xs.map D.str) = xs := by
  unfold strL
  rw [List.map_map]
  exact List.map_id xs
def isKeyB (t : D) (cs : List Str) : Bool := match t with
  | .tup ds => ds.all nameB && keyB (strL ds) cs
  | _ => false
theorem is_key_eq (d : D) (cs : List Str) (h : IH) (hd : Val d) (hc : ∀ x ∈ cs, nameS x = true) (hl : cs.length ≤ 1000) : d_p_is_key [d, .tup (cs.map D.str)] h = .ok (.bl (isKeyB d cs)) h := by
  refine runB_rt rfl ?_
  unfold F_p_is_key
  have a : eN (isiP isiT) (aCons (eVar 0) (aCons (eCst (.ty "tuple")) aNil)) (startE 4 [d, .tup (cs.map D.str)]) h = .ok (.bl (isTupD d)) h := eN_ok (aCons_ok (eVar_ok rfl) (aCons_ok eCst_ok aNil_ok)) (isi_tup hd.1.1)
  by_cases ht : ∃ ds, d = .tup ds
  · obtain ⟨ds, rfl⟩ := ht
    obtain ⟨hl2, hi⟩ := hd.2 ds rfl
    have b := all_names (ρ := startE 4 [.tup ds, .tup (cs.map D.str)]) (h := h) (g := iSeq (eVar 0)) (vs := [3]) (i := 3) (iSeq_ok (eVar_ok rfl) rfl) (fun _ _ => rfl) hi (by omega)
    have t := tOr_b (tNt_ok (tst_ok a)) fun _ => tNt_ok (tst_ok b)
    show _ = SR.rt (.bl (ds.all nameB && keyB (strL ds) cs)) h
    cases hn : ds.all nameB with
    | false =>
      rw [hn] at t
      rw [seq_take t (ret_ok eCst_ok)]
      rfl
    | true =>
      rw [hn] at t
      rw [seq_skip t]
      obtain ⟨es, hs⟩ := names_strs hn
      have okp : ∀ x ∈ strL ds, PyData.strOk x = true := fun x hx => nameS_ok (hs x hx)
      have okc : ∀ x ∈ cs, PyData.strOk x = true := fun x hx => nameS_ok (hc x hx)
      have e1 : mLc (iSeq (eVar 1)) [2] (tgN 2) (tst (e2 inP (eVar 2) (eVar 0))) (eVar 2) (startE 4 [.tup ds, .tup (cs.map D.str)]) h = .ok (((cs.map D.str).filter fun d => decide (sOf d ∈ strL ds)).map id) h := by
        refine mLc_filter _ _ (fun d => [some (.val (.tup ds)), some (.val (.tup (cs.map D.str))), some (.val d), none]) (iSeq_ok (eVar_ok rfl) rfl) (fun _ _ => rfl) (fun d hm => ?_) fun _ _ _ => eVar_ok rfl
        obtain ⟨c, hc', rfl⟩ := List.mem_map.mp hm
        refine tst_ok (e2_ok (eVar_ok rfl) (eVar_ok rfl) ?_)
        show (inT (.str c) (.tup ds)).map D.bl = _
        rw [es, in_tup (okc c hc') okp, ← es]
        rfl
      have e2' : (((cs.map D.str).filter fun d => decide (sOf d ∈ strL ds)).map id) = (cs.filter fun c => decide (c ∈ strL ds)).map D.str := by
        rw [List.map_id, List.filter_map]
        rfl
      rw [e2'] at e1
      refine ret_ok (e2_ok (fz_ok (list_ok (aCons_ok (eVar_ok rfl) aNil_ok) rfl)) (fz_ok (siz_ok e1 ?_)) ?_)
      · rw [List.length_map]
        exact Nat.le_trans (List.length_filter_le _ _) (by omega)
      · show (eqT (.lst ds) (.lst _)).map D.bl = _
        rw [es, eq_lists okp (fun x hx => okc x (List.mem_filter.mp hx).1), strL_map]
        rfl
  · have e : isTupD d = false ∧ isKeyB d cs = false := by
      cases d <;> first | exact ⟨rfl, rfl⟩ | exact absurd ⟨_, rfl⟩ ht
    rw [e.1] at a
    rw [e.2, seq_take (tOr_t (tNt_ok (tst_ok a))) (ret_ok eCst_ok)]
/-! _law_key_right -/
theorem strsOf_map : ∀ xs : List Str, strsOf (xs.map D.str) = some xs
  | [] => rfl
  | x :: xs => by
    show (strsOf (xs.map D.str)).map (x :: ·) = _
    rw [strsOf_map xs]
    rfl
def riseB (cs : List Str) : List D → Int → Bool
  | [], _ => true
  | .str x :: ds, at_ => decide (x ∈ cs) && decide (at_ < (cs.idxOf x : Nat)) && riseB cs ds (cs.idxOf x : Nat)
  | _ :: _, _ => false
theorem idx_ok {ρ : En} {h : IH} {i j : Nat} {cs : List Str} {x : Str} (h1 : slot ρ i = some (.tup (cs.map D.str))) (h2 : slot ρ j = some (.str x)) (hm : x ∈ cs) : eIdx (eVar i) (eVar j) ρ h = .ok (.int (cs.idxOf x : Nat)) h := by
  unfold eIdx
  rw [bind_ok (eVar_ok h1), bind_ok (of_ok (rfl : asT (.tup (cs.map D.str)) = some (cs.map D.str))), bind_ok (eVar_ok h2)]
  refine of_ok ?_
  unfold idxT
  rw [strsOf_map]
  dsimp only
  rw [if_pos hm]
abbrev keyLoop : MS := sSeq (sIf (tOr (tNt (tst (eN (isiP isiT) (aCons (eVar 3) (aCons (eCst (.ty "str")) (aNil)))))) (tOr (tst (e2 notInP (eVar 3) (eVar 1))) (tst (e2 leP (eIdx (eVar 1) (eVar 3)) (eVar 2))))) (sRet (eCst (.bl false))) (sNil)) (sAsg (eIdx (eVar 1) (eVar 3)) (tgN 2))
theorem key_loop {cs : List Str} (hc : ∀ x ∈ cs, PyData.strOk x = true) (h : IH) (d0 : Option Sl) : ∀ (ds : List D), (∀ d ∈ ds, Itm d ∧ ∀ x, d = .str x → PyData.strOk x = true) → ∀ (at_ : Int) (v : Option Sl), (∃ v', loopS (tgN 3) keyLoop ds [d0, some (.val (.tup (cs.map D.str))), some (.val (.int at_)), v] h = .nx v' h ∧ riseB cs ds at_ = true) ∨ (loopS (tgN 3) keyLoop ds [d0, some (.val (.tup (cs.map D.str))), some (.val (.int at_)), v] h = .rt (.bl false) h ∧ riseB cs ds at_ = false)
  | [], _, at_, v => .inl ⟨_, rfl, rfl⟩
  | d :: ds, hd, at_, v => by
    obtain ⟨hi, hs⟩ := hd d (by simp)
    have a : tNt (tst (eN (isiP isiT) (aCons (eVar 3) (aCons (eCst (.ty "str")) aNil)))) [d0, some (.val (.tup (cs.map D.str))), some (.val (.int at_)), some (.val d)] h = .ok (!isStrD d) h := tNt_ok (tst_ok (eN_ok (aCons_ok (eVar_ok rfl) (aCons_ok eCst_ok aNil_ok)) (isi_str hi.1)))
    by_cases ht : ∃ x, d = .str x
    · obtain ⟨x, rfl⟩ := ht
      have ox := hs x rfl
      have b : tst (e2 notInP (eVar 3) (eVar 1)) [d0, some (.val (.tup (cs.map D.str))), some (.val (.int at_)), some (.val (.str x))] h = .ok (!decide (x ∈ cs)) h := by
        refine tst_ok (e2_ok (eVar_ok rfl) (eVar_ok rfl) ?_)
        show (inT (.str x) (.tup (cs.map D.str))).map (fun b => D.bl (!b)) = _
        rw [in_tup ox hc]
        rfl
      by_cases hm : x ∈ cs
      · rw [decide_eq_true hm] at b
        have c : tst (e2 leP (eIdx (eVar 1) (eVar 3)) (eVar 2)) [d0, some (.val (.tup (cs.map D.str))), some (.val (.int at_)), some (.val (.str x))] h = .ok (decide (((cs.idxOf x : Nat) : Int) ≤ at_)) h := tst_ok (e2_ok (idx_ok rfl rfl hm) (eVar_ok rfl) rfl)
        by_cases hl : ((cs.idxOf x : Nat) : Int) ≤ at_
        · rw [decide_eq_true hl] at c
          refine .inr ⟨loop_rt rfl (seq_take (tOr_f a (tOr_f b c)) (ret_ok eCst_ok)), ?_⟩
          show (decide (x ∈ cs) && decide (at_ < (cs.idxOf x : Nat)) && riseB cs ds (cs.idxOf x : Nat)) = false
          rw [decide_eq_false (show ¬ at_ < ((cs.idxOf x : Nat) : Int) by omega)]
          simp
        · rw [decide_eq_false hl] at c
          have st : keyLoop [d0, some (.val (.tup (cs.map D.str))), some (.val (.int at_)), some (.val (.str x))] h = .nx [d0, some (.val (.tup (cs.map D.str))), some (.val (.int (cs.idxOf x : Nat))), some (.val (.str x))] h := by
            refine (seq_skip (tOr_f a (tOr_f b c))).trans ?_
            exact asg_ok (idx_ok rfl rfl hm) rfl
          have e : riseB cs (.str x :: ds) at_ = riseB cs ds (cs.idxOf x : Nat) := by
            show (decide (x ∈ cs) && decide (at_ < (cs.idxOf x : Nat)) && riseB cs ds (cs.idxOf x : Nat)) = _
            rw [decide_eq_true hm, decide_eq_true (show at_ < ((cs.idxOf x : Nat) : Int) by omega)]
            rfl
          rw [loop_nx rfl st, e]
          exact key_loop hc h d0 ds (fun d hd' => hd d (by simp [hd'])) _ _
      · rw [decide_eq_false hm] at b
        refine .inr ⟨loop_rt rfl (seq_take (tOr_f a (tOr_t b)) (ret_ok eCst_ok)), ?_⟩
        show (decide (x ∈ cs) && decide (at_ < (cs.idxOf x : Nat)) && riseB cs ds (cs.idxOf x : Nat)) = false
        rw [decide_eq_false hm]
        rfl
    · have e : isStrD d = false ∧ riseB cs (d :: ds) at_ = false := by
        cases d <;> first | exact ⟨rfl, rfl⟩ | exact absurd ⟨_, rfl⟩ ht
      rw [e.1] at a
      exact .inr ⟨loop_rt rfl (seq_take (tOr_t a) (ret_ok eCst_ok)), e.2⟩
def keyRB (t : D) (cs : List Str) : Bool := match t with
  | .tup ds => riseB cs ds (-1)
  | _ => false
theorem l_key_right_eq (d : D) (cs : List Str) (h : IH) (hd : Val d) (hs : ∀ ds, d = .tup ds → ∀ y ∈ ds, ∀ x, y = .str x → PyData.strOk x = true) (hc : ∀ x ∈ cs, nameS x = true) : d_l_key_right [d, .tup (cs.map D.str)] h = .ok (.bl (keyRB d cs)) h := by
  refine runB_rt rfl ?_
  unfold F_l_key_right
  have a : tNt (tst (eN (isiP isiT) (aCons (eVar 0) (aCons (eCst (.ty "tuple")) aNil)))) (startE 4 [d, .tup (cs.map D.str)]) h = .ok (!isTupD d) h := tNt_ok (tst_ok (eN_ok (aCons_ok (eVar_ok rfl) (aCons_ok eCst_ok aNil_ok)) (isi_tup hd.1.1)))
  by_cases ht : ∃ ds, d = .tup ds
  · obtain ⟨ds, rfl⟩ := ht
    obtain ⟨hl2, hi⟩ := hd.2 ds rfl
    rw [seq_skip a]
    have st : sAsg (e1 negP (eCst (.int 1))) (tgN 2) (startE 4 [D.tup ds, .tup (cs.map D.str)]) h = .nx [some (.val (.tup ds)), some (.val (.tup (cs.map D.str))), some (.val (.int (-1))), none] h := asg_ok (e1_ok eCst_ok rfl) rfl
    rw [seq_nx st]
    have fo : sFor (iSeq (eVar 0)) (tgN 3) keyLoop [some (.val (.tup ds)), some (.val (.tup (cs.map D.str))), some (.val (.int (-1))), none] h = loopS (tgN 3) keyLoop ds [some (.val (.tup ds)), some (.val (.tup (cs.map D.str))), some (.val (.int (-1))), none] h := for_ok (iSeq_ok (eVar_ok rfl) rfl)
    rcases key_loop (fun x hx => nameS_ok (hc x hx)) h (some (.val (.tup ds))) ds (fun d hm => ⟨hi d hm, hs ds rfl d hm⟩) (-1) none with ⟨v', e1, e2⟩ | ⟨e1, e2⟩
    · rw [seq_nx (fo.trans e1)]
      show _ = SR.rt (.bl (riseB cs ds (-1))) h
      rw [e2]
      exact ret_ok eCst_ok
    · rw [seq_rt (fo.trans e1)]
      show _ = SR.rt (.bl (riseB cs ds (-1))) h
      rw [e2]
  · have e : isTupD d = false ∧ keyRB d cs = false := by
      cases d <;> first | exact ⟨rfl, rfl⟩ | exact absurd ⟨_, rfl⟩ ht
    rw [e.1] at a
    rw [e.2, seq_take a (ret_ok eCst_ok)]
theorem rise_iff (cs : List Str) : ∀ (ds : List D) (at_ : Int), riseB cs ds at_ = true ↔ ∃ xs : List Str, ds = xs.map D.str ∧ (∀ x ∈ xs, x ∈ cs ∧ at_ < ((cs.idxOf x : Nat) : Int)) ∧ xs.Pairwise fun x y => cs.idxOf x < cs.idxOf y
  | [], at_ => ⟨fun _ => ⟨[], rfl, (fun _ z => nomatch z), List.Pairwise.nil⟩, fun _ => rfl⟩
  | d :: ds, at_ => by
    by_cases ht : ∃ x, d = .str x
    · obtain ⟨x, rfl⟩ := ht
      show (decide (x ∈ cs) && decide (at_ < (cs.idxOf x : Nat)) && riseB cs ds (cs.idxOf x : Nat)) = true ↔ _
      rw [Bool.and_eq_true, Bool.and_eq_true, decide_eq_true_iff, decide_eq_true_iff, rise_iff cs ds]
      constructor
      · rintro ⟨⟨h1, h2⟩, xs, rfl, h3, h4⟩
        refine ⟨x :: xs, rfl, fun y hy => ?_, List.pairwise_cons.mpr ⟨fun y hy => ?_, h4⟩⟩
        · rcases List.mem_cons.mp hy with rfl | hy
          · exact ⟨h1, h2⟩
          · exact ⟨(h3 y hy).1, by have := (h3 y hy).2; omega⟩
        · have := (h3 y hy).2
          omega
      · rintro ⟨xs, e, h3, h4⟩
        cases xs with
        | nil => cases e
        | cons y xs =>
          injection e with e1 e2
          injection e1 with e1
          subst e1
          obtain ⟨p1, p2⟩ := List.pairwise_cons.mp h4
          refine ⟨h3 x (by simp), xs, e2, fun z hz => ⟨(h3 z (by simp [hz])).1, ?_⟩, p2⟩
          have := p1 z hz
          omega
    · have e : riseB cs (d :: ds) at_ = false := by
        cases d <;> first | rfl | exact absurd ⟨_, rfl⟩ ht
      rw [e]
      constructor
      · intro z
        cases z
      · rintro ⟨xs, e, _⟩
        cases xs with
        | nil => cases e
        | cons y xs =>
          injection e with e1 e2
          exact absurd ⟨y, e1⟩ ht
theorem key_same (d : D) {cs : List Str} (nd : cs.Nodup) (hc : ∀ x ∈ cs, nameS x = true) : keyRB d cs = isKeyB d cs := by
  by_cases ht : ∃ ds, d = .tup ds
  · obtain ⟨ds, rfl⟩ := ht
    show riseB cs ds (-1) = (ds.all nameB && keyB (strL ds) cs)
    rw [Bool.eq_iff_iff, rise_iff, Bool.and_eq_true, keyB_iff nd]
    constructor
    · rintro ⟨xs, rfl, h1, h2⟩
      rw [strL_map]
      refine ⟨List.all_eq_true.mpr fun d hd => ?_, fun x hx => (h1 x hx).1, h2⟩
      obtain ⟨x, hx, rfl⟩ := List.mem_map.mp hd
      exact hc x (h1 x hx).1
    · rintro ⟨h1, h2, h3⟩
      obtain ⟨e, _⟩ := names_strs h1
      exact ⟨strL ds, e, fun x hx => ⟨h2 x hx, by omega⟩, h3⟩
  · cases d <;> first | rfl | exact absurd ⟨_, rfl⟩ ht
end WR.K02
set_option Elab.async false
set_option linter.all false
set_option autoImplicit false
set_option maxRecDepth 100000
set_option maxHeartbeats 4000000
namespace WR.K02
open PySem PySem.Spec PyProof.Rows L2
/-! ### how many different texts -/
theorem met_of (val : Nat → Str) : ∀ (n : Nat) (x : Str), x ∈ met val n ↔ ∃ i, i < n ∧ val i = x
  | 0, x => ⟨(fun z => nomatch z), (fun ⟨_, h, _⟩ => absurd h (Nat.not_lt_zero _))⟩
  | n + 1, x => by
    have h := met_mem val n x
    have h' : x ∈ met val (n + 1) ↔ (x ∈ met val n ∨ x = val n) := by
      constructor
      · intro q
        rw [decide_eq_true q] at h
        have := h.symm
        simpa using this
      · intro q
        have : (decide (x ∈ met val n) || decide (x = val n)) = true := by simpa using q
        rw [this] at h
        exact of_decide_eq_true h
    rw [h', met_of val n x]
    constructor
    · rintro (⟨i, h1, h2⟩ | rfl)
      · exact ⟨i, by omega, h2⟩
      · exact ⟨n, by omega, rfl⟩
    · rintro ⟨i, h1, h2⟩
      by_cases e : i = n
      · subst e
        exact .inr h2.symm
      · exact .inl ⟨i, by omega, h2⟩
theorem met_full (val : Nat → Str) : ∀ n, (met val n).length = n ↔ ∀ i j, i < j → j < n → val i ≠ val j
  | 0 => ⟨fun _ _ _ _ h => absurd h (Nat.not_lt_zero _), fun _ => rfl⟩
  | n + 1 => by
    have hl := met_len val n
    have hle := met_le val n
    by_cases hm : val n ∈ met val n
    · rw [decide_eq_true hm, if_pos rfl] at hl
      constructor
      · intro q
        omega
      · intro q
        obtain ⟨i, h1, h2⟩ := (met_of val n _).mp hm
        exact absurd h2 (q i n h1 (by omega))
    · rw [decide_eq_false hm, if_neg (by decide)] at hl
      rw [hl]
      have ih := met_full val n
      constructor
      · intro q i j h1 h2
        by_cases e : j = n
        · subst e
          intro e2
          exact hm ((met_of val j _).mpr ⟨i, h1, e2⟩)
        · exact ih.mp (by omega) i j h1 (by omega)
      · intro q
        rw [ih.mpr fun i j h1 h2 => q i j h1 (by omega)]
theorem setN_le (xs : List Str) : setN xs ≤ xs.length := met_le _ _
theorem setN_iff (xs : List Str) : setN xs = xs.length ↔ xs.Nodup := by
  unfold setN
  rw [met_full]
  have g : ∀ i (h : i < xs.length), xs.getD i Str.empty = xs[i] := fun i h => by rw [List.getD_eq_getElem?_getD, List.getElem?_eq_getElem h]; rfl
  constructor
  · intro h
    refine List.pairwise_iff_getElem.mpr fun i j hi hj hij e => ?_
    refine h i j hij hj ?_
    rw [g i hi, g j hj]
    exact e
  · intro h i j h1 h2 e
    have := List.pairwise_iff_getElem.mp h i j (by omega) h2 h1
    rw [g i (by omega), g j h2] at e
    exact this e
/-! ### what makes a table -/
def tupL : D → List D
  | .tup ds => ds
  | _ => []
def colsOf (l f : D) : List Str := strL (tupL l) ++ strL (tupL f)
def colsB (cs : List Str) : Bool := !cs.isEmpty && decide cs.Nodup
def rightB (t l f p : D) : Bool := nameB t && namesB l && namesB f && (colsB (colsOf l f) && isKeyB p (colsOf l f))
theorem names_tup {d : D} (h : namesB d = true) : ∃ xs : List Str, d = .tup (xs.map D.str) ∧ (∀ x ∈ xs, nameS x = true) ∧ xs.length ≤ 2 ∧ strL (tupL d) = xs := by
  cases d with
  | tup ds =>
    have h' : (decide (ds.length ≤ 2) && ds.all nameB) = true := h
    obtain ⟨h1, h2⟩ := Bool.and_eq_true_iff.mp h'
    obtain ⟨e, q⟩ := names_strs h2
    refine ⟨strL ds, by rw [← e], q, ?_, rfl⟩
    unfold strL
    rw [List.length_map]
    exact of_decide_eq_true h1
  | _ => exact absurd h (by simp [namesB])
end WR.K02
set_option Elab.async false
set_option linter.all false
set_option autoImplicit false
set_option maxRecDepth 100000
set_option maxHeartbeats 4000000
namespace WR.K02
open PySem PySem.Spec PyProof.Rows L2
/-- texts within are fine -/
def StrsOk (d : D) : Prop := ∀ ds, d = .tup ds → ∀ y ∈ ds, ∀ x, y = .str x → PyData.strOk x = true
/-- the first test -/
theorem set_ok {ρ : En} {h : IH} {i : Nat} {cs : List Str} (hi : slot ρ i = some (.tup (cs.map D.str))) (hl : cs.length ≤ 4000) : eLenSet (eVar i) ρ h = .ok (.int (setN cs : Nat)) h := by
  refine e1_ok (eVar_ok hi) ?_
  show (match strsOf (cs.map D.str) with
    | some xs => if xs.length ≤ 4000 then some (D.int (setN xs : Nat)) else none
    | none => none) = _
  rw [strsOf_map]
  dsimp only
  rw [if_pos hl]
theorem nil_ok {ρ : En} {h : IH} {i : Nat} {cs : List Str} (hi : slot ρ i = some (.tup (cs.map D.str))) (hc : ∀ x ∈ cs, PyData.strOk x = true) : e2 eqP (eVar i) (eTup aNil) ρ h = .ok (.bl cs.isEmpty) h := by
  refine e2_ok (eVar_ok hi) (eTup_ok aNil_ok) ?_
  have e := eq_tups (xs := cs) (ys := []) hc (fun _ z => nomatch z)
  show (eqT (.tup (cs.map D.str)) (.tup [])).map D.bl = _
  rw [show (D.tup []) = .tup (([] : List Str).map D.str) from rfl, e]
  show some (D.bl _) = some (D.bl _)
  congr 2
  cases cs <;> simp
theorem eq_ints (i j : Int) : eqT (.int i) (.int j) = some (decide (i = j)) := by
  unfold eqT
  rw [if_neg (by simp [lenNe, lstOf])]
  have e : ∀ k : Int, D.pd (.int k) = some (.int k) := fun k => by simp [D.pd]
  have s : ∀ k : Int, shp (.int k) = true := fun k => shaped_of (by simp [PyData.canLay0]) (by simp [PyData.depth])
  rw [e, e]
  dsimp only
  rw [if_pos ⟨s i, s j⟩]
  simp only [PyData.eqv]
  congr 1
theorem l_right_eq (t l f p : D) (h : IH) (ht : Itm t) (hl : Val l) (hf : Val f) (hp : Val p) (hs : StrsOk p) : d_l_right [t, l, f, p] h = .ok (.bl (rightB t l f p)) h := by
  refine runB_rt rfl ?_
  unfold F_l_right
  have a : tNt (tst (eCallK 1 0 bdId d_l_is_name (aCons (eVar 0) aNil) aNil)) (startE 5 [t, l, f, p]) h = .ok (!nameB t) h := tNt_ok (tst_ok (eCallK_ok (aCons_ok (eVar_ok rfl) aNil_ok) aNil_ok ⟨rfl, rfl⟩ rfl (l_is_name_eq t h ht.1 ht.2)))
  have b : tNt (tst (eCallK 1 0 bdId d_l_are_names (aCons (eVar 1) aNil) aNil)) (startE 5 [t, l, f, p]) h = .ok (!namesB l) h := tNt_ok (tst_ok (eCallK_ok (aCons_ok (eVar_ok rfl) aNil_ok) aNil_ok ⟨rfl, rfl⟩ rfl (l_are_names_eq l h hl)))
  have c : tNt (tst (eCallK 1 0 bdId d_l_are_names (aCons (eVar 2) aNil) aNil)) (startE 5 [t, l, f, p]) h = .ok (!namesB f) h := tNt_ok (tst_ok (eCallK_ok (aCons_ok (eVar_ok rfl) aNil_ok) aNil_ok ⟨rfl, rfl⟩ rfl (l_are_names_eq f h hf)))
  have g := tOr_b a fun _ => tOr_b b fun _ => c
  cases hg : (nameB t && namesB l && namesB f) with
  | false =>
    have e : ((!nameB t) || ((!namesB l) || (!namesB f))) = true := by
      cases h1 : nameB t <;> cases h2 : namesB l <;> cases h3 : namesB f <;> simp [h1, h2, h3] at hg ⊢
    rw [e] at g
    rw [seq_take g (ret_ok eCst_ok)]
    unfold rightB
    rw [hg]
    rfl
  | true =>
    have hg' := hg
    rw [Bool.and_eq_true, Bool.and_eq_true] at hg'
    obtain ⟨⟨h1, h2⟩, h3⟩ := hg'
    rw [h1, h2, h3] at g
    rw [seq_skip g]
    obtain ⟨xs, rfl, nx, lx, ex⟩ := names_tup h2
    obtain ⟨ys, rfl, ny, ly, ey⟩ := names_tup h3
    have ec : colsOf (.tup (xs.map D.str)) (.tup (ys.map D.str)) = xs ++ ys := by
      unfold colsOf
      rw [ex, ey]
    have nc : ∀ x ∈ xs ++ ys, nameS x = true := fun x hx => (List.mem_append.mp hx).elim (nx x) (ny x)
    have lc : (xs ++ ys).length ≤ 4 := by rw [List.length_append]; omega
    have st : sAsg (e2 addP (eVar 1) (eVar 2)) (tgN 4) (startE 5 [t, .tup (xs.map D.str), .tup (ys.map D.str), p]) h = .nx [some (.val t), some (.val (.tup (xs.map D.str))), some (.val (.tup (ys.map D.str))), some (.val p), some (.val (.tup ((xs ++ ys).map D.str)))] h := by
      refine asg_ok (d := .tup ((xs ++ ys).map D.str)) (e2_ok (eVar_ok rfl) (eVar_ok rfl) ?_) rfl
      show (if (xs.map D.str).length + (ys.map D.str).length ≤ sizeLine then some (D.tup (xs.map D.str ++ ys.map D.str)) else none) = _
      rw [if_pos (by rw [List.length_map, List.length_map]; exact Nat.le_trans (show xs.length + ys.length ≤ 4 by omega) (by decide)), List.map_append]
    rw [seq_nx st]
    have q1 := tst_ok (nil_ok (ρ := [some (.val t), some (.val (.tup (xs.map D.str))), some (.val (.tup (ys.map D.str))), some (.val p), some (.val (.tup ((xs ++ ys).map D.str)))]) (h := h) (i := 4) (cs := xs ++ ys) rfl fun x hx => nameS_ok (nc x hx))
    have q2 : tst (e2 neP (eLenSet (eVar 4)) (eN lenP (aCons (eVar 4) aNil))) [some (.val t), some (.val (.tup (xs.map D.str))), some (.val (.tup (ys.map D.str))), some (.val p), some (.val (.tup ((xs ++ ys).map D.str)))] h = .ok (!decide (xs ++ ys).Nodup) h := by
      refine tst_ok (e2_ok (set_ok rfl (by omega)) (len_tup rfl) ?_)
      show (eqT (.int (setN (xs ++ ys) : Nat)) (.int (((xs ++ ys).map D.str).length : Nat))).map (fun b => D.bl (!b)) = _
      rw [List.length_map, eq_ints]
      show some (D.bl _) = some (D.bl _)
      congr 3
      exact decide_eq_decide.mpr ⟨fun e => (setN_iff _).mp (by omega), fun e => by rw [(setN_iff _).mpr e]⟩
    have q := tOr_b q1 fun _ => q2
    have er : rightB t (.tup (xs.map D.str)) (.tup (ys.map D.str)) p = (colsB (xs ++ ys) && isKeyB p (xs ++ ys)) := by
      unfold rightB
      rw [hg, ec]
      rfl
    rw [er]
    cases hb : colsB (xs ++ ys) with
    | false =>
      have e : ((xs ++ ys).isEmpty || !decide (xs ++ ys).Nodup) = true := by
        unfold colsB at hb
        cases h1 : (xs ++ ys).isEmpty <;> cases h2 : decide (xs ++ ys).Nodup <;> simp [h1, h2] at hb ⊢
      rw [e] at q
      rw [seq_take q (ret_ok eCst_ok)]
      rfl
    | true =>
      have e : ((xs ++ ys).isEmpty || !decide (xs ++ ys).Nodup) = false ∧ (xs ++ ys).Nodup := by
        unfold colsB at hb
        rw [Bool.and_eq_true] at hb
        refine ⟨?_, of_decide_eq_true hb.2⟩
        rw [hb.2]
        simpa using hb.1
      rw [e.1] at q
      rw [seq_skip q]
      refine ret_ok (eCallK_ok (aCons_ok (eVar_ok rfl) (aCons_ok (eVar_ok rfl) aNil_ok)) aNil_ok ⟨rfl, rfl⟩ rfl ?_)
      rw [l_key_right_eq p (xs ++ ys) h hp hs nc, key_same p e.2 nc]
      rfl
end WR.K02
set_option Elab.async false
set_option linter.all false
set_option autoImplicit false
set_option maxRecDepth 100000
set_option maxHeartbeats 4000000
namespace WR.K02
open PySem PySem.Spec PyProof.Rows L2
theorem seq_raise {t : En → M Bool} {F F2 G : MS} {ρ ρ1 : En} {h h1 h2 : IH} {c : Str} {fs : List (Str × D)} (e : t ρ h = .ok true h1) (e' : F ρ h1 = .ex c fs ρ1 h2) : sSeq (sIf t F F2) G ρ h = .ex c fs ρ1 h2 := seq_ex ((if_t e).trans e')
theorem slf_ok {ρ : En} {h h1 : IH} {i : Nat} {cs : List Str} {fn c : Str} {f : En → M D} {d : D} {fs : List (Str × D)} (e : f ρ h = .ok d h1) (es : slfS ρ i = some (c, fs)) (hc : c ∈ cs) (hl : fs.length < 1000) : sSlf i cs fn f ρ h = .nx (ρ.set i (some (.slf c (putD fn d fs)))) h1 := by
  unfold sSlf
  rw [on_ok e, es]
  dsimp only
  rw [if_pos ⟨hc, hl⟩]
theorem putD_lt {f : Str} {d : D} : ∀ {fs : List (Str × D)} {n : Nat}, fs.length < n → (putD f d fs).length < n + 1
  | [], n, h => by show 1 < n + 1; have : 0 < n := h; omega
  | (g, x) :: r, n, h => by
    have h' : r.length + 1 < n := h
    unfold putD
    split
    · show r.length + 1 < n + 1
      omega
    · have := putD_lt (f := f) (d := d) (fs := r) (n := n - 1) (by omega)
      show (putD f d r).length + 1 < n + 1
      omega
def tabF (t l f p : D) : List (Str × D) := [("name", t), ("names", l), ("numbers", f), ("key", p)]
theorem init_eq (t l f p : D) (h : IH) (ht : Itm t) (hl : Val l) (hf : Val f) (hp : Val p) : d_Table_init [t, l, f, p] h = if rightB t l f p = true then .ok (tabF t l f p) h else .ex "InvalidTable" [] h := by
  have start : startN "Table" 6 [t, l, f, p] = [some (.slf "Table" []), some (.val t), some (.val l), some (.val f), some (.val p), none] := rfl
  have a : tNt (tst (eCallK 1 0 bdId d_p_is_name (aCons (eVar 1) aNil) aNil)) (startN "Table" 6 [t, l, f, p]) h = .ok (!nameB t) h := tNt_ok (tst_ok (eCallK_ok (aCons_ok (eVar_ok rfl) aNil_ok) aNil_ok ⟨rfl, rfl⟩ rfl (is_name_eq t h ht.1 ht.2)))
  have b : tNt (tst (eCallK 1 0 bdId d_p_are_names (aCons (eVar 2) aNil) aNil)) (startN "Table" 6 [t, l, f, p]) h = .ok (!namesB l) h := tNt_ok (tst_ok (eCallK_ok (aCons_ok (eVar_ok rfl) aNil_ok) aNil_ok ⟨rfl, rfl⟩ rfl (are_names_eq l h hl)))
  have c : tNt (tst (eCallK 1 0 bdId d_p_are_names (aCons (eVar 3) aNil) aNil)) (startN "Table" 6 [t, l, f, p]) h = .ok (!namesB f) h := tNt_ok (tst_ok (eCallK_ok (aCons_ok (eVar_ok rfl) aNil_ok) aNil_ok ⟨rfl, rfl⟩ rfl (are_names_eq f h hf)))
  have g := tOr_b a fun _ => tOr_b b fun _ => c
  show (match F_Table_init (startN "Table" 6 [t, l, f, p]) h with
    | .nx ρ h' => match slfS ρ 0 with
      | some (c, fs) => if c = "Table" then Res.ok fs h' else .no
      | none => .no
    | .ex c fs _ h' => .ex c fs h'
    | _ => .no) = _
  unfold F_Table_init
  cases hg : (nameB t && namesB l && namesB f) with
  | false =>
    have e : ((!nameB t) || ((!namesB l) || (!namesB f))) = true := by
      cases h1 : nameB t <;> cases h2 : namesB l <;> cases h3 : namesB f <;> simp [h1, h2, h3] at hg ⊢
    rw [e] at g
    rw [seq_raise g (rfl : sRaise0 "InvalidTable" _ h = .ex "InvalidTable" [] _ h)]
    have er : rightB t l f p = false := by
      unfold rightB
      rw [hg]
      rfl
    rw [er]
    rfl
  | true =>
    have hg' := hg
    rw [Bool.and_eq_true, Bool.and_eq_true] at hg'
    obtain ⟨⟨h1, h2⟩, h3⟩ := hg'
    rw [h1, h2, h3] at g
    rw [seq_skip g]
    obtain ⟨xs, rfl, nx, lx, ex⟩ := names_tup h2
    obtain ⟨ys, rfl, ny, ly, ey⟩ := names_tup h3
    have ec : colsOf (.tup (xs.map D.str)) (.tup (ys.map D.str)) = xs ++ ys := by
      unfold colsOf
      rw [ex, ey]
    have nc : ∀ x ∈ xs ++ ys, nameS x = true := fun x hx => (List.mem_append.mp hx).elim (nx x) (ny x)
    have lc : (xs ++ ys).length ≤ 4 := by rw [List.length_append]; omega
    have st : sAsg (e2 addP (eVar 2) (eVar 3)) (tgN 5) (startN "Table" 6 [t, .tup (xs.map D.str), .tup (ys.map D.str), p]) h = .nx [some (.slf "Table" []), some (.val t), some (.val (.tup (xs.map D.str))), some (.val (.tup (ys.map D.str))), some (.val p), some (.val (.tup ((xs ++ ys).map D.str)))] h := by
      refine asg_ok (d := .tup ((xs ++ ys).map D.str)) (e2_ok (eVar_ok rfl) (eVar_ok rfl) ?_) rfl
      show (if (xs.map D.str).length + (ys.map D.str).length ≤ sizeLine then some (D.tup (xs.map D.str ++ ys.map D.str)) else none) = _
      rw [if_pos (by rw [List.length_map, List.length_map]; exact Nat.le_trans (show xs.length + ys.length ≤ 4 by omega) (by decide)), List.map_append]
    rw [seq_nx st]
    have q1 := tst_ok (nil_ok (ρ := [some (.slf "Table" []), some (.val t), some (.val (.tup (xs.map D.str))), some (.val (.tup (ys.map D.str))), some (.val p), some (.val (.tup ((xs ++ ys).map D.str)))]) (h := h) (i := 5) (cs := xs ++ ys) rfl fun x hx => nameS_ok (nc x hx))
    have q2 : tst (e2 ltP (eLenSet (eVar 5)) (eN lenP (aCons (eVar 5) aNil))) [some (.slf "Table" []), some (.val t), some (.val (.tup (xs.map D.str))), some (.val (.tup (ys.map D.str))), some (.val p), some (.val (.tup ((xs ++ ys).map D.str)))] h = .ok (!decide (xs ++ ys).Nodup) h := by
      refine tst_ok (e2_ok (set_ok rfl (by omega)) (len_tup rfl) ?_)
      show some (D.bl (decide (((setN (xs ++ ys) : Nat) : Int) < (((xs ++ ys).map D.str).length : Nat)))) = some (D.bl _)
      rw [List.length_map]
      congr 2
      have le := setN_le (xs ++ ys)
      by_cases hn : (xs ++ ys).Nodup
      · rw [decide_eq_true hn, (setN_iff _).mpr hn]
        simp
      · have : setN (xs ++ ys) ≠ (xs ++ ys).length := fun e => hn ((setN_iff _).mp e)
        rw [decide_eq_false hn]
        exact decide_eq_true (by omega)
    have q3 : tNt (tst (eCallK 2 0 bdId d_p_is_key (aCons (eVar 4) (aCons (eVar 5) aNil)) aNil)) [some (.slf "Table" []), some (.val t), some (.val (.tup (xs.map D.str))), some (.val (.tup (ys.map D.str))), some (.val p), some (.val (.tup ((xs ++ ys).map D.str)))] h = .ok (!isKeyB p (xs ++ ys)) h :=
      tNt_ok (tst_ok (eCallK_ok (aCons_ok (eVar_ok rfl) (aCons_ok (eVar_ok rfl) aNil_ok)) aNil_ok ⟨rfl, rfl⟩ rfl (is_key_eq p (xs ++ ys) h hp nc (by omega))))
    have q := tOr_b q1 fun _ => tOr_b q2 fun _ => q3
    have er : rightB t (.tup (xs.map D.str)) (.tup (ys.map D.str)) p = (colsB (xs ++ ys) && isKeyB p (xs ++ ys)) := by
      unfold rightB
      rw [hg, ec]
      rfl
    have en : ((xs ++ ys).isEmpty || ((!decide (xs ++ ys).Nodup) || !isKeyB p (xs ++ ys))) = !(colsB (xs ++ ys) && isKeyB p (xs ++ ys)) := by
      unfold colsB
      cases (xs ++ ys).isEmpty <;> cases decide (xs ++ ys).Nodup <;> cases isKeyB p (xs ++ ys) <;> rfl
    rw [en, ← er] at q
    cases hr : rightB t (.tup (xs.map D.str)) (.tup (ys.map D.str)) p with
    | false =>
      rw [hr] at q
      rw [seq_raise q (rfl : sRaise0 "InvalidTable" _ h = .ex "InvalidTable" [] _ h)]
      rfl
    | true =>
      rw [hr] at q
      rw [seq_skip q, seq_nx (slf_ok (eVar_ok rfl) rfl (by simp) (by decide)), seq_nx (slf_ok (eVar_ok rfl) rfl (by simp) (Nat.lt_of_lt_of_le (putD_lt (n := 1) (by decide)) (by decide))), seq_nx (slf_ok (eVar_ok rfl) rfl (by simp) (Nat.lt_of_lt_of_le (putD_lt (putD_lt (n := 1) (by decide))) (by decide))), slf_ok (eVar_ok rfl) rfl (by simp) (Nat.lt_of_lt_of_le (putD_lt (putD_lt (putD_lt (n := 1) (by decide)))) (by decide))]
      rfl
end WR.K02
set_option Elab.async false
set_option linter.all false
set_option autoImplicit false
set_option maxRecDepth 100000
set_option maxHeartbeats 4000000
namespace WR.K02
open PySem PySem.Spec PyProof.Rows L2
/-! ### rows -/
theorem cut_take {ds : List D} {k : Nat} (h : k ≤ ds.length) : cutL ds none (some (k : Int)) = ds.take k := by
  unfold cutL
  rw [HT.sIx_none, HT.sIx_nat, Nat.min_eq_left h]
  rfl
theorem cut_drop {ds : List D} {k : Nat} (h : k ≤ ds.length) : cutL ds (some (k : Int)) none = ds.drop k := by
  unfold cutL
  rw [HT.sIx_none, HT.sIx_nat, Nat.min_eq_left h]
  exact List.take_of_length_le (by rw [List.length_drop]; omega)
def rowB (d : D) (m n : Nat) : Bool := match d with
  | .tup ds => decide (ds.length = m + n) && ((ds.take m).all nameB && (ds.drop m).all isIntD)
  | _ => false
theorem all_ints {ρ : En} {h : IH} {ds : List D} {g : En → M (List D)} {vs : List Nat} {i : Nat} (e : g ρ h = .ok ds h) (hs : ∀ d ∈ ds, slot ((wipeE ρ vs).set i (some (.val d))) i = some d) (hd : ∀ d ∈ ds, Itm d) (hl : ds.length ≤ 100000) : eN allP (aCons (eFz (sizM (mLc g vs (tgN i) tYs (eCallK 1 0 bdId d_p_is_integer (aCons (eVar i) aNil) aNil)))) aNil) ρ h = .ok (.bl (ds.all isIntD)) h :=
  all_ok isIntD (siz_ok (mLc_map _ e fun d hm => eCallK_ok (aCons_ok (eVar_ok (hs d hm)) aNil_ok) aNil_ok ⟨rfl, rfl⟩ rfl (is_integer_eq d h (hd d hm).1)) (by rw [List.length_map]; exact hl))
theorem fld_len {ρ : En} {h : IH} {i : Nat} {fs : List (Str × D)} {fn : Str} {ns : List D} (hi : slot ρ i = some (.obj "Table" fs)) (hf : fs.lookup fn = some (.tup ns)) : eN lenP (aCons (eFld ["Table"] fn (eVar i)) aNil) ρ h = .ok (.int ns.length) h :=
  eN_ok (aCons_ok (eFld_ok (eVar_ok hi) rfl (by simp) hf) aNil_ok) rfl
theorem is_row_eq (fs : List (Str × D)) (ns ms : List D) (d : D) (h : IH) (hn : fs.lookup ("names" : Str) = some (D.tup ns)) (hm : fs.lookup ("numbers" : Str) = some (D.tup ms)) (hd : Val d) : d_Table_is_row [.obj "Table" fs, d] h = .ok (.bl (rowB d ns.length ms.length)) h := by
  refine runB_rt rfl ?_
  unfold F_Table_is_row
  have st : sAsg (eN lenP (aCons (eFld ["Table"] "names" (eVar 0)) aNil)) (tgN 2) (startE 4 [.obj "Table" fs, d]) h = .nx [some (.val (.obj "Table" fs)), some (.val d), some (.val (.int ns.length)), none] h := asg_ok (fld_len rfl hn) rfl
  rw [seq_nx st]
  have a : tNt (tst (eN (isiP isiT) (aCons (eVar 1) (aCons (eCst (.ty "tuple")) aNil)))) [some (.val (.obj "Table" fs)), some (.val d), some (.val (.int ns.length)), none] h = .ok (!isTupD d) h := tNt_ok (tst_ok (eN_ok (aCons_ok (eVar_ok rfl) (aCons_ok eCst_ok aNil_ok)) (isi_tup hd.1.1)))
  by_cases ht : ∃ ds, d = .tup ds
  · obtain ⟨ds, rfl⟩ := ht
    obtain ⟨hl, hi⟩ := hd.2 ds rfl
    have b : tst (e2 neP (eN lenP (aCons (eVar 1) aNil)) (e2 addP (eVar 2) (eN lenP (aCons (eFld ["Table"] "numbers" (eVar 0)) aNil)))) [some (.val (.obj "Table" fs)), some (.val (.tup ds)), some (.val (.int ns.length)), none] h = .ok (!decide (ds.length = ns.length + ms.length)) h := by
      refine tst_ok (e2_ok (len_tup rfl) (e2_ok (eVar_ok rfl) (fld_len rfl hm) rfl) ?_)
      show (eqT (.int (ds.length : Int)) (.int ((ns.length : Int) + (ms.length : Int)))).map (fun b => D.bl (!b)) = _
      rw [eq_ints]
      show some (D.bl _) = some (D.bl _)
      congr 3
      exact decide_eq_decide.mpr (by omega)
    show _ = SR.rt (.bl (decide (ds.length = ns.length + ms.length) && ((ds.take ns.length).all nameB && (ds.drop ns.length).all isIntD))) h
    by_cases hq : ds.length = ns.length + ms.length
    · rw [decide_eq_true hq] at b ⊢
      rw [seq_skip (tOr_f a b), Bool.true_and]
      have k : ns.length ≤ ds.length := by omega
      refine ret_ok (eAn_b (all_names (iSeq_ok (eSl_ok (eVar_ok rfl) opt_n (opt_s (eVar_ok rfl)) rfl) ?_) (fun _ _ => rfl) (fun x hx => hi x (List.mem_of_mem_take hx)) ?_) fun _ => all_ints (iSeq_ok (eSl_ok (eVar_ok rfl) (opt_s (eVar_ok rfl)) opt_n rfl) ?_) (fun _ _ => rfl) (fun x hx => hi x (List.mem_of_mem_drop hx)) ?_)
      · show some (cutL ds none (some (ns.length : Int))) = _
        rw [cut_take k]
      · rw [List.length_take]
        omega
      · show some (cutL ds (some (ns.length : Int)) none) = _
        rw [cut_drop k]
      · rw [List.length_drop]
        omega
    · rw [decide_eq_false hq] at b ⊢
      rw [seq_take (tOr_f a b) (ret_ok eCst_ok)]
      rfl
  · have e : isTupD d = false ∧ rowB d ns.length ms.length = false := by
      cases d <;> first | exact ⟨rfl, rfl⟩ | exact absurd ⟨_, rfl⟩ ht
    rw [e.1] at a
    rw [e.2, seq_take (tOr_t a) (ret_ok eCst_ok)]
end WR.K02
set_option Elab.async false
set_option linter.all false
set_option autoImplicit false
set_option maxRecDepth 100000
set_option maxHeartbeats 4000000
namespace WR.K02
open PySem PySem.Spec PyProof.Rows L2
/-! ### _law_is_row -/
def restB (m : Nat) : Nat → List D → Bool
  | _, [] => true
  | k, d :: ds => (if k < m then nameB d else isIntD d) && restB m (k + 1) ds
theorem rest_at (m : Nat) : ∀ (k : Nat) (ds : List D), restB m k ds = ((ds.take (m - k)).all nameB && (ds.drop (m - k)).all isIntD)
  | k, [] => by simp [restB]
  | k, d :: ds => by
    unfold restB
    rw [rest_at m (k + 1) ds]
    by_cases h : k < m
    · rw [if_pos h]
      obtain ⟨j, hj⟩ : ∃ j, m - k = j + 1 := ⟨m - k - 1, by omega⟩
      have : m - (k + 1) = j := by omega
      rw [hj, this, List.take_succ_cons, List.drop_succ_cons, List.all_cons, Bool.and_assoc]
    · rw [if_neg h]
      have e1 : m - k = 0 := by omega
      have e2 : m - (k + 1) = 0 := by omega
      rw [e1, e2]
      simp
abbrev len1 (i : Nat) : En → M D := eN lenP (aCons (e2 ixP (eVar 0) (eCst (.int i))) aNil)
abbrev rowLoop : MS := sSeq (sIf (tAn (tst (e2 ltP (eVar 2) (eN lenP (aCons (e2 ixP (eVar 0) (eCst (.int 1))) (aNil))))) (tNt (tst (eCallK 1 0 (bdId) d_l_is_name (aCons (eVar 3) (aNil)) aNil)))) (sRet (eCst (.bl false))) (sNil)) (sIf (tAn (tst (e2 geP (eVar 2) (eN lenP (aCons (e2 ixP (eVar 0) (eCst (.int 1))) (aNil))))) (tOr (tst (eN (isiP isiT) (aCons (eVar 3) (aCons (eCst (.ty "bool")) (aNil))))) (tNt (tst (eN (isiP isiT) (aCons (eVar 3) (aCons (eCst (.ty "int")) (aNil)))))))) (sRet (eCst (.bl false))) (sNil))
theorem row_step (t p : D) (ns ms : List D) (h : IH) (i0 : Option Sl) (k : Nat) (d : D) (hd : Itm d) : rowLoop [some (.val (.lst [t, .tup ns, .tup ms, p])), i0, some (.val (.int (k : Nat))), some (.val d)] h = if (if k < ns.length then nameB d else isIntD d) = true then .nx [some (.val (.lst [t, .tup ns, .tup ms, p])), i0, some (.val (.int (k : Nat))), some (.val d)] h else .rt (.bl false) h := by
  have ln : eN lenP (aCons (e2 ixP (eVar 0) (eCst (.int 1))) aNil) [some (.val (.lst [t, .tup ns, .tup ms, p])), i0, some (.val (.int (k : Nat))), some (.val d)] h = .ok (.int ns.length) h := eN_ok (aCons_ok (e2_ok (eVar_ok rfl) eCst_ok rfl) aNil_ok) rfl
  have a : tst (e2 ltP (eVar 2) (eN lenP (aCons (e2 ixP (eVar 0) (eCst (.int 1))) aNil))) [some (.val (.lst [t, .tup ns, .tup ms, p])), i0, some (.val (.int (k : Nat))), some (.val d)] h = .ok (decide (k < ns.length)) h := by
    refine tst_ok (e2_ok (eVar_ok rfl) ln ?_)
    show some (D.bl (decide ((k : Int) < (ns.length : Int)))) = some (D.bl _)
    congr 2
    exact decide_eq_decide.mpr (by omega)
  have b : tst (e2 geP (eVar 2) (eN lenP (aCons (e2 ixP (eVar 0) (eCst (.int 1))) aNil))) [some (.val (.lst [t, .tup ns, .tup ms, p])), i0, some (.val (.int (k : Nat))), some (.val d)] h = .ok (decide (ns.length ≤ k)) h := by
    refine tst_ok (e2_ok (eVar_ok rfl) ln ?_)
    show some (D.bl (decide ((ns.length : Int) ≤ (k : Int)))) = some (D.bl _)
    congr 2
    exact decide_eq_decide.mpr (by omega)
  have c : tNt (tst (eCallK 1 0 bdId d_l_is_name (aCons (eVar 3) aNil) aNil)) [some (.val (.lst [t, .tup ns, .tup ms, p])), i0, some (.val (.int (k : Nat))), some (.val d)] h = .ok (!nameB d) h := tNt_ok (tst_ok (eCallK_ok (aCons_ok (eVar_ok rfl) aNil_ok) aNil_ok ⟨rfl, rfl⟩ rfl (l_is_name_eq d h hd.1 hd.2)))
  have e : tOr (tst (eN (isiP isiT) (aCons (eVar 3) (aCons (eCst (.ty "bool")) aNil)))) (tNt (tst (eN (isiP isiT) (aCons (eVar 3) (aCons (eCst (.ty "int")) aNil))))) [some (.val (.lst [t, .tup ns, .tup ms, p])), i0, some (.val (.int (k : Nat))), some (.val d)] h = .ok (isBlD d || !(isIntD d || isBlD d)) h :=
    tOr_b (tst_ok (eN_ok (aCons_ok (eVar_ok rfl) (aCons_ok eCst_ok aNil_ok)) (isi_bool hd.1))) fun _ => tNt_ok (tst_ok (eN_ok (aCons_ok (eVar_ok rfl) (aCons_ok eCst_ok aNil_ok)) (isi_int hd.1)))
  have ei : (isBlD d || !(isIntD d || isBlD d)) = !isIntD d := by cases d <;> rfl
  rw [ei] at e
  have q1 := tAn_b a fun _ => c
  have q2 := tAn_b b fun _ => e
  by_cases hk : k < ns.length
  · rw [decide_eq_true hk] at q1
    rw [decide_eq_false (show ¬ ns.length ≤ k by omega)] at q2
    rw [if_pos hk]
    cases hn : nameB d with
    | false =>
      rw [hn] at q1
      rw [if_neg (by decide)]
      exact seq_take q1 (ret_ok eCst_ok)
    | true =>
      rw [hn] at q1
      rw [if_pos rfl]
      exact (seq_skip q1).trans (if_nil q2)
  · rw [decide_eq_false hk] at q1
    rw [decide_eq_true (show ns.length ≤ k by omega)] at q2
    rw [if_neg hk]
    cases hn : isIntD d with
    | false =>
      rw [hn] at q2
      rw [if_neg (by decide)]
      exact (seq_skip q1).trans ((if_t q2).trans (ret_ok eCst_ok))
    | true =>
      rw [hn] at q2
      rw [if_pos rfl]
      exact (seq_skip q1).trans (if_nil q2)
theorem row_loop (t p : D) (ns ms : List D) (h : IH) (i0 : Option Sl) : ∀ (ds : List D), (∀ d ∈ ds, Itm d) → ∀ (k : Nat) (v2 v3 : Option Sl), (∃ ρ, loopS (tgT (tgCons (tgN 2) (tgCons (tgN 3) tgNil))) rowLoop (enuD k ds) [some (.val (.lst [t, .tup ns, .tup ms, p])), i0, v2, v3] h = .nx ρ h ∧ restB ns.length k ds = true) ∨ (loopS (tgT (tgCons (tgN 2) (tgCons (tgN 3) tgNil))) rowLoop (enuD k ds) [some (.val (.lst [t, .tup ns, .tup ms, p])), i0, v2, v3] h = .rt (.bl false) h ∧ restB ns.length k ds = false)
  | [], _, k, v2, v3 => .inl ⟨_, rfl, rfl⟩
  | d :: ds, hd, k, v2, v3 => by
    have st := row_step t p ns ms h i0 k d (hd d (by simp))
    have tg : tgT (tgCons (tgN 2) (tgCons (tgN 3) tgNil)) (.pr [.int (k : Nat), d]) [some (.val (.lst [t, .tup ns, .tup ms, p])), i0, v2, v3] = some [some (.val (.lst [t, .tup ns, .tup ms, p])), i0, some (.val (.int (k : Nat))), some (.val d)] := rfl
    show (∃ ρ, loopS _ rowLoop (.pr [.int (k : Nat), d] :: enuD (k + 1) ds) _ h = .nx ρ h ∧ ((if k < ns.length then nameB d else isIntD d) && restB ns.length (k + 1) ds) = true) ∨ (loopS _ rowLoop (.pr [.int (k : Nat), d] :: enuD (k + 1) ds) _ h = .rt (.bl false) h ∧ ((if k < ns.length then nameB d else isIntD d) && restB ns.length (k + 1) ds) = false)
    cases hb : (if k < ns.length then nameB d else isIntD d) with
    | true =>
      rw [hb, if_pos rfl] at st
      rw [loop_nx tg st, Bool.true_and]
      exact row_loop t p ns ms h i0 ds (fun x hx => hd x (by simp [hx])) (k + 1) _ _
    | false =>
      rw [hb, if_neg (by decide)] at st
      exact .inr ⟨loop_rt tg st, rfl⟩
theorem l_is_row_eq (t p : D) (ns ms : List D) (d : D) (h : IH) (hd : Val d) : d_l_is_row [.lst [t, .tup ns, .tup ms, p], d] h = .ok (.bl (rowB d ns.length ms.length)) h := by
  refine runB_rt rfl ?_
  unfold F_l_is_row
  have a : tNt (tst (eN (isiP isiT) (aCons (eVar 1) (aCons (eCst (.ty "tuple")) aNil)))) (startE 4 [.lst [t, .tup ns, .tup ms, p], d]) h = .ok (!isTupD d) h := tNt_ok (tst_ok (eN_ok (aCons_ok (eVar_ok rfl) (aCons_ok eCst_ok aNil_ok)) (isi_tup hd.1.1)))
  by_cases ht : ∃ ds, d = .tup ds
  · obtain ⟨ds, rfl⟩ := ht
    obtain ⟨hl, hi⟩ := hd.2 ds rfl
    have b : tst (e2 neP (eN lenP (aCons (eVar 1) aNil)) (e2 addP (eN lenP (aCons (e2 ixP (eVar 0) (eCst (.int 1))) aNil)) (eN lenP (aCons (e2 ixP (eVar 0) (eCst (.int 2))) aNil)))) (startE 4 [.lst [t, .tup ns, .tup ms, p], .tup ds]) h = .ok (!decide (ds.length = ns.length + ms.length)) h := by
      refine tst_ok (e2_ok (len_tup rfl) (e2_ok (eN_ok (aCons_ok (e2_ok (eVar_ok rfl) eCst_ok rfl) aNil_ok) rfl) (eN_ok (aCons_ok (e2_ok (eVar_ok rfl) eCst_ok rfl) aNil_ok) rfl) rfl) ?_)
      show (eqT (.int (ds.length : Int)) (.int ((ns.length : Int) + (ms.length : Int)))).map (fun b => D.bl (!b)) = _
      rw [eq_ints]
      show some (D.bl _) = some (D.bl _)
      congr 3
      exact decide_eq_decide.mpr (by omega)
    show _ = SR.rt (.bl (decide (ds.length = ns.length + ms.length) && ((ds.take ns.length).all nameB && (ds.drop ns.length).all isIntD))) h
    by_cases hq : ds.length = ns.length + ms.length
    · rw [decide_eq_true hq] at b ⊢
      rw [seq_skip (tOr_f a b), Bool.true_and]
      have er := rest_at ns.length 0 ds
      rw [Nat.sub_zero] at er
      rw [← er]
      have fo : sFor (iOf enuP (aCons (eVar 1) aNil)) (tgT (tgCons (tgN 2) (tgCons (tgN 3) tgNil))) rowLoop (startE 4 [.lst [t, .tup ns, .tup ms, p], .tup ds]) h = loopS (tgT (tgCons (tgN 2) (tgCons (tgN 3) tgNil))) rowLoop (enuD 0 ds) (startE 4 [.lst [t, .tup ns, .tup ms, p], .tup ds]) h := for_ok (iOf_ok (aCons_ok (eVar_ok rfl) aNil_ok) rfl)
      rcases row_loop t p ns ms h (some (.val (.tup ds))) ds hi 0 none none with ⟨ρ, e1, e2⟩ | ⟨e1, e2⟩
      · rw [seq_nx (fo.trans e1), e2]
        exact ret_ok eCst_ok
      · rw [seq_rt (fo.trans e1), e2]
    · rw [decide_eq_false hq] at b ⊢
      rw [seq_take (tOr_f a b) (ret_ok eCst_ok)]
      rfl
  · have e : isTupD d = false ∧ rowB d ns.length ms.length = false := by
      cases d <;> first | exact ⟨rfl, rfl⟩ | exact absurd ⟨_, rfl⟩ ht
    rw [e.1] at a
    rw [e.2, seq_take (tOr_t a) (ret_ok eCst_ok)]
end WR.K02
set_option Elab.async false
set_option linter.all false
set_option autoImplicit false
set_option maxRecDepth 100000
set_option maxHeartbeats 4000000
namespace WR.K02
open PySem PySem.Spec PyProof.Rows L2
/-! ### columns -/
theorem columns_eq (fs : List (Str × D)) (ns ms : List D) (h : IH) (hn : fs.lookup ("names" : Str) = some (D.tup ns)) (hm : fs.lookup ("numbers" : Str) = some (D.tup ms)) (hl : ns.length + ms.length ≤ 1000) : d_Table_columns [.obj "Table" fs] h = .ok (.tup (ns ++ ms)) h := by
  refine runB_rt rfl ?_
  unfold F_Table_columns
  refine ret_ok (e2_ok (eFld_ok (eVar_ok rfl) rfl (by simp) hn) (eFld_ok (eVar_ok rfl) rfl (by simp) hm) ?_)
  show (if ns.length + ms.length ≤ sizeLine then some (D.tup (ns ++ ms)) else none) = _
  rw [if_pos (Nat.le_trans hl (by decide))]
/-! ### flat data compared -/
def eqF (x y : D) : Bool := match D.pd x, D.pd y with
  | some p, some q => PyData.eqv p q
  | _, _ => false
theorem eq_flat {x y : D} (hx : Fl x) (hy : Fl y) : eqT x y = some (eqF x y) := by
  obtain ⟨p, a1, a2, a3⟩ := hx
  obtain ⟨q, b1, b2, b3⟩ := hy
  have nl : ∀ {z : D} {r : PyData}, D.pd z = some r → r.depth = 0 → lstOf z = none := fun {z r} e1 e2 => by
    cases z with
    | lst ds =>
      unfold D.pd at e1
      obtain ⟨ps, _, rfl⟩ := Option.map_eq_some_iff.mp e1
      simp [PyData.depth] at e2
    | fz ds =>
      unfold D.pd at e1
      obtain ⟨ps, _, rfl⟩ := Option.map_eq_some_iff.mp e1
      simp [PyData.depth] at e2
    | _ => rfl
  have e : lenNe x y = false := by
    unfold lenNe
    rw [nl a1 a3]
  unfold eqT eqF
  rw [if_neg (by rw [e]; decide), a1, b1]
  dsimp only
  rw [if_pos ⟨shaped_of a2 (by omega), shaped_of b2 (by omega)⟩]
/-! ### the key of a row -/
def prA : D → D
  | .pr (x :: _) => x
  | _ => .non
def prB : D → D
  | .pr (_ :: y :: _) => y
  | _ => .non
def keyVals (cs ks : List Str) (ds : List D) : List D := ((cs.zip ds).filter fun q => decide (q.1 ∈ ks)).map (·.2)
theorem zip_keys (cs ks : List Str) (ds : List D) : ((zipD (cs.map D.str) ds).filter fun d => decide (sOf (prA d) ∈ ks)).map prB = keyVals cs ks ds := by
  unfold zipD keyVals
  rw [List.zip_map_left, List.map_map, List.filter_map, List.map_map]
  rfl
theorem key_of_eq (fs : List (Str × D)) (xs ys ks : List Str) (ds : List D) (h : IH) (hn : fs.lookup ("names" : Str) = some (D.tup (xs.map D.str))) (hm : fs.lookup ("numbers" : Str) = some (D.tup (ys.map D.str))) (hk : fs.lookup ("key" : Str) = some (D.tup (ks.map D.str))) (nx : ∀ x ∈ xs ++ ys, nameS x = true) (nk : ∀ x ∈ ks, nameS x = true) (hl : xs.length + ys.length ≤ 1000) : d_Table_key_of [.obj "Table" fs, .tup ds] h = .ok (.tup (keyVals (xs ++ ys) ks ds)) h := by
  refine runB_rt rfl ?_
  unfold F_Table_key_of
  have co := columns_eq fs (xs.map D.str) (ys.map D.str) h hn hm (by rw [List.length_map, List.length_map]; exact hl)
  rw [← List.map_append] at co
  have e1 : mLc (iOf zipP (aCons (eProp "Table" d_Table_columns (eVar 0)) (aCons (eVar 1) aNil))) [2, 3] (tgT (tgCons (tgN 2) (tgCons (tgN 3) tgNil))) (tst (e2 inP (eVar 2) (eFld ["Table"] "key" (eVar 0)))) (eVar 3) (startE 4 [.obj "Table" fs, .tup ds]) h = .ok (((zipD ((xs ++ ys).map D.str) ds).filter fun d => decide (sOf (prA d) ∈ ks)).map prB) h := by
    refine mLc_filter _ _ (fun d => [some (.val (.obj "Table" fs)), some (.val (.tup ds)), some (.val (prA d)), some (.val (prB d))]) (iOf_ok (aCons_ok (eProp_ok (eVar_ok rfl) rfl co) (aCons_ok (eVar_ok rfl) aNil_ok)) rfl) (fun d hd => ?_) (fun d hd => ?_) fun _ _ _ => eVar_ok rfl
    · obtain ⟨q, hq, rfl⟩ := List.mem_map.mp hd
      rfl
    · obtain ⟨⟨a, b⟩, hq, rfl⟩ := List.mem_map.mp hd
      obtain ⟨c, hc, rfl⟩ := List.mem_map.mp (List.of_mem_zip hq).1
      refine tst_ok (e2_ok (eVar_ok rfl) (eFld_ok (eVar_ok rfl) rfl (by simp) hk) ?_)
      show (inT (.str c) (.tup (ks.map D.str))).map D.bl = some (D.bl (decide (c ∈ ks)))
      rw [in_tup (nameS_ok (nx c hc)) fun x hx => nameS_ok (nk x hx)]
      rfl
  rw [zip_keys] at e1
  refine ret_ok (eN_ok (aCons_ok (fz_ok (siz_ok e1 ?_)) aNil_ok) rfl)
  unfold keyVals
  rw [List.length_map]
  refine Nat.le_trans (List.length_filter_le _ _) ?_
  rw [List.length_zip, List.length_append]
  omega
end WR.K02
set_option Elab.async false
set_option linter.all false
set_option autoImplicit false
set_option maxRecDepth 100000
set_option maxHeartbeats 4000000
namespace WR.K02
open PySem PySem.Spec PyProof.Rows L2
/-! ### the source -/
def Sr (n : Nat) (h : IH) : Prop := ∃ (ns : List Int) (a b : Int), h = [IO.lst (ns.map D.int), IO.lst [.loc 0, .int a, .int b]] ∧ ns.length ≤ 60 ∧ 0 ≤ b ∧ b ≤ (n : Int)
theorem Sr.mono {n m : Nat} {h : IH} (s : Sr n h) (l : n ≤ m) : Sr m h := by
  obtain ⟨ns, a, b, e, h1, h2, h3⟩ := s
  exact ⟨ns, a, b, e, h1, h2, by omega⟩
theorem mul_ok {h : IH} {i j : Int} (c : CMul i j) : mulP h (.int i) (.int j) = some (.int (i * j)) := if_pos c
theorem mod_ok {h : IH} {i j : Int} (c : 0 < j) : modP h (.int i) (.int j) = some (.int (i % j)) := if_pos c
theorem fdiv_ok {h : IH} {i j : Int} (c : CDiv i j) : fdivP h (.int i) (.int j) = some (.int (i / j)) := if_pos c
theorem pow_ok {h : IH} {i j : Int} (c : CPow i j) : powP h (.int i) (.int j) = some (.int (i ^ j.toNat)) := if_pos c
theorem eLm_ok {p : Pl} {f : En → M D} {ga : En → M (List D)} {ρ : En} {h h1 h2 : IH} {l : Nat} {ds ds2 ds' es : List D} {d : D} (e0 : f ρ h = .ok (.loc l) h1) (e1 : h1[l]? = some (.lst ds)) (e2 : ga ρ h1 = .ok es h2) (e3 : h2[l]? = some (.lst ds2)) (e4 : p ds2 es = some (d, ds')) : eLm p f ga ρ h = .ok d (h2.set l (.lst ds')) := by
  unfold eLm
  have e5 : (locM (.loc l)) h1 = .ok l h1 := by
    unfold locM
    dsimp only
    rw [e1]
  rw [bind_ok e0, bind_ok e5, bind_ok e2]
  unfold lmM
  rw [e3]
  dsimp only
  rw [e4]
theorem mul_lo {i j : Int} (h0 : 0 ≤ i) (h1 : i < 2 ^ 60) : CMul i j := .inl ⟨by omega, by omega⟩
theorem mul_hi {i j : Int} (h0 : 0 ≤ j) (h1 : j < 2 ^ 60) : CMul i j := .inr ⟨by omega, by omega⟩
section
variable {ns : List Int} {a b m x : Int} {h : IH}
theorem draw_end {y : Option Sl} (hm : 0 < m) : ∃ i : Int, (sSeq (sAsg (e2 modP (e2 mulP (e2 modP (eVar 2) (eCst (.int 2147483563))) (eCst (.int 69621))) (eCst (.int 2147483647))) (tgN 2)) (sSeq (sAsg (e2 modP (e2 addP (e2 addP (e2 mulP (eVar 2) (eVar 2)) (e2 mulP (eCst (.int 30029)) (eVar 2))) (eCst (.int 5))) (eCst (.int 2147483587))) (tgN 2)) (sRet (e2 modP (e2 fdivP (e2 modP (e2 mulP (eVar 2) (eCst (.int 40692))) (eCst (.int 2147483629))) (eCst (.int 32))) (eVar 1))))) [some (.val (.loc 1)), some (.val (.int m)), some (.val (.int x)), y] h = .rt (.int i) h ∧ 0 ≤ i ∧ i < m := by
  have b1 := Int.emod_nonneg x (show (2147483563 : Int) ≠ 0 by decide)
  have b2 := Int.emod_lt_of_pos x (show (0 : Int) < 2147483563 by decide)
  have st1 : sAsg (e2 modP (e2 mulP (e2 modP (eVar 2) (eCst (.int 2147483563))) (eCst (.int 69621))) (eCst (.int 2147483647))) (tgN 2) [some (.val (.loc 1)), some (.val (.int m)), some (.val (.int x)), y] h = .nx [some (.val (.loc 1)), some (.val (.int m)), some (.val (.int (x % 2147483563 * 69621 % 2147483647))), y] h := asg_ok (e2_ok (e2_ok (e2_ok (eVar_ok rfl) eCst_ok (mod_ok (by decide))) eCst_ok (mul_ok (mul_lo b1 (by omega)))) eCst_ok (mod_ok (by decide))) rfl
  rw [seq_nx st1]
  generalize x % 2147483563 * 69621 = u
  have b3 := Int.emod_nonneg u (show (2147483647 : Int) ≠ 0 by decide)
  have b4 := Int.emod_lt_of_pos u (show (0 : Int) < 2147483647 by decide)
  generalize u % 2147483647 = v at b3 b4
  have st2 : sAsg (e2 modP (e2 addP (e2 addP (e2 mulP (eVar 2) (eVar 2)) (e2 mulP (eCst (.int 30029)) (eVar 2))) (eCst (.int 5))) (eCst (.int 2147483587))) (tgN 2) [some (.val (.loc 1)), some (.val (.int m)), some (.val (.int v)), y] h = .nx [some (.val (.loc 1)), some (.val (.int m)), some (.val (.int ((v * v + 30029 * v + 5) % 2147483587))), y] h := asg_ok (e2_ok (e2_ok (e2_ok (e2_ok (eVar_ok rfl) (eVar_ok rfl) (mul_ok (mul_lo b3 (by omega)))) (e2_ok eCst_ok (eVar_ok rfl) (mul_ok (mul_lo (by decide) (by decide)))) rfl) eCst_ok rfl) eCst_ok (mod_ok (by decide))) rfl
  rw [seq_nx st2]
  generalize v * v + 30029 * v + 5 = w
  have b5 := Int.emod_nonneg w (show (2147483587 : Int) ≠ 0 by decide)
  have b6 := Int.emod_lt_of_pos w (show (0 : Int) < 2147483587 by decide)
  generalize w % 2147483587 = z at b5 b6
  refine ⟨z * 40692 % 2147483629 / 32 % m, ret_ok (e2_ok (e2_ok (e2_ok (e2_ok (eVar_ok rfl) eCst_ok (mul_ok (mul_lo b5 (by omega)))) eCst_ok (mod_ok (by decide))) eCst_ok (fdiv_ok ⟨by decide, by decide⟩)) (eVar_ok rfl) (mod_ok hm)), Int.emod_nonneg _ (by omega), Int.emod_lt_of_pos _ hm⟩
/-- a draw -/
theorem draw_ok {n : Nat} (s : Sr n h) (hn : n < 1000000000) (hm : 0 < m) (hm2 : m < 1073741824) : ∃ (i : Int) (h' : IH), d_l_draw [.loc 1, .int m] h = .ok (.int i) h' ∧ Sr (n + 1) h' ∧ 0 ≤ i ∧ i < m := by
  obtain ⟨ns, a, b, rfl, hl, hb0, hb⟩ := s
  suffices g : ∃ (i : Int) (h' : IH), F_l_draw [some (.val (.loc 1)), some (.val (.int m)), none, none] [IO.lst (ns.map D.int), IO.lst [.loc 0, .int a, .int b]] = .rt (.int i) h' ∧ Sr (n + 1) h' ∧ 0 ≤ i ∧ i < m by
    obtain ⟨i, h', e, r⟩ := g
    exact ⟨i, h', runB_rt rfl e, r⟩
  unfold F_l_draw
  have st1 : sSetL (eVar 0) (eCst (.int 2)) (e2 addP (e2 ixP (eVar 0) (eCst (.int 2))) (eCst (.int 1))) [some (.val (.loc 1)), some (.val (.int m)), none, none] [IO.lst (ns.map D.int), IO.lst [.loc 0, .int a, .int b]] = .nx [some (.val (.loc 1)), some (.val (.int m)), none, none] [IO.lst (ns.map D.int), IO.lst [.loc 0, .int a, .int (b + 1)]] := rfl
  rw [seq_nx st1]
  have sr : ∀ ms : List Int, ms.length ≤ 60 → Sr (n + 1) [IO.lst (ms.map D.int), IO.lst [.loc 0, .int a, .int (b + 1)]] := fun ms hm => ⟨ms, a, b + 1, rfl, hm, by omega, by omega⟩
  have c0 : 0 ≤ b + 1 := by omega
  have c1 : b + 1 < 2 ^ 60 := by omega
  generalize b + 1 = c at sr c0 c1
  have st2 : sAsg (e2 addP (e2 ixP (eVar 0) (eCst (.int 1))) (e2 mulP (e2 mulP (eCst (.int 40009)) (e2 ixP (eVar 0) (eCst (.int 2)))) (e2 ixP (eVar 0) (eCst (.int 2))))) (tgN 2) [some (.val (.loc 1)), some (.val (.int m)), none, none] [IO.lst (ns.map D.int), IO.lst [.loc 0, .int a, .int c]] = .nx [some (.val (.loc 1)), some (.val (.int m)), some (.val (.int (a + 40009 * c * c))), none] [IO.lst (ns.map D.int), IO.lst [.loc 0, .int a, .int c]] := asg_ok (e2_ok (e2_ok (eVar_ok rfl) eCst_ok rfl) (e2_ok (e2_ok eCst_ok (e2_ok (eVar_ok rfl) eCst_ok rfl) (mul_ok (mul_lo (by decide) (by decide)))) (e2_ok (eVar_ok rfl) eCst_ok rfl) (mul_ok (mul_hi c0 c1))) rfl) rfl
  rw [seq_nx st2]
  generalize a + 40009 * c * c = x
  have t : tst (e2 neP (e2 ixP (eVar 0) (eCst (.int 0))) (eFz (sizM aNil))) [some (.val (.loc 1)), some (.val (.int m)), some (.val (.int x)), none] [IO.lst (ns.map D.int), IO.lst [.loc 0, .int a, .int c]] = .ok (!ns.isEmpty) [IO.lst (ns.map D.int), IO.lst [.loc 0, .int a, .int c]] := by
    refine tst_ok (e2_ok (x := .loc 0) (e2_ok (eVar_ok rfl) eCst_ok rfl) (fz_ok (siz_ok aNil_ok)) ?_)
    show (eqT (.lst (ns.map D.int)) (.lst [])).map (fun b => D.bl (!b)) = _
    rw [eq_nil]
    cases ns <;> rfl
  cases ns with
  | nil =>
    rw [seq_skip t]
    obtain ⟨i, e, r⟩ := draw_end (x := x) (y := none) (h := [IO.lst [], IO.lst [.loc 0, .int a, .int c]]) hm
    exact ⟨i, _, e, sr [] (by simp), r⟩
  | cons k ns =>
    have hl' : ns.length + 1 ≤ 60 := hl
    have st3 : sAsg (eLm pPopAt (e2 ixP (eVar 0) (eCst (.int 0))) (aCons (eCst (.int 0)) aNil)) (tgN 3) [some (.val (.loc 1)), some (.val (.int m)), some (.val (.int x)), none] [IO.lst ((k :: ns).map D.int), IO.lst [.loc 0, .int a, .int c]] = .nx [some (.val (.loc 1)), some (.val (.int m)), some (.val (.int x)), some (.val (.int k))] [IO.lst (ns.map D.int), IO.lst [.loc 0, .int a, .int c]] := by
      refine asg_ok (eLm_ok (l := 0) (ds := (k :: ns).map D.int) (e2_ok (eVar_ok rfl) eCst_ok rfl) rfl (aCons_ok eCst_ok aNil_ok) rfl (ds' := ns.map D.int) (d := .int k) ?_) rfl
      show (if -(2 ^ 63) ≤ (0 : Int) ∧ (0 : Int) < 2 ^ 63 then (match seqIndex? 0 ((k :: ns).map D.int).length with
        | some j => match ((k :: ns).map D.int)[j]? with
          | some d => some (d, ((k :: ns).map D.int).eraseIdx j)
          | none => none
        | none => none) else none) = _
      rw [if_pos (by decide), seqIndex_of (by decide) (by simp)]
      rfl
    have t2 : tst (e2 geP (eVar 3) (e2 powP (eCst (.int 10)) (eCst (.int 18)))) [some (.val (.loc 1)), some (.val (.int m)), some (.val (.int x)), some (.val (.int k))] [IO.lst (ns.map D.int), IO.lst [.loc 0, .int a, .int c]] = .ok (decide ((10 ^ 18 : Int) ≤ k)) [IO.lst (ns.map D.int), IO.lst [.loc 0, .int a, .int c]] := tst_ok (e2_ok (eVar_ok rfl) (e2_ok eCst_ok eCst_ok (pow_ok ⟨by decide, by decide, by decide⟩)) rfl)
    by_cases hk : (10 ^ 18 : Int) ≤ k
    · rw [decide_eq_true hk] at t2
      have st4 : sExp (eLm pInsert (e2 ixP (eVar 0) (eCst (.int 0))) (aCons (eCst (.int 0)) (aCons (e2 fdivP (eVar 3) (eVar 1)) aNil))) [some (.val (.loc 1)), some (.val (.int m)), some (.val (.int x)), some (.val (.int k))] [IO.lst (ns.map D.int), IO.lst [.loc 0, .int a, .int c]] = .nx [some (.val (.loc 1)), some (.val (.int m)), some (.val (.int x)), some (.val (.int k))] [IO.lst (((k / m) :: ns).map D.int), IO.lst [.loc 0, .int a, .int c]] := by
        refine exp_ok (eLm_ok (l := 0) (ds := ns.map D.int) (e2_ok (eVar_ok rfl) eCst_ok rfl) rfl (aCons_ok eCst_ok (aCons_ok (e2_ok (eVar_ok rfl) (eVar_ok rfl) (fdiv_ok ⟨hm, hm2⟩)) aNil_ok)) rfl (ds' := ((k / m) :: ns).map D.int) (d := .non) ?_)
        show (if (ns.map D.int).length < sizeLine ∧ (0 : Int) ≤ 0 ∧ (0 : Int) < 2 ^ 63 then some (D.non, (ns.map D.int).take 0 ++ [D.int (k / m)] ++ (ns.map D.int).drop 0) else none) = _
        rw [if_pos ⟨by rw [List.length_map]; exact Nat.lt_of_le_of_lt (show ns.length ≤ 60 by omega) (by decide), by decide, by decide⟩]
        rfl
      refine ⟨k % m, _, (seq_rt ((if_t t).trans ((seq_nx st3).trans (seq_rt ((if_t t2).trans ((seq_nx st4).trans (ret_ok (e2_ok (eVar_ok rfl) (eVar_ok rfl) (mod_ok hm))))))))), sr ((k / m) :: ns) hl', Int.emod_nonneg _ (by omega), Int.emod_lt_of_pos _ hm⟩
    · rw [decide_eq_false hk] at t2
      have st5 : sAsg (e2 addP (eVar 2) (eVar 3)) (tgN 2) [some (.val (.loc 1)), some (.val (.int m)), some (.val (.int x)), some (.val (.int k))] [IO.lst (ns.map D.int), IO.lst [.loc 0, .int a, .int c]] = .nx [some (.val (.loc 1)), some (.val (.int m)), some (.val (.int (x + k))), some (.val (.int k))] [IO.lst (ns.map D.int), IO.lst [.loc 0, .int a, .int c]] := asg_ok (e2_ok (eVar_ok rfl) (eVar_ok rfl) rfl) rfl
      obtain ⟨i, e, r⟩ := draw_end (x := x + k) (y := some (.val (.int k))) (h := [IO.lst (ns.map D.int), IO.lst [.loc 0, .int a, .int c]]) hm
      exact ⟨i, _, (seq_nx ((if_t t).trans ((seq_nx st3).trans ((seq_skip t2).trans st5)))).trans e, sr ns (by omega), r⟩
end
/-! the law's source -/
theorem source_ok {ns : List Int} (hl : ns.length ≤ 63) : ∃ h', d_l_source [.fz (ns.map D.int)] [] = .ok (.loc 1) h' ∧ Sr 0 h' := by
  suffices g : ∃ h', F_l_source [some (.val (.fz (ns.map D.int))), none, none] [] = .rt (.loc 1) h' ∧ Sr 0 h' by
    obtain ⟨h', e, r⟩ := g
    exact ⟨h', runB_rt rfl e, r⟩
  unfold F_l_source
  have st1 : sAsg (eCst (.int 90102)) (tgN 1) [some (.val (.fz (ns.map D.int))), none, none] [] = .nx [some (.val (.fz (ns.map D.int))), some (.val (.int 90102)), none] [] := asg_ok eCst_ok rfl
  rw [seq_nx st1]
  have cut : ∀ {ρ : En} {h : IH}, slot ρ 0 = some (.fz (ns.map D.int)) → eSl slP (eVar 0) none (some (eCst (.int 60))) ρ h = .ok (.lst ((ns.take 60).map D.int)) h := fun {ρ h} e => by
    refine eSl_ok (eVar_ok e) opt_n (opt_s eCst_ok) ?_
    show some (D.lst (cutL (ns.map D.int) none (some (60 : Int)))) = _
    congr 2
    rw [List.map_take]
    unfold cutL HT.sIx
    simp
  have loop : ∀ (ks : List Int) (a : Int) (y : Option Sl), 0 ≤ a → a < 2147483629 → ∃ a' y', loopS (tgN 2) (sAsg (e2 modP (e2 addP (e2 addP (e2 mulP (eVar 1) (eCst (.int 48271))) (e2 modP (eVar 2) (eCst (.int 2147483563)))) (eCst (.int 17))) (eCst (.int 2147483629))) (tgN 1)) (ks.map D.int) [some (.val (.fz (ns.map D.int))), some (.val (.int a)), y] [] = .nx [some (.val (.fz (ns.map D.int))), some (.val (.int a')), y'] [] := by
    intro ks
    induction ks with
    | nil => exact fun a y _ _ => ⟨a, y, rfl⟩
    | cons k ks ih =>
      intro a y h0 h1
      have st : sAsg (e2 modP (e2 addP (e2 addP (e2 mulP (eVar 1) (eCst (.int 48271))) (e2 modP (eVar 2) (eCst (.int 2147483563)))) (eCst (.int 17))) (eCst (.int 2147483629))) (tgN 1) [some (.val (.fz (ns.map D.int))), some (.val (.int a)), some (.val (.int k))] [] = .nx [some (.val (.fz (ns.map D.int))), some (.val (.int ((a * 48271 + k % 2147483563 + 17) % 2147483629))), some (.val (.int k))] [] := asg_ok (e2_ok (e2_ok (e2_ok (e2_ok (eVar_ok rfl) eCst_ok (mul_ok (mul_lo h0 (by omega)))) (e2_ok (eVar_ok rfl) eCst_ok (mod_ok (by decide))) rfl) eCst_ok rfl) eCst_ok (mod_ok (by decide))) rfl
      rw [List.map_cons, loop_nx rfl st]
      exact ih _ _ (Int.emod_nonneg _ (by decide)) (Int.emod_lt_of_pos _ (by decide))
  obtain ⟨a, y, e⟩ := loop (ns.take 60) 90102 none (by decide) (by decide)
  have fo : sFor (iSeq (eSl slP (eVar 0) none (some (eCst (.int 60))))) (tgN 2) (sAsg (e2 modP (e2 addP (e2 addP (e2 mulP (eVar 1) (eCst (.int 48271))) (e2 modP (eVar 2) (eCst (.int 2147483563)))) (eCst (.int 17))) (eCst (.int 2147483629))) (tgN 1)) [some (.val (.fz (ns.map D.int))), some (.val (.int 90102)), none] [] = .nx [some (.val (.fz (ns.map D.int))), some (.val (.int a)), y] [] := (for_ok (iSeq_ok (cut rfl) rfl)).trans e
  rw [seq_nx fo]
  refine ⟨_, ret_ok (new_ok (siz_ok (aCons_ok (new_ok (list_ok (aCons_ok (cut rfl) aNil_ok) rfl)) (aCons_ok (eVar_ok rfl) (aCons_ok eCst_ok aNil_ok))) (by show 3 ≤ 100000; decide))), ns.take 60, a, 0, rfl, by rw [List.length_take]; omega, by decide, by decide⟩
end WR.K02
set_option Elab.async false
set_option linter.all false
set_option autoImplicit false
set_option maxRecDepth 100000
set_option maxHeartbeats 4000000
namespace WR.K02
open PySem PySem.Spec PyProof.Rows L2
/-! ### data that may be shown -/
def Shows (L n : Nat) (d : D) : Prop := ∃ p, D.pd d = some p ∧ p.showable = true ∧ p.shown.length ≤ L ∧ p.depth ≤ n
theorem Shows.mono {L M n m : Nat} {d : D} (h : Shows L n d) (h1 : L ≤ M) (h2 : n ≤ m) : Shows M m d := by
  obtain ⟨p, a, b, c, e⟩ := h
  exact ⟨p, a, b, Nat.le_trans c h1, Nat.le_trans e h2⟩
theorem shows_all {L n : Nat} : ∀ {ds : List D}, (∀ d ∈ ds, Shows L n d) → ∃ ps, D.pdL ds = some ps ∧ PyData.showableAll ps = true ∧ ((PyData.shownAll ps).map (·.length)).sum ≤ L * ds.length ∧ PyData.depthAll ps ≤ n ∧ ps.length = ds.length ∧ (PyData.shownAll ps).length = ds.length
  | [], _ => ⟨[], by simp [D.pdL], by simp [PyData.showableAll], by simp [PyData.shownAll], by simp [PyData.depthAll], rfl, by simp [PyData.shownAll]⟩
  | d :: ds, h => by
    obtain ⟨p, a1, a2, a3, a4⟩ := h d (by simp)
    obtain ⟨ps, b1, b2, b3, b4, b5, b6⟩ := shows_all (ds := ds) fun x hx => h x (by simp [hx])
    refine ⟨p :: ps, by simp [D.pdL, a1, b1], by simp [PyData.showableAll, a2, b2], ?_, ?_, by simp [b5], by simp [PyData.shownAll, b6]⟩
    · simp only [PyData.shownAll, List.map_cons, List.sum_cons, List.length_cons, Nat.mul_succ]
      omega
    · simp only [PyData.depthAll]
      omega
theorem shows_lst {L n k : Nat} {ds : List D} (h : ∀ d ∈ ds, Shows L n d) (hl : ds.length ≤ k) : Shows (L * k + 2 * k + 4) (n + 1) (.lst ds) := by
  obtain ⟨ps, b1, b2, b3, b4, b5, b6⟩ := shows_all h
  refine ⟨.list ps, by simp [D.pd, b1], by simpa [PyData.showable] using b2, ?_, by simp only [PyData.depth]; omega⟩
  have e := textFrom_len_le (PyData.shownAll ps) 0 "["
  have e1 : (Str.ofString "[").length = 1 := by decide
  have e2 : (Str.ofString "]").length = 1 := by decide
  have e3 : L * ds.length ≤ L * k := Nat.mul_le_mul_left L hl
  show (listText (PyData.shownAll ps)).length ≤ _
  unfold listText
  rw [Str.length_append, e2]
  rw [e1, b6] at e
  omega
theorem shows_tup {L n k : Nat} {ds : List D} (h : ∀ d ∈ ds, Shows L n d) (hl : ds.length ≤ k) : Shows (L * k + 2 * k + 4) (n + 1) (.tup ds) := by
  obtain ⟨ps, b1, b2, b3, b4, b5, b6⟩ := shows_all h
  refine ⟨.tuple ps, by simp [D.pd, b1], by simpa [PyData.showable] using b2, ?_, by simp only [PyData.depth]; omega⟩
  have e := StrLaws.join_length_le ", " (PyData.shownAll ps)
  have e1 : (Str.ofString "(").length = 1 := by decide
  have e2 : ((if (PyData.shownAll ps).length == 1 then ",)" else ")" : String) : Str).length ≤ 2 := by split <;> decide
  have e3 : L * ds.length ≤ L * k := Nat.mul_le_mul_left L hl
  have e4 : ((", " : String) : Str).length = 2 := by decide
  show (tupleText (PyData.shownAll ps)).length ≤ _
  unfold tupleText
  rw [Str.length_append, Str.length_append, e1]
  rw [e4, b6] at e
  omega
theorem shows_int {i : Int} (h1 : -(10 ^ 40) < i) (h2 : i < 10 ^ 40) : Shows 4000 2 (.int i) := by
  have h : i.natAbs < 10 ^ 40 := by omega
  have hs : i.natAbs.log2 < 1920 := by
    have : i.natAbs < 2 ^ 1920 := Nat.lt_trans h (by decide)
    by_cases h0 : i.natAbs = 0
    · rw [h0]; decide
    · exact (Nat.log2_lt h0).mpr this
  refine ⟨.int i, by simp [D.pd], by simp [PyData.showable, hs], ?_, by simp [PyData.depth]⟩
  have := int_text_len_1921 hs
  have e := int_text_length_le10 (a := i) (k := 40) (by decide) h
  have e2 : (Str.ofString (toString i)).length = (toString i).length := PySem.ofString_length _
  show (Str.ofString (toString i)).length ≤ 4000
  omega
theorem strOk_lt {x : Str} (h : PyData.strOk x = true) : ∀ c ∈ x.cps.toList, c < 16 ^ 8 := by
  intro c hc
  unfold PyData.strOk at h
  rw [← Array.all_toList, List.all_eq_true] at h
  have := of_decide_eq_true (h c hc)
  omega
theorem shows_str {x : Str} (h : PyData.strOk x = true) (hl : x.length ≤ 399) : Shows 4000 2 (.str x) := ⟨.str x, by simp [D.pd], by simp [PyData.showable], by
  have := StrLaws.reprText_len x (strOk_lt h)
  show (reprText x).length ≤ 4000
  omega, by simp [PyData.depth]⟩
theorem shows_bl (b : Bool) : Shows 4000 2 (.bl b) := ⟨.bool b, by simp [D.pd], by simp [PyData.showable], by cases b <;> decide +kernel, by simp [PyData.depth]⟩
theorem shows_non : Shows 4000 2 .non := ⟨.none, by simp [D.pd], by simp [PyData.showable], by decide +kernel, by simp [PyData.depth]⟩
/-- repr(x) -/
def shownD (d : D) : Str := match D.pd d with
  | some p => p.shown
  | none => Str.empty
theorem shows_lk {L n : Nat} {d : D} {h : IH} (s : Shows L n d) : lk h d = d := by
  obtain ⟨p, e, _⟩ := s
  cases d <;> first | rfl | (simp [D.pd] at e)
theorem repr_ok {f : En → M D} {ρ : En} {h h1 : IH} {d : D} {L n : Nat} (e : f ρ h = .ok d h1) (s : Shows L n d) (hL : L ≤ 16777216) (hn : n ≤ 100) : eN reprP (aCons f aNil) ρ h = .ok (.str (shownD d)) h1 := by
  refine eN_ok (aCons_ok e aNil_ok) ?_
  show (match D.pd (lk h1 d) with
    | some p => if p.showable = true ∧ p.shown.length ≤ sizeLine ∧ p.depth ≤ 100 then some (D.str p.shown) else none
    | none => none) = _
  rw [shows_lk s]
  obtain ⟨p, e1, e2, e3, e4⟩ := s
  unfold shownD
  rw [e1]
  dsimp only
  rw [if_pos ⟨e2, Nat.le_trans e3 hL, Nat.le_trans e4 hn⟩]
theorem eq_strs (x y : Str) : eqT (.str x) (.str y) = some (decide (x = y)) := by
  unfold eqT
  rw [if_neg (by simp [lenNe, lstOf])]
  have e : ∀ k : Str, D.pd (.str k) = some (.str k) := fun k => by simp [D.pd]
  have s : ∀ k : Str, shp (.str k) = true := fun k => shp_of (by simp [PyData.plain]) (by simp [PyData.depth])
  rw [e, e]
  dsimp only
  rw [if_pos ⟨s x, s y⟩]
  simp only [PyData.eqv]
  congr 1
theorem eq_strL (xs ys : List Str) : eqT (.lst (xs.map D.str)) (.lst (ys.map D.str)) = some (decide (xs = ys)) := by
  unfold eqT
  have pd : ∀ zs : List Str, D.pdL (zs.map D.str) = some (zs.map PyData.str) := fun zs => by
    induction zs with
    | nil => simp [D.pdL]
    | cons z zs ih => simp [D.pdL, D.pd, ih]
  have pl : ∀ zs : List Str, PyData.plainAll (zs.map PyData.str) = true ∧ PyData.depthAll (zs.map PyData.str) = 0 := fun zs => by
    induction zs with
    | nil => simp [PyData.plainAll, PyData.depthAll]
    | cons z zs ih => simp [PyData.plainAll, PyData.plain, PyData.depthAll, PyData.depth, ih]
  have s : ∀ zs : List Str, shp (.list (zs.map PyData.str)) = true := fun zs => shp_of (by simp [PyData.plain, pl]) (by simp [PyData.depth, pl])
  have ev : ∀ (xs ys : List Str), PyData.eqvAll (xs.map PyData.str) (ys.map PyData.str) = decide (xs = ys) := by
    intro xs
    induction xs with
    | nil => intro ys; cases ys <;> simp [PyData.eqvAll]
    | cons x xs ih =>
      intro ys
      cases ys with
      | nil => simp [PyData.eqvAll]
      | cons y ys =>
        simp only [List.map_cons, PyData.eqvAll, PyData.eqv, ih]
        by_cases h1 : x = y <;> by_cases h2 : xs = ys <;> simp [h1, h2]
  by_cases hl : xs.length = ys.length
  · rw [if_neg (by simp [lenNe, lstOf, hl])]
    have e : ∀ zs : List Str, D.pd (.lst (zs.map D.str)) = some (.list (zs.map PyData.str)) := fun zs => by simp [D.pd, pd]
    rw [e, e]
    dsimp only
    rw [if_pos ⟨s xs, s ys⟩]
    show some (PyData.eqvAll _ _) = _
    rw [ev]
  · rw [if_pos (by simp [lenNe, lstOf, hl]), decide_eq_false fun e => hl (by rw [e])]
end WR.K02
set_option Elab.async false
set_option linter.all false
set_option autoImplicit false
set_option maxRecDepth 100000
set_option maxHeartbeats 4000000
namespace WR.K02
open PySem PySem.Spec PyProof.Rows L2
open TL (joinL tl tl_join join_eq)
/-! ### picks, words -/
theorem at_mem {α : Type} {ds : List α} {i : Int} (h0 : 0 ≤ i) (h1 : i < (ds.length : Nat)) : ∃ d, atI ds i = some d ∧ d ∈ ds := by
  obtain ⟨j, rfl⟩ : ∃ j : Nat, i = (j : Int) := ⟨i.toNat, by omega⟩
  have hj : j < ds.length := by omega
  exact ⟨ds[j], atI_nat (List.getElem?_eq_getElem hj), List.getElem_mem hj⟩
theorem at_get {α : Type} {ds : List α} {i : Int} (h0 : 0 ≤ i) (h1 : i < (ds.length : Nat)) : ∃ (j : Nat) (hj : j < ds.length), i = (j : Int) ∧ atI ds i = some ds[j] := by
  obtain ⟨j, rfl⟩ : ∃ j : Nat, i = (j : Int) := ⟨i.toNat, by omega⟩
  have hj : j < ds.length := by omega
  exact ⟨j, hj, rfl, atI_nat (List.getElem?_eq_getElem hj)⟩
section
variable {ρ : En} {h : IH} {n : Nat}
/-- _law_draw(source, many) -/
theorem call_draw {i : Nat} {fm : En → M D} {m : Int} (hi : slot ρ i = some (.loc 1)) (hf : fm ρ h = .ok (.int m) h) (s : Sr n h) (hn : n < 1000000000) (hm : 0 < m) (hm2 : m < 1073741824) : ∃ (k : Int) (h' : IH), eCallK 2 0 bdId d_l_draw (aCons (eVar i) (aCons fm aNil)) aNil ρ h = .ok (.int k) h' ∧ Sr (n + 1) h' ∧ 0 ≤ k ∧ k < m := by
  obtain ⟨k, h', e, r⟩ := draw_ok s hn hm hm2
  exact ⟨k, h', eCallK_ok (aCons_ok (eVar_ok hi) (aCons_ok hf aNil_ok)) aNil_ok ⟨rfl, rfl⟩ rfl e, r⟩
theorem pick_ok {ds : List D} (s : Sr n h) (hn : n < 1000000000) (h0 : 0 < ds.length) (h1 : ds.length ≤ 1000) : ∃ (d : D) (h' : IH), d_l_pick [.loc 1, .lst ds] h = .ok d h' ∧ Sr (n + 1) h' ∧ d ∈ ds := by
  obtain ⟨k, h', e, s', k0, k1⟩ := call_draw (ρ := [some (.val (.loc 1)), some (.val (.lst ds))]) (i := 0) (fm := eN lenP (aCons (eVar 1) aNil)) (m := (ds.length : Nat)) rfl (eN_ok (aCons_ok (eVar_ok rfl) aNil_ok) rfl) s hn (by omega) (by omega)
  obtain ⟨d, ed, md⟩ := at_mem (ds := ds) k0 k1
  exact ⟨d, h', runB_rt rfl (ret_ok (e2_ok (eVar_ok rfl) e ed)), s', md⟩
theorem pick_str {x : Str} (s : Sr n h) (hn : n < 1000000000) (h0 : 0 < x.length) (h1 : x.length ≤ 1000) : ∃ (c : Nat) (h' : IH), d_l_pick [.loc 1, .str x] h = .ok (.str ⟨#[c]⟩) h' ∧ Sr (n + 1) h' ∧ c ∈ x.cps.toList := by
  obtain ⟨k, h', e, s', k0, k1⟩ := call_draw (ρ := [some (.val (.loc 1)), some (.val (.str x))]) (i := 0) (fm := eN lenP (aCons (eVar 1) aNil)) (m := (x.length : Nat)) rfl (len_str rfl h1) s hn (by omega) (by omega)
  obtain ⟨c, ed, md⟩ := at_mem (ds := x.cps.toList) k0 (by rw [Array.length_toList]; exact k1)
  refine ⟨c, h', runB_rt rfl (ret_ok (e2_ok (eVar_ok rfl) e ?_)), s', md⟩
  show (if x.length ≤ sizeLine then (atI x.cps.toList k).map (fun c => D.str ⟨#[c]⟩) else none) = _
  rw [if_pos (Nat.le_trans h1 (by decide)), ed]
  rfl
/-- a pick in an expression -/
theorem call_pick {i : Nat} {fm : En → M D} {ds : List D} {h1 : IH} (hi : slot ρ i = some (.loc 1)) (hf : fm ρ h = .ok (.lst ds) h1) (s : Sr n h1) (hn : n < 1000000000) (h0 : 0 < ds.length) (hl : ds.length ≤ 1000) : ∃ (d : D) (h' : IH), eCallK 2 0 bdId d_l_pick (aCons (eVar i) (aCons fm aNil)) aNil ρ h = .ok d h' ∧ Sr (n + 1) h' ∧ d ∈ ds := by
  obtain ⟨k, h', e, r⟩ := pick_ok s hn h0 hl
  exact ⟨k, h', eCallK_ok (aCons_ok (eVar_ok hi) (aCons_ok hf aNil_ok)) aNil_ok ⟨rfl, rfl⟩ rfl e, r⟩
end
/-- a comprehension without a test: so many values -/
theorem lc_all {tg : D → En → Option En} {f : En → M D} {ρ : En} {ds : List D} (I : Nat → IH → Prop) (P : D → Prop) (hs : ∀ (k : Nat) (d : D) (h : IH), d ∈ ds → k < ds.length → I k h → ∃ ρ1, tg d ρ = some ρ1 ∧ ∃ x h2, f ρ1 h = .ok x h2 ∧ P x ∧ I (k + 1) h2) : ∀ (ds' : List D), (∀ d ∈ ds', d ∈ ds) → ∀ (k : Nat) (h : IH), k + ds'.length ≤ ds.length → I k h → ∃ xs h', lcRun tg tYs f ρ ds' h = .ok xs h' ∧ I (k + ds'.length) h' ∧ xs.length = ds'.length ∧ ∀ x ∈ xs, P x
  | [], _, k, h, _, q => ⟨[], h, rfl, q, rfl, fun _ z => nomatch z⟩
  | d :: ds', hm, k, h, hk, q => by
    have hk' : k + (ds'.length + 1) ≤ ds.length := hk
    obtain ⟨ρ1, e0, x, h2, e2, px, q1⟩ := hs k d h (hm d (by simp)) (by omega) q
    obtain ⟨xs, h', e3, q3, l3, p3⟩ := lc_all I P hs ds' (fun d hd => hm d (by simp [hd])) (k + 1) h2 (by omega) q1
    refine ⟨x :: xs, h', ?_, by rw [List.length_cons, Nat.add_comm ds'.length 1, ← Nat.add_assoc]; exact q3, by simp [l3], fun y hy => ?_⟩
    · simp only [lcRun, M.of, M.bind, M.pure, tYs, e0, e2, e3, if_true]
    · rcases List.mem_cons.mp hy with rfl | hy
      · exact px
      · exact p3 y hy
theorem mLc_all {g : En → M (List D)} {vs : List Nat} {tg : D → En → Option En} {f : En → M D} {ρ : En} {ds : List D} {h h1 : IH} (I : Nat → IH → Prop) (P : D → Prop) (e : g ρ h = .ok ds h1) (hI : I 0 h1) (hs : ∀ (k : Nat) (d : D) (h : IH), d ∈ ds → k < ds.length → I k h → ∃ ρ1, tg d (wipeE ρ vs) = some ρ1 ∧ ∃ x h2, f ρ1 h = .ok x h2 ∧ P x ∧ I (k + 1) h2) : ∃ xs h', mLc g vs tg tYs f ρ h = .ok xs h' ∧ I ds.length h' ∧ xs.length = ds.length ∧ ∀ x ∈ xs, P x := by
  obtain ⟨xs, h', e1, i1, l1, p1⟩ := lc_all I P hs ds (fun _ z => z) 0 h1 (by omega) hI
  refine ⟨xs, h', ?_, by rw [Nat.zero_add] at i1; exact i1, l1, p1⟩
  unfold mLc
  rw [bind_ok e]
  exact noX_ok e1
theorem nameB_str {d : D} (h : nameB d = true) : ∃ x, d = .str x ∧ nameS x = true := by
  cases d with
  | str x => exact ⟨x, rfl, h⟩
  | _ => exact absurd h (by simp [nameB])
def Lett (d : D) : Prop := ∃ c, d = .str ⟨#[c]⟩ ∧ lowB c = true
theorem strs_lett : ∀ {ds : List D}, (∀ d ∈ ds, Lett d) → ∃ ys, strsOf ds = some ys ∧ ys.length = ds.length ∧ (ys.map (·.length)).sum = ds.length ∧ (joinL [] (ys.map tl)).length = ds.length ∧ (joinL [] (ys.map tl)).all lowB = true
  | [], _ => ⟨[], rfl, rfl, rfl, rfl, rfl⟩
  | d :: ds, h => by
    obtain ⟨c, rfl, hc⟩ := h d (by simp)
    obtain ⟨ys, e1, e2, e3, e4, e5⟩ := strs_lett (ds := ds) fun x hx => h x (by simp [hx])
    refine ⟨⟨#[c]⟩ :: ys, ?_, by simp [e2], ?_, ?_⟩
    · show (strsOf ds).map (_ :: ·) = _
      rw [e1]
      rfl
    · rw [List.map_cons, List.sum_cons, e3, List.length_cons]
      show 1 + ds.length = _
      omega
    · cases ys with
      | nil =>
        have : ds.length = 0 := e2.symm
        refine ⟨?_, ?_⟩
        · show [c].length = ds.length + 1
          rw [this]
          rfl
        · show [c].all lowB = true
          simp [hc]
      | cons y ys =>
        refine ⟨?_, ?_⟩
        · show ([c] ++ ([] ++ joinL [] ((y :: ys).map tl))).length = ds.length + 1
          rw [List.nil_append, List.length_append, e4]
          show 1 + ds.length = _
          omega
        · show ([c] ++ ([] ++ joinL [] ((y :: ys).map tl))).all lowB = true
          rw [List.nil_append, List.all_append, e5]
          simp [hc]
/-- "".join(letters) -/
theorem join_ok {f : En → M D} {ρ : En} {h h1 : IH} {ds : List D} (e : f ρ h = .ok (.lst ds) h1) (hd : ∀ d ∈ ds, Lett d) (h0 : 0 < ds.length) (h8 : ds.length ≤ 8) : ∃ x, eSm pJoin (eCst (.str "")) (aCons f aNil) ρ h = .ok (.str x) h1 ∧ nameS x = true := by
  obtain ⟨ys, e1, e2, e3, e4, e5⟩ := strs_lett hd
  have z : ((("" : String) : Str)).length = 0 := by decide
  have tz : tl ((("" : String) : Str)) = [] := by decide
  refine ⟨Txt.join "" ys, ?_, ?_⟩
  · unfold eSm
    rw [bind_ok eCst_ok, bind_ok (of_ok (rfl : asS (.str "") = some "")), bind_ok (aCons_ok e aNil_ok)]
    refine of_ok ?_
    show (match strsOf ds with
      | some (ys : List Str) => if (ys.map fun z : Str => z.length).sum + ys.length * (("" : String) : Str).length ≤ 16777216 then some (D.str (Txt.join "" ys)) else none
      | none => none) = _
    rw [e1]
    dsimp only
    rw [e3, z, if_pos (by omega)]
  · have t : (Txt.join "" ys).cps.toList = joinL [] (ys.map tl) := by
      rw [join_eq]
      exact (tl_join "" ys).trans (by rw [tz])
    unfold nameS lenB
    have l : (Txt.join "" ys).length = ds.length := by
      show (Txt.join "" ys).cps.size = _
      rw [← Array.length_toList, t, e4]
    rw [t, e5, l, decide_eq_true (show 1 ≤ ds.length by omega), decide_eq_true h8]
    rfl
def wordsL : List D := [.str "a", .str "b", .str "ab", .str "ba", .str "t", .str "p", .str "names", .str "row", .str "insert", .str "key", .str "old", .str "abcdefgh", .str "abcdefgz", .str "z"]
theorem word_ok {n : Nat} {h : IH} (s : Sr n h) (hn : n < 100000000) : ∃ (x : Str) (h' : IH), d_l_word [.loc 1] h = .ok (.str x) h' ∧ Sr (n + 10) h' ∧ nameS x = true := by
  suffices g : ∃ (x : Str) (h' : IH), F_l_word [some (.val (.loc 1)), none, none, none, none] h = .rt (.str x) h' ∧ Sr (n + 10) h' ∧ nameS x = true by
    obtain ⟨i, h', e, r⟩ := g
    exact ⟨i, h', runB_rt rfl e, r⟩
  unfold F_l_word
  refine Exists.imp (fun x => Exists.imp fun h' (z : _ ∧ _) => ⟨(seq_nx (asg_ok eCst_ok rfl)).trans z.1, z.2⟩) ?_
  have st2 : sAsg (eFz (sizM (aCons (eCst (.str "a")) (aCons (eCst (.str "b")) (aCons (eCst (.str "ab")) (aCons (eCst (.str "ba")) (aCons (eCst (.str "t")) (aCons (eCst (.str "p")) (aCons (eCst (.str "names")) (aCons (eCst (.str "row")) (aCons (eCst (.str "insert")) (aCons (eCst (.str "key")) (aCons (eCst (.str "old")) (aCons (eCst (.str "abcdefgh")) (aCons (eCst (.str "abcdefgz")) (aCons (eCst (.str "z")) (aNil))))))))))))))))) (tgN 2) [some (.val (.loc 1)), some (.val (.str "abcdefghijklmnopqrstuvwxyz")), none, none, none] h = .nx [some (.val (.loc 1)), some (.val (.str "abcdefghijklmnopqrstuvwxyz")), some (.val (.lst wordsL)), none, none] h := rfl
  obtain ⟨i, h1, e1, s1, i0, i1⟩ := call_draw (ρ := [some (.val (.loc 1)), some (.val (.str "abcdefghijklmnopqrstuvwxyz")), some (.val (.lst wordsL)), none, none]) (i := 0) (fm := eCst (.int 20)) (m := 20) rfl eCst_ok s (by omega) (by decide) (by decide)
  have t : tst (e2 ltP (eVar 3) (eCst (.int 14))) [some (.val (.loc 1)), some (.val (.str "abcdefghijklmnopqrstuvwxyz")), some (.val (.lst wordsL)), some (.val (.int i)), none] h1 = .ok (decide (i < 14)) h1 := tst_ok (e2_ok (eVar_ok rfl) eCst_ok rfl)
  refine Exists.imp (fun x => Exists.imp fun h' (z : _ ∧ _) => ⟨(seq_nx st2).trans ((seq_nx (asg_ok e1 rfl)).trans z.1), z.2⟩) ?_
  by_cases hi : i < 14
  · rw [decide_eq_true hi] at t
    obtain ⟨d, ed, md⟩ := at_mem (ds := wordsL) i0 hi
    have wn : wordsL.all nameB = true := by decide +kernel
    obtain ⟨x, rfl, hx⟩ := nameB_str (List.all_eq_true.mp wn d md)
    exact ⟨x, h1, seq_take t (ret_ok (e2_ok (eVar_ok rfl) (eVar_ok rfl) ed)), s1.mono (by omega), hx⟩
  · rw [decide_eq_false hi] at t
    obtain ⟨j, h2, e2', s2, j0, j1⟩ := call_draw (ρ := [some (.val (.loc 1)), some (.val (.str "abcdefghijklmnopqrstuvwxyz")), some (.val (.lst wordsL)), some (.val (.int i)), none]) (i := 0) (fm := eCst (.int 8)) (m := 8) rfl eCst_ok s1 (by omega) (by decide) (by decide)
    have er : iOf rng1 (aCons (e2 addP (eCst (.int 1)) (eCallK 2 0 bdId d_l_draw (aCons (eVar 0) (aCons (eCst (.int 8)) aNil)) aNil)) aNil) [some (.val (.loc 1)), some (.val (.str "abcdefghijklmnopqrstuvwxyz")), some (.val (.lst wordsL)), some (.val (.int i)), none] h1 = .ok (rngD 0 (1 + j).toNat) h2 := by
      refine iOf_ok (aCons_ok (e2_ok eCst_ok e2' rfl) aNil_ok) ?_
      show (if -(2 ^ 62) ≤ (1 + j) ∧ (1 + j) < 2 ^ 62 then some (rngD 0 (1 + j).toNat) else none) = _
      rw [if_pos ⟨by omega, by omega⟩]
    have ll : (rngD 0 (1 + j).toNat).length = (1 + j).toNat := by simp [rngD]
    obtain ⟨xs, h3, e3, i3, l3, p3⟩ := mLc_all (vs := [4]) (tg := tgN 4) (f := eCallK 2 0 bdId d_l_pick (aCons (eVar 0) (aCons (eVar 1) aNil)) aNil) (fun k h => Sr (n + 2 + k) h) Lett er s2 (fun k d h hd hk sk => by
      obtain ⟨c, h', e, s', mc⟩ := pick_str (x := "abcdefghijklmnopqrstuvwxyz") sk (by rw [ll] at hk; omega) (by decide) (by decide)
      refine ⟨_, rfl, _, h', eCallK_ok (aCons_ok (eVar_ok rfl) (aCons_ok (eVar_ok rfl) aNil_ok)) aNil_ok ⟨rfl, rfl⟩ rfl e, ⟨c, rfl, ?_⟩, s'⟩
      rw [← letters_mem]
      exact decide_eq_true mc)
    rw [ll] at l3 i3
    obtain ⟨x, ex, hx⟩ := join_ok (fz_ok (siz_ok e3 (by omega))) p3 (by omega) (by omega)
    exact ⟨x, h3, (seq_skip t).trans (ret_ok ex), i3.mono (by omega), hx⟩
theorem call_word {ρ : En} {n i : Nat} {h : IH} (hi : slot ρ i = some (.loc 1)) (s : Sr n h) (hn : n < 100000000) : ∃ (x : Str) (h' : IH), eCallK 1 0 bdId d_l_word (aCons (eVar i) aNil) aNil ρ h = .ok (.str x) h' ∧ Sr (n + 10) h' ∧ nameS x = true := by
  obtain ⟨k, h', e, r⟩ := word_ok s hn
  exact ⟨k, h', eCallK_ok (aCons_ok (eVar_ok hi) aNil_ok) aNil_ok ⟨rfl, rfl⟩ rfl e, r⟩
end WR.K02
set_option Elab.async false
set_option linter.all false
set_option autoImplicit false
set_option maxRecDepth 100000
set_option maxHeartbeats 4000000
namespace WR.K02
open PySem PySem.Spec PyProof.Rows L2
/-! ### the values that are drawn -/
/-- an item -/
structure Iv (d : D) : Prop where
  ty : Tyd d
  st : ∀ x, d = .str x → x.length ≤ 399 ∧ PyData.strOk x = true
  sh : Shows 4000 2 d
/-- an argument -/
structure Av (n : Nat) (d : D) : Prop where
  ty : Tyd d
  st : ∀ x, d = .str x → x.length ≤ 399 ∧ PyData.strOk x = true
  sh : Shows 100000 4 d
  tp : ∀ ds, d = .tup ds → ds.length ≤ n ∧ ∀ x ∈ ds, Iv x
theorem Iv.itm {d : D} (h : Iv d) : Itm d := ⟨h.ty, fun x e => by have := (h.st x e).1; omega⟩
theorem Av.itm {n : Nat} {d : D} (h : Av n d) : Itm d := ⟨h.ty, fun x e => by have := (h.st x e).1; omega⟩
theorem Av.val {n : Nat} {d : D} (h : Av n d) (hn : n ≤ 1000) : Val d := ⟨h.itm, fun ds e => ⟨by have := (h.tp ds e).1; omega, fun x hx => ((h.tp ds e).2 x hx).itm⟩⟩
theorem Av.strs {n : Nat} {d : D} (h : Av n d) : StrsOk d := fun ds e y hy x ex => (((h.tp ds e).2 y hy).st x ex).2
theorem Av.mono {n m : Nat} {d : D} (h : Av n d) (hm : n ≤ m) : Av m d := ⟨h.ty, h.st, h.sh, fun ds e => ⟨Nat.le_trans (h.tp ds e).1 hm, (h.tp ds e).2⟩⟩
theorem av_tup {n : Nat} {ds : List D} (hl : ds.length ≤ n) (hn : n ≤ 20) (h : ∀ x ∈ ds, Iv x) : Av n (.tup ds) := by
  refine ⟨trivial, ?_, ((shows_tup (fun x hx => (h x hx).sh) hl).mono (by omega) (by decide)), ?_⟩
  · intro x e
    cases e
  · intro es e
    cases e
    exact ⟨hl, h⟩
theorem av_lst {n : Nat} {ds : List D} (hl : ds.length ≤ 20) (h : ∀ x ∈ ds, Iv x) : Av n (.lst ds) := by
  refine ⟨trivial, ?_, ((shows_lst (fun x hx => (h x hx).sh) hl).mono (by omega) (by decide)), ?_⟩
  · intro x e
    cases e
  · intro es e
    cases e
theorem name_len {x : Str} (h : nameS x = true) : 1 ≤ x.length ∧ x.length ≤ 8 := by
  unfold nameS lenB at h
  simp only [Bool.and_eq_true, decide_eq_true_eq] at h
  exact h.1
theorem iv_str {x : Str} (hl : x.length ≤ 399) (h : PyData.strOk x = true) : Iv (.str x) := by
  refine ⟨trivial, ?_, shows_str h hl⟩
  intro y e
  cases e
  exact ⟨hl, h⟩
theorem iv_name {x : Str} (h : nameS x = true) : Iv (.str x) := iv_str (by have := (name_len h).2; omega) (nameS_ok h)
theorem iv_int {i : Int} (h1 : -(10 ^ 40) < i) (h2 : i < 10 ^ 40) : Iv (.int i) := by
  refine ⟨trivial, ?_, shows_int h1 h2⟩
  intro y e
  cases e
theorem iv_bl (b : Bool) : Iv (.bl b) := by
  refine ⟨trivial, ?_, shows_bl b⟩
  intro y e
  cases e
theorem iv_non : Iv .non := by
  refine ⟨trivial, ?_, shows_non⟩
  intro y e
  cases e
/-- another value -/
def Ot (d : D) : Prop := Iv d ∧ ∀ ds, d = .tup ds → ds.length ≤ 3 ∧ ∀ x ∈ ds, Iv x
theorem Ot.av {d : D} (h : Ot d) : Av 3 d := ⟨h.1.ty, h.1.st, h.1.sh.mono (by decide) (by decide), h.2⟩
theorem ot_of {d : D} (h : Iv d) (ht : ∀ ds, d ≠ .tup ds) : Ot d := ⟨h, fun ds e => absurd e (ht ds)⟩
theorem iv_tup0 : Iv (.tup []) := by
  refine ⟨trivial, ?_, (shows_tup (ds := []) (L := 0) (n := 0) (k := 0) (fun _ z => nomatch z) (by decide)).mono (by decide) (by decide)⟩
  intro y e
  cases e
theorem iv_lst0 : Iv (.lst []) := by
  refine ⟨trivial, ?_, (shows_lst (ds := []) (L := 0) (n := 0) (k := 0) (fun _ z => nomatch z) (by decide)).mono (by decide) (by decide)⟩
  intro y e
  cases e
theorem iv_dct0 : Iv (.dct []) := by
  refine ⟨trivial, ?_, ⟨.dict [], by simp [D.pd, D.pdK], by simp [PyData.showable, PyData.showableKv], by decide +kernel, by simp [PyData.depth, PyData.depthKv]⟩⟩
  intro y e
  cases e
theorem sh1 {x : Str} (h : (reprText x).length ≤ 20) : Shows 20 0 (.str x) := ⟨.str x, by simp [D.pd], by simp [PyData.showable], h, by simp [PyData.depth]⟩
theorem sh_a : Shows 20 0 (.str "a") := sh1 (by decide +kernel)
theorem sh_b : Shows 20 0 (.str "b") := sh1 (by decide +kernel)
theorem sh_c : Shows 20 0 (.str "c") := sh1 (by decide +kernel)
theorem iv_tup {ds : List D} (hl : ds.length ≤ 3) (h : ∀ d ∈ ds, Shows 20 0 d) : Iv (.tup ds) := by
  refine ⟨trivial, ?_, (shows_tup (fun x hx => h x hx) hl).mono (by decide) (by decide)⟩
  intro y e
  cases e
theorem iv_lst {ds : List D} (hl : ds.length ≤ 3) (h : ∀ d ∈ ds, Shows 20 0 d) : Iv (.lst ds) := by
  refine ⟨trivial, ?_, (shows_lst (fun x hx => h x hx) hl).mono (by decide) (by decide)⟩
  intro y e
  cases e
theorem iv_tt : Iv (.tup [.tup []]) := by
  refine ⟨trivial, ?_, (shows_tup (L := 20) (n := 1) (k := 1) (fun x hx => ?_) (by decide)).mono (by decide) (by decide)⟩
  · intro y e
    cases e
  · rw [List.mem_singleton.mp hx]
    exact (shows_tup (ds := []) (L := 0) (n := 0) (k := 0) (fun _ z => nomatch z) (by decide)).mono (by decide) (by decide)
def a300 : Str := repS "a" 300
theorem a300_len : a300.length = 300 := by decide +kernel
theorem a300_ok : PyData.strOk a300 = true := by decide +kernel
def oth1 (far : Int) : List D := [.non, .bl true, .bl false, .int 0, .int 1, .int far, .str "", .str "A", .str "a1", .str "a b", .str "abcdefghi", .str "a,", .str "-", .str "aA", .str "\n", .str "{", .str "a.b"]
def oth2 : List D := [.tup [], .lst [], .dct [], .tup [.str "a"], .lst [.str "a"], .tup [.str "a", .str "b", .str "c"], .tup [.tup []], .str a300]
theorem oth1_ot {far : Int} (h1 : -(10 ^ 40) < far) (h2 : far < 10 ^ 40) : ∀ d ∈ oth1 far, Ot d := by
  intro d hd
  simp only [oth1, List.mem_cons, List.not_mem_nil, or_false] at hd
  rcases hd with rfl | rfl | rfl | rfl | rfl | rfl | rfl | rfl | rfl | rfl | rfl | rfl | rfl | rfl | rfl | rfl | rfl
  · exact ot_of iv_non fun _ e => by cases e
  · exact ot_of (iv_bl _) fun _ e => by cases e
  · exact ot_of (iv_bl _) fun _ e => by cases e
  · exact ot_of (iv_int (by decide) (by decide)) fun _ e => by cases e
  · exact ot_of (iv_int (by decide) (by decide)) fun _ e => by cases e
  · exact ot_of (iv_int h1 h2) fun _ e => by cases e
  all_goals exact ot_of (iv_str (by decide +kernel) (by decide +kernel)) fun _ e => by cases e
theorem oth2_ot : ∀ d ∈ oth2, Ot d := by
  intro d hd
  simp only [oth2, List.mem_cons, List.not_mem_nil, or_false] at hd
  have na : ∀ x : String, PyData.strOk x = true → (x : Str).length ≤ 399 → Iv (.str x) := fun x h1 h2 => iv_str h2 h1
  rcases hd with rfl | rfl | rfl | rfl | rfl | rfl | rfl | rfl
  · exact ⟨iv_tup0, fun ds e => by cases e; exact ⟨by decide, fun _ z => nomatch z⟩⟩
  · exact ot_of iv_lst0 fun _ e => by cases e
  · exact ot_of iv_dct0 fun _ e => by cases e
  · refine ⟨iv_tup (by decide) fun d hd => ?_, fun ds e => ?_⟩
    · rw [List.mem_singleton.mp hd]
      exact sh_a
    · cases e
      refine ⟨by decide, fun d hd => ?_⟩
      rw [List.mem_singleton.mp hd]
      exact iv_str (by decide +kernel) (by decide +kernel)
  · refine ot_of (iv_lst (by decide) fun d hd => ?_) fun _ e => by cases e
    rw [List.mem_singleton.mp hd]
    exact sh_a
  · refine ⟨iv_tup (by decide) fun d hd => ?_, fun ds e => ?_⟩
    · simp only [List.mem_cons, List.not_mem_nil, or_false] at hd
      rcases hd with rfl | rfl | rfl
      · exact sh_a
      · exact sh_b
      · exact sh_c
    · cases e
      refine ⟨by decide, fun d hd => ?_⟩
      simp only [List.mem_cons, List.not_mem_nil, or_false] at hd
      rcases hd with rfl | rfl | rfl <;> exact iv_str (by decide +kernel) (by decide +kernel)
  · refine ⟨iv_tt, fun ds e => ?_⟩
    cases e
    refine ⟨by decide, fun d hd => ?_⟩
    rw [List.mem_singleton.mp hd]
    exact iv_tup0
  · exact ot_of (iv_str (by rw [a300_len]; decide) a300_ok) fun _ e => by cases e
theorem other_ok {n : Nat} {h : IH} (s : Sr n h) (hn : n < 100000000) : ∃ (d : D) (h' : IH), d_l_other [.loc 1] h = .ok d h' ∧ Sr (n + 2) h' ∧ Ot d := by
  suffices g : ∃ (d : D) (h' : IH), F_l_other [some (.val (.loc 1)), none, none] h = .rt d h' ∧ Sr (n + 2) h' ∧ Ot d by
    obtain ⟨i, h', e, r⟩ := g
    exact ⟨i, h', runB_rt rfl e, r⟩
  unfold F_l_other
  obtain ⟨i, h1, e1, s1, i0, i1⟩ := call_draw (ρ := [some (.val (.loc 1)), none, none]) (i := 0) (fm := eCst (.int 1000)) (m := 1000) rfl eCst_ok s (by omega) (by decide) (by decide)
  have hf1 : -(10 ^ 40) < (10 : Int) ^ (39 : Int).toNat + i := by
    have : (10 : Int) ^ (39 : Int).toNat = 10 ^ 39 := rfl
    omega
  have hf2 : (10 : Int) ^ (39 : Int).toNat + i < 10 ^ 40 := by
    have : (10 : Int) ^ (39 : Int).toNat = 10 ^ 39 := rfl
    omega
  have st1 : sAsg (e2 addP (e2 powP (eCst (.int 10)) (eCst (.int 39))) (eCallK 2 0 bdId d_l_draw (aCons (eVar 0) (aCons (eCst (.int 1000)) aNil)) aNil)) (tgN 1) [some (.val (.loc 1)), none, none] h = .nx [some (.val (.loc 1)), some (.val (.int ((10 : Int) ^ (39 : Int).toNat + i))), none] h1 := asg_ok (e2_ok (e2_ok eCst_ok eCst_ok (pow_ok ⟨by decide, by decide, by decide⟩)) e1 rfl) rfl
  rw [seq_nx st1]
  generalize (10 : Int) ^ (39 : Int).toNat + i = far at hf1 hf2
  have st2 : sAsg (eFz (sizM (aCons (eCst .non) (aCons (eCst (.bl true)) (aCons (eCst (.bl false)) (aCons (eCst (.int 0)) (aCons (eCst (.int 1)) (aCons (eVar 1) (aCons (eCst (.str "")) (aCons (eCst (.str "A")) (aCons (eCst (.str "a1")) (aCons (eCst (.str "a b")) (aCons (eCst (.str "abcdefghi")) (aCons (eCst (.str "a,")) (aCons (eCst (.str "-")) (aCons (eCst (.str "aA")) (aCons (eCst (.str "\n")) (aCons (eCst (.str "{")) (aCons (eCst (.str "a.b")) (aNil)))))))))))))))))))) (tgN 2) [some (.val (.loc 1)), some (.val (.int far)), none] h1 = .nx [some (.val (.loc 1)), some (.val (.int far)), some (.val (.lst (oth1 far)))] h1 := rfl
  rw [seq_nx st2]
  have rep : mulP h1 (.str "a") (.int 300) = some (.str a300) := by
    show (if 1 < (300 : Int) ∧ (300 : Int) ≤ 1000 ∧ 0 < ("a" : Str).length ∧ ("a" : Str).length ≤ 1000 ∧ (repS "a" (300 : Int).toNat).length ≤ sizeLine then some (D.str (repS "a" (300 : Int).toNat)) else none) = _
    exact if_pos ⟨by decide, by decide, by decide, by decide, by show a300.length ≤ sizeLine; rw [a300_len]; decide⟩
  have ls : eFz (sizM (aCons (eTup aNil) (aCons (eFz (sizM aNil)) (aCons eDict0 (aCons (eTup (aCons (eCst (.str "a")) aNil)) (aCons (eFz (sizM (aCons (eCst (.str "a")) aNil))) (aCons (eTup (aCons (eCst (.str "a")) (aCons (eCst (.str "b")) (aCons (eCst (.str "c")) aNil)))) (aCons (eTup (aCons (eTup aNil) aNil)) (aCons (e2 mulP (eCst (.str "a")) (eCst (.int 300))) aNil))))))))) [some (.val (.loc 1)), some (.val (.int far)), some (.val (.lst (oth1 far)))] h1 = .ok (.lst oth2) h1 :=
    fz_ok (siz_ok (aCons_ok (eTup_ok aNil_ok) (aCons_ok (fz_ok (siz_ok aNil_ok)) (aCons_ok rfl (aCons_ok (eTup_ok (aCons_ok eCst_ok aNil_ok)) (aCons_ok (fz_ok (siz_ok (aCons_ok eCst_ok aNil_ok))) (aCons_ok (eTup_ok (aCons_ok eCst_ok (aCons_ok eCst_ok (aCons_ok eCst_ok aNil_ok)))) (aCons_ok (eTup_ok (aCons_ok (eTup_ok aNil_ok) aNil_ok)) (aCons_ok (e2_ok eCst_ok eCst_ok rep) aNil_ok)))))))))
  have sum : e2 addP (eVar 2) (eFz (sizM (aCons (eTup aNil) (aCons (eFz (sizM aNil)) (aCons eDict0 (aCons (eTup (aCons (eCst (.str "a")) aNil)) (aCons (eFz (sizM (aCons (eCst (.str "a")) aNil))) (aCons (eTup (aCons (eCst (.str "a")) (aCons (eCst (.str "b")) (aCons (eCst (.str "c")) aNil)))) (aCons (eTup (aCons (eTup aNil) aNil)) (aCons (e2 mulP (eCst (.str "a")) (eCst (.int 300))) aNil)))))))))) [some (.val (.loc 1)), some (.val (.int far)), some (.val (.lst (oth1 far)))] h1 = .ok (.lst (oth1 far ++ oth2)) h1 := by
    refine e2_ok (eVar_ok rfl) ls ?_
    show (if (oth1 far).length + oth2.length ≤ sizeLine then some (D.lst (oth1 far ++ oth2)) else none) = _
    rw [if_pos (by show 25 ≤ sizeLine; decide)]
  obtain ⟨d, h2, e2', s2, md⟩ := call_pick (ρ := [some (.val (.loc 1)), some (.val (.int far)), some (.val (.lst (oth1 far)))]) (i := 0) rfl sum s1 (by omega) (by show 0 < 25; decide) (by show 25 ≤ 1000; decide)
  refine ⟨d, h2, ret_ok e2', s2, ?_⟩
  rcases List.mem_append.mp md with m | m
  · exact oth1_ot hf1 hf2 d m
  · exact oth2_ot d m
theorem call_other {ρ : En} {n i : Nat} {h : IH} (hi : slot ρ i = some (.loc 1)) (s : Sr n h) (hn : n < 100000000) : ∃ (d : D) (h' : IH), eCallK 1 0 bdId d_l_other (aCons (eVar i) aNil) aNil ρ h = .ok d h' ∧ Sr (n + 2) h' ∧ Ot d := by
  obtain ⟨k, h', e, r⟩ := other_ok s hn
  exact ⟨k, h', eCallK_ok (aCons_ok (eVar_ok hi) aNil_ok) aNil_ok ⟨rfl, rfl⟩ rfl e, r⟩
/-! ### rows -/
/-- an item of a row -/
def Wi (d : D) : Prop := (∃ y, d = .str y ∧ nameS y = true) ∨ ∃ i : Int, d = .int i ∧ -(10 ^ 40) < i ∧ i < 10 ^ 40
theorem Wi.iv {d : D} (h : Wi d) : Iv d := by
  rcases h with ⟨y, rfl, hy⟩ | ⟨i, rfl, h1, h2⟩
  · exact iv_name hy
  · exact iv_int h1 h2
theorem Wi.fl {d : D} (h : Wi d) : Fl d := by
  rcases h with ⟨y, rfl, hy⟩ | ⟨i, rfl, h1, h2⟩
  · exact fl_str (nameS_ok hy)
  · exact fl_int i
theorem row_ok {n : Nat} {h : IH} {t p : D} {ns ms : List D} {far : Int} (s : Sr n h) (hn : n < 100000000) (hl : ns.length ≤ 2) (hl2 : ms.length ≤ 2) (hf1 : -(10 ^ 39) < far) (hf2 : far < 10 ^ 39) : ∃ (ds : List D) (h' : IH), d_l_row [.loc 1, .lst [t, .tup ns, .tup ms, p], .int far] h = .ok (.tup ds) h' ∧ Sr (n + 4) h' ∧ ds.length = ns.length + ms.length ∧ ∀ d ∈ ds, Wi d := by
  suffices g : ∃ (ds : List D) (h' : IH), F_l_row [some (.val (.loc 1)), some (.val (.lst [t, .tup ns, .tup ms, p])), some (.val (.int far)), none, none] h = .rt (.tup ds) h' ∧ Sr (n + 4) h' ∧ ds.length = ns.length + ms.length ∧ ∀ d ∈ ds, Wi d by
    obtain ⟨i, h', e, r⟩ := g
    exact ⟨i, h', runB_rt rfl e, r⟩
  unfold F_l_row
  obtain ⟨ws, h1, eq1, s1, l1, p1⟩ := mLc_all (ρ := [some (.val (.loc 1)), some (.val (.lst [t, .tup ns, .tup ms, p])), some (.val (.int far)), none, none]) (h := h) (vs := [4]) (tg := tgN 4) (g := iSeq (e2 ixP (eVar 1) (eCst (.int 1)))) (f := eCallK 2 0 bdId d_l_pick (aCons (eVar 0) (aCons (eFz (sizM (aCons (eCst (.str "a")) (aCons (eCst (.str "b")) (aCons (eCst (.str "ab")) (aCons (eCst (.str "abcdefgh")) aNil)))))) aNil)) aNil) (fun k h => Sr (n + k) h) Wi (iSeq_ok (e2_ok (eVar_ok rfl) eCst_ok rfl) rfl) s (fun k d h hd hk sk => by
    obtain ⟨d', h', e, s', md⟩ := call_pick (ρ := [some (.val (.loc 1)), some (.val (.lst [t, .tup ns, .tup ms, p])), some (.val (.int far)), none, some (.val d)]) (i := 0) (fm := eFz (sizM (aCons (eCst (.str "a")) (aCons (eCst (.str "b")) (aCons (eCst (.str "ab")) (aCons (eCst (.str "abcdefgh")) aNil)))))) (ds := [.str "a", .str "b", .str "ab", .str "abcdefgh"]) rfl (fz_ok (siz_ok (aCons_ok eCst_ok (aCons_ok eCst_ok (aCons_ok eCst_ok (aCons_ok eCst_ok aNil_ok)))))) sk (by omega) (by decide) (by decide)
    have wn : ([.str "a", .str "b", .str "ab", .str "abcdefgh"] : List D).all nameB = true := by decide +kernel
    exact ⟨_, rfl, d', h', e, .inl (nameB_str (List.all_eq_true.mp wn d' md)), s'⟩)
  have st1 : sAsg (eFz (sizM (mLc (iSeq (e2 ixP (eVar 1) (eCst (.int 1)))) [4] (tgN 4) tYs (eCallK 2 0 bdId d_l_pick (aCons (eVar 0) (aCons (eFz (sizM (aCons (eCst (.str "a")) (aCons (eCst (.str "b")) (aCons (eCst (.str "ab")) (aCons (eCst (.str "abcdefgh")) aNil)))))) aNil)) aNil)))) (tgN 3) [some (.val (.loc 1)), some (.val (.lst [t, .tup ns, .tup ms, p])), some (.val (.int far)), none, none] h = .nx [some (.val (.loc 1)), some (.val (.lst [t, .tup ns, .tup ms, p])), some (.val (.int far)), some (.val (.lst ws)), none] h1 := asg_ok (fz_ok (siz_ok eq1 (by omega))) rfl
  rw [seq_nx st1]
  obtain ⟨is, h2, e2', s2, l2, p2⟩ := mLc_all (ρ := [some (.val (.loc 1)), some (.val (.lst [t, .tup ns, .tup ms, p])), some (.val (.int far)), some (.val (.lst ws)), none]) (h := h1) (vs := [4]) (tg := tgN 4) (g := iSeq (e2 ixP (eVar 1) (eCst (.int 2)))) (f := eCallK 2 0 bdId d_l_pick (aCons (eVar 0) (aCons (eFz (sizM (aCons (eCst (.int 0)) (aCons (eCst (.int 1)) (aCons (e1 negP (eCst (.int 1))) (aCons (eCst (.int 7)) (aCons (eVar 2) (aCons (e2 subP (eCst (.int 0)) (eVar 2)) aNil)))))))) aNil)) aNil) (fun k h => Sr (n + ns.length + k) h) Wi (iSeq_ok (e2_ok (eVar_ok rfl) eCst_ok rfl) rfl) s1 (fun k d h hd hk sk => by
    obtain ⟨d', h', e, s', md⟩ := call_pick (ρ := [some (.val (.loc 1)), some (.val (.lst [t, .tup ns, .tup ms, p])), some (.val (.int far)), some (.val (.lst ws)), some (.val d)]) (i := 0) (fm := eFz (sizM (aCons (eCst (.int 0)) (aCons (eCst (.int 1)) (aCons (e1 negP (eCst (.int 1))) (aCons (eCst (.int 7)) (aCons (eVar 2) (aCons (e2 subP (eCst (.int 0)) (eVar 2)) aNil)))))))) (ds := [.int 0, .int 1, .int (-1), .int 7, .int far, .int (0 - far)]) rfl (fz_ok (siz_ok (aCons_ok eCst_ok (aCons_ok eCst_ok (aCons_ok (e1_ok eCst_ok rfl) (aCons_ok eCst_ok (aCons_ok (eVar_ok rfl) (aCons_ok (e2_ok eCst_ok (eVar_ok rfl) rfl) aNil_ok)))))) (by show 6 ≤ 100000; decide))) sk (by omega) (by show 0 < 6; decide) (by show 6 ≤ 1000; decide)
    refine ⟨_, rfl, d', h', e, .inr ?_, s'⟩
    simp only [List.mem_cons, List.not_mem_nil, or_false] at md
    rcases md with rfl | rfl | rfl | rfl | rfl | rfl <;> exact ⟨_, rfl, by omega, by omega⟩)
  refine ⟨ws ++ is, h2, ret_ok (eN_ok (xs := [.lst (ws ++ is)]) (aCons_ok (e2_ok (eVar_ok rfl) (fz_ok (siz_ok e2' (by omega))) ?_) aNil_ok) rfl), s2.mono (by omega), by rw [List.length_append, l1, l2], fun d hd => ?_⟩
  · show (if ws.length + is.length ≤ sizeLine then some (D.lst (ws ++ is)) else none) = _
    rw [if_pos (by rw [l1, l2]; exact Nat.le_trans (show ns.length + ms.length ≤ 4 by omega) (by decide))]
  · rcases List.mem_append.mp hd with m | m
    · exact p1 d m
    · exact p2 d m
end WR.K02
set_option Elab.async false
set_option linter.all false
set_option autoImplicit false
set_option maxRecDepth 100000
set_option maxHeartbeats 4000000
namespace WR.K02
open PySem PySem.Spec PyProof.Rows L2
/-- a loop that goes through -/
theorem loop_go {tg : D → En → Option En} {F : MS} {ds : List D} (I : Nat → En → IH → Prop) (hs : ∀ (k : Nat) (d : D) (ρ : En) (h : IH), ds[k]? = some d → I k ρ h → ∃ ρ1, tg d ρ = some ρ1 ∧ ∃ ρ2 h2, F ρ1 h = .nx ρ2 h2 ∧ I (k + 1) ρ2 h2) : ∀ (es : List D) (k : Nat) (ρ : En) (h : IH), (∀ j, es[j]? = ds[k + j]?) → I k ρ h → ∃ ρ2 h2, loopS tg F es ρ h = .nx ρ2 h2 ∧ I (k + es.length) ρ2 h2
  | [], k, ρ, h, _, q => ⟨ρ, h, rfl, q⟩
  | d :: es, k, ρ, h, hm, q => by
    obtain ⟨ρ1, e0, ρ2, h2, e1, q1⟩ := hs k d ρ h (by have := hm 0; simpa using this.symm) q
    rw [loop_nx e0 e1]
    have := loop_go I hs es (k + 1) ρ2 h2 (fun j => by have := hm (j + 1); rw [List.getElem?_cons_succ] at this; rw [this]; congr 1; omega) q1
    rwa [show k + (d :: es).length = k + 1 + es.length by simp; omega]
theorem for_go {g : En → M (List D)} {tg : D → En → Option En} {F : MS} {ds : List D} {ρ : En} {h h1 : IH} (I : Nat → En → IH → Prop) (e : g ρ h = .ok ds h1) (h0 : I 0 ρ h1) (hs : ∀ (k : Nat) (d : D) (ρ : En) (h : IH), ds[k]? = some d → I k ρ h → ∃ ρ1, tg d ρ = some ρ1 ∧ ∃ ρ2 h2, F ρ1 h = .nx ρ2 h2 ∧ I (k + 1) ρ2 h2) : ∃ ρ2 h2, sFor g tg F ρ h = .nx ρ2 h2 ∧ I ds.length ρ2 h2 := by
  rw [for_ok e]
  have := loop_go I hs ds 0 ρ h1 (fun j => by rw [Nat.zero_add]) h0
  rwa [Nat.zero_add] at this
theorem in_lst {x : Str} {ys : List Str} (hx : PyData.strOk x = true) (hy : ∀ x ∈ ys, PyData.strOk x = true) : inT (.str x) (.lst (ys.map D.str)) = some (decide (x ∈ ys)) := by
  have e1 : D.pd (.lst (ys.map D.str)) = some (.list (ys.map PyData.str)) := by simp [D.pd, pd_strs]
  have e2 : D.pd (.str x) = some (.str x) := by simp [D.pd]
  have e3 : shp (.str x) = true := shaped_of (by simpa [PyData.canLay0] using hx) (by simp [PyData.depth])
  show (match D.pd (.str x), D.pd (.lst (ys.map D.str)) with
    | some p, some (.list qs) => if shp p = true ∧ shp (.list qs) = true then some (qs.any fun z => PyData.eqv z p) else none
    | some p, some (.tuple qs) => if shp p = true ∧ shp (.tuple qs) = true then some (qs.any fun z => PyData.eqv z p) else none
    | _, _ => none) = _
  rw [e1, e2]
  dsimp only
  rw [if_pos ⟨e3, shaped_l hy⟩, any_strs]
/-- so many differ: one of them is not there -/
theorem nodup_le : ∀ {xs ys : List Str}, xs.Nodup → (∀ x ∈ xs, x ∈ ys) → xs.length ≤ ys.length
  | [], ys, _, _ => Nat.zero_le _
  | x :: xs, ys, nd, h => by
    obtain ⟨h1, h2⟩ := List.nodup_cons.mp nd
    have hx := h x (by simp)
    have ih := nodup_le (ys := ys.erase x) h2 fun y hy => (List.mem_erase_of_ne (a := y) (b := x) (fun e => h1 (by rw [← e]; exact hy))).mpr (h y (by simp [hy]))
    rw [List.length_erase_of_mem hx] at ih
    have := List.length_pos_of_mem hx
    rw [List.length_cons]
    omega
theorem cut_sub {α : Type} {xs : List α} {a b : Option Int} : (∀ x ∈ cutL xs a b, x ∈ xs) ∧ (cutL xs a b).length ≤ xs.length := by
  unfold cutL
  refine ⟨fun x hx => List.mem_of_mem_drop (List.mem_of_mem_take hx), ?_⟩
  rw [List.length_take, List.length_drop]
  omega
/-- names, at most so many -/
def Nm (k : Nat) (ds : List D) : Prop := ds.length ≤ k ∧ ∀ d ∈ ds, ∃ x, d = .str x ∧ nameS x = true
theorem Nm.av {k : Nat} {ds : List D} (h : Nm k ds) (hk : k ≤ 20) : Av k (.tup ds) := av_tup h.1 hk fun d hd => by
  obtain ⟨x, rfl, hx⟩ := h.2 d hd
  exact iv_name hx
theorem Nm.sub {k : Nat} {ds es : List D} (h : Nm k ds) (h1 : ∀ x ∈ es, x ∈ ds) (h2 : es.length ≤ ds.length) : Nm k es := ⟨Nat.le_trans h2 h.1, fun d hd => h.2 d (h1 d hd)⟩
abbrev colBody : MS := sSeq (sAsg (eFz (sizM (aCons (eCallK 1 0 (bdId) d_l_word (aCons (eVar 0) (aNil)) aNil) (aCons (eCst (.str "one")) (aCons (eCst (.str "two")) (aCons (eCst (.str "three")) (aCons (eCst (.str "four")) (aNil)))))))) (tgN 4)) (sMut 2 pAppend (aCons (e2 ixP (eFz (sizM (mLc (iSeq (eVar 4)) [8] (tgN 8) (tst (eCmpOr notInT (eVar 8) 2)) (eVar 8)))) (eCst (.int 0))) (aNil)))
theorem col_step {n : Nat} {h : IH} {m : Int} {cs : List Str} {v3 v4 : Option Sl} (s : Sr n h) (hn : n < 100000000) (hc : ∀ x ∈ cs, nameS x = true) (hl : cs.length ≤ 3) : ∃ (x : Str) (v4' : Option Sl) (h' : IH), colBody [some (.val (.loc 1)), some (.val (.int m)), some (.own (cs.map D.str)), v3, v4, none, none, none, none] h = .nx [some (.val (.loc 1)), some (.val (.int m)), some (.own ((cs ++ [x]).map D.str)), v3, v4', none, none, none, none] h' ∧ Sr (n + 10) h' ∧ nameS x = true := by
  obtain ⟨w, h1, e1, s1, hw⟩ := call_word (ρ := [some (.val (.loc 1)), some (.val (.int m)), some (.own (cs.map D.str)), v3, v4, none, none, none, none]) (i := 0) rfl s hn
  have st1 : sAsg (eFz (sizM (aCons (eCallK 1 0 (bdId) d_l_word (aCons (eVar 0) (aNil)) aNil) (aCons (eCst (.str "one")) (aCons (eCst (.str "two")) (aCons (eCst (.str "three")) (aCons (eCst (.str "four")) (aNil)))))))) (tgN 4) [some (.val (.loc 1)), some (.val (.int m)), some (.own (cs.map D.str)), v3, v4, none, none, none, none] h = .nx [some (.val (.loc 1)), some (.val (.int m)), some (.own (cs.map D.str)), v3, some (.val (.lst ([w, "one", "two", "three", "four"].map D.str))), none, none, none, none] h1 := asg_ok (fz_ok (siz_ok (aCons_ok e1 (aCons_ok eCst_ok (aCons_ok eCst_ok (aCons_ok eCst_ok (aCons_ok eCst_ok aNil_ok))))) (by show 5 ≤ 100000; decide))) rfl
  have wn : ∀ x ∈ ([w, "one", "two", "three", "four"] : List Str), nameS x = true := fun x hx => by
    rcases List.mem_cons.mp hx with rfl | hx
    · exact hw
    · have : (["one", "two", "three", "four"] : List Str).all nameS = true := by decide +kernel
      exact List.all_eq_true.mp this x hx
  have lc : mLc (iSeq (eVar 4)) [8] (tgN 8) (tst (eCmpOr notInT (eVar 8) 2)) (eVar 8) [some (.val (.loc 1)), some (.val (.int m)), some (.own (cs.map D.str)), v3, some (.val (.lst ([w, "one", "two", "three", "four"].map D.str))), none, none, none, none] h1 = .ok (((([w, "one", "two", "three", "four"] : List Str).map D.str).filter fun d => !decide (sOf d ∈ cs)).map id) h1 := by
    refine mLc_filter _ _ (fun d => [some (.val (.loc 1)), some (.val (.int m)), some (.own (cs.map D.str)), v3, some (.val (.lst ([w, "one", "two", "three", "four"].map D.str))), none, none, none, some (.val d)]) (iSeq_ok (eVar_ok rfl) rfl) (fun _ _ => rfl) (fun d hd => ?_) fun _ _ _ => eVar_ok rfl
    obtain ⟨x, hx, rfl⟩ := List.mem_map.mp hd
    refine tst_ok ?_
    unfold eCmpOr
    refine (bind_ok (of_ok rfl)).trans ((bind_ok (eVar_ok rfl)).trans (of_ok ?_))
    show (notInT (.str x) (.lst (cs.map D.str))).map D.bl = _
    unfold notInT
    rw [in_lst (nameS_ok (wn x hx)) fun y hy => nameS_ok (hc y hy)]
    rfl
  have e2' : (((([w, "one", "two", "three", "four"] : List Str).map D.str).filter fun d => !decide (sOf d ∈ cs)).map id) = (([w, "one", "two", "three", "four"] : List Str).filter fun c => !decide (c ∈ cs)).map D.str := by
    rw [List.map_id, List.filter_map]
    rfl
  rw [e2'] at lc
  cases hf : ([w, "one", "two", "three", "four"] : List Str).filter fun c => !decide (c ∈ cs) with
  | nil =>
    exfalso
    rw [List.filter_eq_nil_iff] at hf
    have nd : (["one", "two", "three", "four"] : List Str).Nodup := by decide +kernel
    have := nodup_le nd (ys := cs) fun x hx => by simpa using hf x (List.mem_cons_of_mem _ hx)
    have l4 : (["one", "two", "three", "four"] : List Str).length = 4 := rfl
    omega
  | cons x xs =>
    rw [hf] at lc
    have hx : x ∈ ([w, "one", "two", "three", "four"] : List Str) := (List.mem_filter.mp (hf ▸ List.mem_cons_self : x ∈ ([w, "one", "two", "three", "four"] : List Str).filter fun c => !decide (c ∈ cs))).1
    have hxl : ((x :: xs).map D.str).length ≤ 5 := by
      rw [List.length_map, ← hf]
      exact List.length_filter_le _ _
    refine ⟨x, some (.val (.lst ([w, "one", "two", "three", "four"].map D.str))), h1, (seq_nx st1).trans ?_, s1, wn x hx⟩
    have ga : aCons (e2 ixP (eFz (sizM (mLc (iSeq (eVar 4)) [8] (tgN 8) (tst (eCmpOr notInT (eVar 8) 2)) (eVar 8)))) (eCst (.int 0))) aNil [some (.val (.loc 1)), some (.val (.int m)), some (.own (cs.map D.str)), v3, some (.val (.lst ([w, "one", "two", "three", "four"].map D.str))), none, none, none, none] h1 = .ok [.str x] h1 := aCons_ok (e2_ok (fz_ok (siz_ok lc (by omega))) eCst_ok (atI_nat (j := 0) rfl)) aNil_ok
    unfold sMut
    show (Res.on (aCons _ aNil _ h1) _ fun es h' => match pAppend (cs.map D.str) es with
      | some (_, ds') => SR.nx (List.set _ 2 (some (.own ds'))) h'
      | none => .no) = _
    rw [on_ok ga]
    have pa : pAppend (cs.map D.str) [.str x] = some (.non, (cs ++ [x]).map D.str) := by
      show (if (cs.map D.str).length < sizeLine then some (D.non, cs.map D.str ++ [.str x]) else none) = _
      rw [if_pos (by rw [List.length_map]; exact Nat.lt_of_le_of_lt hl (by decide)), List.map_append]
      rfl
    rw [pa]
    rfl
end WR.K02
set_option Elab.async false
set_option linter.all false
set_option autoImplicit false
set_option maxRecDepth 100000
set_option maxHeartbeats 4000000
namespace WR.K02
open PySem PySem.Spec PyProof.Rows L2
/-- a comprehension with a test that changes the heap -/
theorem lc_go {tg : D → En → Option En} {t : En → M Bool} {f : En → M D} {ρ : En} {ds : List D} (I : Nat → IH → Prop) (P : D → Prop) (hs : ∀ (k : Nat) (d : D) (h : IH), ds[k]? = some d → I k h → ∃ ρ1, tg d ρ = some ρ1 ∧ ∃ b h1, t ρ1 h = .ok b h1 ∧ ((b = false ∧ I (k + 1) h1) ∨ (b = true ∧ ∃ x h2, f ρ1 h1 = .ok x h2 ∧ P x ∧ I (k + 1) h2))) : ∀ (es : List D) (k : Nat) (h : IH), (∀ j, es[j]? = ds[k + j]?) → I k h → ∃ xs h', lcRun tg t f ρ es h = .ok xs h' ∧ I (k + es.length) h' ∧ xs.length ≤ es.length ∧ ∀ x ∈ xs, P x
  | [], k, h, _, q => ⟨[], h, rfl, q, Nat.le_refl _, fun _ z => nomatch z⟩
  | d :: es, k, h, hm, q => by
    obtain ⟨ρ1, e0, b, h1, e1, c⟩ := hs k d h (by have := hm 0; simpa using this.symm) q
    have hm' : ∀ j, es[j]? = ds[k + 1 + j]? := fun j => by
      have := hm (j + 1)
      rw [List.getElem?_cons_succ] at this
      rw [this]
      congr 1
      omega
    rcases c with ⟨rfl, q1⟩ | ⟨rfl, x, h2, e2, px, q1⟩
    · obtain ⟨xs, h', e3, q3, l3, p3⟩ := lc_go I P hs es (k + 1) h1 hm' q1
      refine ⟨xs, h', ?_, by rw [List.length_cons, Nat.add_comm es.length 1, ← Nat.add_assoc]; exact q3, by simp; omega, p3⟩
      simp only [lcRun, M.of, M.bind, e0, e1]
      rw [if_neg (by decide)]
      exact e3
    · obtain ⟨xs, h', e3, q3, l3, p3⟩ := lc_go I P hs es (k + 1) h2 hm' q1
      refine ⟨x :: xs, h', ?_, by rw [List.length_cons, Nat.add_comm es.length 1, ← Nat.add_assoc]; exact q3, by simp; omega, fun y hy => ?_⟩
      · simp only [lcRun, M.of, M.bind, M.pure, e0, e1, e2, e3, if_true]
      · rcases List.mem_cons.mp hy with rfl | hy
        · exact px
        · exact p3 y hy
theorem mLc_go {g : En → M (List D)} {vs : List Nat} {tg : D → En → Option En} {t : En → M Bool} {f : En → M D} {ρ : En} {ds : List D} {h h1 : IH} (I : Nat → IH → Prop) (P : D → Prop) (e : g ρ h = .ok ds h1) (hI : I 0 h1) (hs : ∀ (k : Nat) (d : D) (h : IH), ds[k]? = some d → I k h → ∃ ρ1, tg d (wipeE ρ vs) = some ρ1 ∧ ∃ b h1, t ρ1 h = .ok b h1 ∧ ((b = false ∧ I (k + 1) h1) ∨ (b = true ∧ ∃ x h2, f ρ1 h1 = .ok x h2 ∧ P x ∧ I (k + 1) h2))) : ∃ xs h', mLc g vs tg t f ρ h = .ok xs h' ∧ I ds.length h' ∧ xs.length ≤ ds.length ∧ ∀ x ∈ xs, P x := by
  obtain ⟨xs, h', e1, i1, l1, p1⟩ := lc_go I P hs ds 0 h1 (fun j => by rw [Nat.zero_add]) hI
  refine ⟨xs, h', ?_, by rw [Nat.zero_add] at i1; exact i1, l1, p1⟩
  unfold mLc
  rw [bind_ok e]
  exact noX_ok e1
abbrev pickTest : En → M Bool := tst (e2 eqP (eCallK 2 0 (bdId) d_l_draw (aCons (eVar 0) (aCons (eCst (.int 3)) (aNil))) aNil) (eCst (.int 0)))
/-- four arguments that are of the right kinds -/
structure Va (ds : List D) : Prop where
  ex : ∃ (t : Str) (l f p : List D), ds = [.str t, .tup l, .tup f, .tup p] ∧ nameS t = true ∧ Nm 4 l ∧ Nm 4 f ∧ Nm 4 p
theorem valid_ok {n : Nat} {h : IH} (s : Sr n h) (hn : n < 10000000) : ∃ (ds : List D) (h' : IH), d_l_valid [.loc 1] h = .ok ds h' ∧ Sr (n + 60) h' ∧ Va ds := by
  suffices g : ∃ (ds : List D) (h' : IH), F_l_valid [some (.val (.loc 1)), none, none, none, none, none, none, none, none] h = .ro ds h' ∧ Sr (n + 60) h' ∧ Va ds by
    obtain ⟨i, h', e, r⟩ := g
    exact ⟨i, h', runO_ro rfl e, r⟩
  unfold F_l_valid
  obtain ⟨i, h1, e1, s1, i0, i1⟩ := call_draw (ρ := [some (.val (.loc 1)), none, none, none, none, none, none, none, none]) (i := 0) (fm := eCst (.int 4)) (m := 4) rfl eCst_ok s (by omega) (by decide) (by decide)
  have st1 : sAsg (e2 addP (eCst (.int 1)) (eCallK 2 0 (bdId) d_l_draw (aCons (eVar 0) (aCons (eCst (.int 4)) (aNil))) aNil)) (tgN 1) [some (.val (.loc 1)), none, none, none, none, none, none, none, none] h = .nx [some (.val (.loc 1)), some (.val (.int (1 + i))), none, none, none, none, none, none, none] h1 := asg_ok (e2_ok eCst_ok e1 rfl) rfl
  rw [seq_nx st1]
  have hm0 : 1 ≤ 1 + i := by omega
  have hm1 : 1 + i ≤ 4 := by omega
  generalize 1 + i = m at hm0 hm1
  have st2 : sOwn 2 (sizM aNil) [some (.val (.loc 1)), some (.val (.int m)), none, none, none, none, none, none, none] h1 = .nx [some (.val (.loc 1)), some (.val (.int m)), some (.own []), none, none, none, none, none, none] h1 := own_ok (siz_ok aNil_ok)
  rw [seq_nx st2]
  have er : iOf rng1 (aCons (eVar 1) aNil) [some (.val (.loc 1)), some (.val (.int m)), some (.own []), none, none, none, none, none, none] h1 = .ok (rngD 0 m.toNat) h1 := by
    refine iOf_ok (aCons_ok (eVar_ok rfl) aNil_ok) ?_
    show (if -(2 ^ 62) ≤ m ∧ m < 2 ^ 62 then some (rngD 0 m.toNat) else none) = _
    rw [if_pos ⟨by omega, by omega⟩]
  have ll : (rngD 0 m.toNat).length = m.toNat := by simp [rngD]
  obtain ⟨ρ2, h2, e2', v3, v4, cs, rfl, lc, hc, s2⟩ := for_go (F := colBody) (tg := tgN 3) (fun k ρ h => ∃ (v3 v4 : Option Sl) (cs : List Str), ρ = [some (.val (.loc 1)), some (.val (.int m)), some (.own (cs.map D.str)), v3, v4, none, none, none, none] ∧ cs.length = k ∧ (∀ x ∈ cs, nameS x = true) ∧ Sr (n + 1 + 10 * k) h) er ⟨none, none, [], rfl, rfl, (fun _ z => nomatch z), s1⟩ (fun k d ρ h hd ⟨v3, v4, cs, e, lc, hc, sk⟩ => by
    subst e
    have hk : k < 4 := by
      have := (List.getElem?_eq_some_iff.mp hd).1
      rw [ll] at this
      omega
    obtain ⟨x, v4', h', e', s', hx⟩ := col_step (m := m) (v3 := some (.val d)) (v4 := v4) sk (by omega) hc (by omega)
    refine ⟨_, rfl, _, h', e', some (.val d), v4', cs ++ [x], rfl, by rw [List.length_append, lc]; rfl, fun y hy => ?_, s'.mono (by omega)⟩
    rcases List.mem_append.mp hy with q | q
    · exact hc y q
    · rw [List.mem_singleton.mp q]
      exact hx)
  rw [ll] at lc s2
  rw [seq_nx e2']
  obtain ⟨k, h3, e3, s3, k0, k1⟩ := call_draw (ρ := [some (.val (.loc 1)), some (.val (.int m)), some (.own (cs.map D.str)), v3, v4, none, none, none, none]) (i := 0) (fm := e2 addP (eVar 1) (eCst (.int 1))) (m := m + 1) rfl (e2_ok (eVar_ok rfl) eCst_ok rfl) s2 (by omega) (by omega) (by omega)
  have st3 : ∃ j : Int, sAsg (eN max2P (aCons (e2 subP (eVar 1) (eCst (.int 2))) (aCons (eN min2P (aCons (eCst (.int 2)) (aCons (eCallK 2 0 (bdId) d_l_draw (aCons (eVar 0) (aCons (e2 addP (eVar 1) (eCst (.int 1))) (aNil))) aNil) (aNil)))) (aNil)))) (tgN 5) [some (.val (.loc 1)), some (.val (.int m)), some (.own (cs.map D.str)), v3, v4, none, none, none, none] h2 = .nx [some (.val (.loc 1)), some (.val (.int m)), some (.own (cs.map D.str)), v3, v4, some (.val (.int j)), none, none, none] h3 := ⟨_, asg_ok (eN_ok (aCons_ok (e2_ok (eVar_ok rfl) eCst_ok rfl) (aCons_ok (eN_ok (aCons_ok eCst_ok (aCons_ok e3 aNil_ok)) rfl) aNil_ok)) rfl) rfl⟩
  obtain ⟨j, st3⟩ := st3
  rw [seq_nx st3]
  have nm : Nm 4 (cs.map D.str) := ⟨by rw [List.length_map]; omega, fun d hd => by
    obtain ⟨x, hx, rfl⟩ := List.mem_map.mp hd
    exact ⟨x, rfl, hc x hx⟩⟩
  have lm : (cs.map D.str).length ≤ 4 := nm.1
  generalize hds : cs.map D.str = ds at nm lm
  obtain ⟨xs, h4, e4, s4, l4, p4⟩ := mLc_go (t := pickTest) (f := eVar 7) (g := iSeq (eVar 2)) (vs := [7]) (ρ := [some (.val (.loc 1)), some (.val (.int m)), some (.val (.lst ds)), v3, v4, some (.val (.int j)), none, none, none]) (h := h3) (tg := tgN 7) (ds := ds) (fun k h => Sr (n + 1 + 10 * m.toNat + 1 + k) h) (fun x => x ∈ ds) (iSeq_ok (eVar_ok rfl) rfl) s3 (fun k d h hd sk => by
    have hk := (List.getElem?_eq_some_iff.mp hd).1
    obtain ⟨q, h', e, s', q0, q1⟩ := call_draw (ρ := [some (.val (.loc 1)), some (.val (.int m)), some (.val (.lst ds)), v3, v4, some (.val (.int j)), none, some (.val d), none]) (i := 0) (fm := eCst (.int 3)) (m := 3) rfl eCst_ok sk (by omega) (by decide) (by decide)
    refine ⟨[some (.val (.loc 1)), some (.val (.int m)), some (.val (.lst ds)), v3, v4, some (.val (.int j)), none, some (.val d), none], rfl, decide (q = 0), h', tst_ok (e2_ok e eCst_ok ?_), ?_⟩
    · show (eqT (.int q) (.int 0)).map D.bl = _
      rw [eq_ints]
      rfl
    · by_cases hq : q = 0
      · exact .inr ⟨decide_eq_true hq, d, h', eVar_ok rfl, List.mem_of_getElem? hd, s'⟩
      · exact .inl ⟨decide_eq_false hq, s'⟩)
  obtain ⟨t, h5, e5, s5, ht⟩ := call_word (ρ := [some (.val (.loc 1)), some (.val (.int m)), some (.val (.lst ds)), v3, v4, some (.val (.int j)), some (.val (.lst xs)), none, none]) (i := 0) rfl s4 (by omega)
  have st4 : sAsg (eFz (sizM (mLc (iSeq (eVar 2)) [7] (tgN 7) pickTest (eVar 7)))) (tgN 6) [some (.val (.loc 1)), some (.val (.int m)), some (.val (.lst ds)), v3, v4, some (.val (.int j)), none, none, none] h3 = .nx [some (.val (.loc 1)), some (.val (.int m)), some (.val (.lst ds)), v3, v4, some (.val (.int j)), some (.val (.lst xs)), none, none] h4 := asg_ok (fz_ok (siz_ok e4 (by omega))) rfl
  refine ⟨[.str t, .tup (cutL ds none (some j)), .tup (cutL ds (some j) none), .tup xs], h5, ?_, s5.mono (by omega), ⟨t, _, _, _, rfl, ht, nm.sub cut_sub.1 cut_sub.2, nm.sub cut_sub.1 cut_sub.2, nm.sub p4 l4⟩⟩
  refine (seq_nx st4).trans (retO_ok (siz_ok (aCons_ok e5 (aCons_ok (eN_ok (aCons_ok (eSl_ok (eVar_ok rfl) opt_n (opt_s (eVar_ok rfl)) rfl) aNil_ok) rfl) (aCons_ok (eN_ok (aCons_ok (eSl_ok (eVar_ok rfl) (opt_s (eVar_ok rfl)) opt_n rfl) aNil_ok) rfl) (aCons_ok (eN_ok (aCons_ok (eVar_ok rfl) aNil_ok) rfl) aNil_ok)))) (by show 4 ≤ 100000; decide)))
/-! ### one argument otherwise -/
theorem tup_iv {n : Nat} {ds : List D} (h : Av n (.tup ds)) : ds.length ≤ n ∧ ∀ x ∈ ds, Iv x := h.tp ds rfl
theorem add_tup {h : IH} {xs ys : List D} (hl : xs.length + ys.length ≤ 1000) : addP h (.tup xs) (.tup ys) = some (.tup (xs ++ ys)) := by
  show (if xs.length + ys.length ≤ sizeLine then some (D.tup (xs ++ ys)) else none) = _
  rw [if_pos (Nat.le_trans hl (by decide))]
theorem bent_ok {n k : Nat} {h : IH} {d : D} (s : Sr n h) (hn : n < 10000000) (hd : Av k d) (hk : k ≤ 10) : ∃ (d' : D) (h' : IH), d_l_bent [.loc 1, d] h = .ok d' h' ∧ Sr (n + 14) h' ∧ Av (k + 3) d' := by
  suffices g : ∃ (d' : D) (h' : IH), F_l_bent [some (.val (.loc 1)), some (.val d), none, none, none, none] h = .rt d' h' ∧ Sr (n + 14) h' ∧ Av (k + 3) d' by
    obtain ⟨i, h', e, r⟩ := g
    exact ⟨i, h', runB_rt rfl e, r⟩
  unfold F_l_bent
  obtain ⟨i, h1, e1, s1, i0, i1⟩ := call_draw (ρ := [some (.val (.loc 1)), some (.val d), none, none, none, none]) (i := 0) (fm := eCst (.int 7)) (m := 7) rfl eCst_ok s (by omega) (by decide) (by decide)
  have t1 : tst (e2 eqP (eVar 2) (eCst (.int 0))) [some (.val (.loc 1)), some (.val d), some (.val (.int i)), none, none, none] h1 = .ok (decide (i = 0)) h1 := tst_ok (e2_ok (eVar_ok rfl) eCst_ok (by show (eqT (.int i) (.int 0)).map D.bl = _; rw [eq_ints]; rfl))
  have t2 : tNt (tst (eN (isiP isiT) (aCons (eVar 1) (aCons (eCst (.ty "tuple")) aNil)))) [some (.val (.loc 1)), some (.val d), some (.val (.int i)), none, none, none] h1 = .ok (!isTupD d) h1 := tNt_ok (tst_ok (eN_ok (aCons_ok (eVar_ok rfl) (aCons_ok eCst_ok aNil_ok)) (isi_tup hd.ty)))
  have t := tOr_b t1 fun _ => t2
  rw [seq_nx (asg_ok e1 rfl)]
  by_cases hc : i ≠ 0 ∧ ∃ ds, d = .tup ds
  · obtain ⟨hi, ds, rfl⟩ := hc
    obtain ⟨hl, hv⟩ := tup_iv hd
    rw [decide_eq_false hi] at t
    refine Exists.imp (fun x => Exists.imp fun h' (z : _ ∧ _) => ⟨(seq_skip t).trans z.1, z.2⟩) ?_
    obtain ⟨a, h2, e2', s2, a0, a1⟩ := call_draw (ρ := [some (.val (.loc 1)), some (.val (.tup ds)), some (.val (.int i)), none, none, none]) (i := 0) (fm := e2 addP (eN lenP (aCons (eVar 1) aNil)) (eCst (.int 1))) (m := (ds.length : Nat) + 1) rfl (e2_ok (len_tup rfl) eCst_ok rfl) s1 (by omega) (by omega) (by omega)
    obtain ⟨w, h3, e3, s3, hw⟩ := call_word (ρ := [some (.val (.loc 1)), some (.val (.tup ds)), some (.val (.int i)), some (.val (.int a)), none, none]) (i := 0) rfl s2 (by omega)
    obtain ⟨o, h4, e4, s4, ho⟩ := call_other (ρ := [some (.val (.loc 1)), some (.val (.tup ds)), some (.val (.int i)), some (.val (.int a)), some (.val (.str w)), none]) (i := 0) rfl s3 (by omega)
    refine Exists.imp (fun x => Exists.imp fun h' (z : _ ∧ _) => ⟨(seq_nx (asg_ok e2' rfl)).trans ((seq_nx (asg_ok e3 rfl)).trans z.1), z.2⟩) ?_
    have c1 := cut_sub (xs := ds) (a := none) (b := some a)
    have c2 := cut_sub (xs := ds) (a := some (a + 1)) (b := none)
    have c3 := cut_sub (xs := ds) (a := none) (b := some 1)
    have c4 := cut_sub (xs := ds) (a := some 1) (b := none)
    have ls : eFz (sizM (aCons (e2 addP (e2 addP (eSl slP (eVar 1) none (some (eVar 3))) (eTup (aCons (eCallK 1 0 (bdId) d_l_other (aCons (eVar 0) (aNil)) aNil) (aNil)))) (eSl slP (eVar 1) (some (e2 addP (eVar 3) (eCst (.int 1)))) none)) (aCons (e2 addP (eVar 1) (eTup (aCons (eVar 4) (aNil)))) (aCons (eRevT (eVar 1)) (aCons (eFz (mList (aCons (eVar 1) (aNil)))) (aCons (e2 addP (eVar 1) (eSl slP (eVar 1) none (some (eCst (.int 1))))) (aCons (eSl slP (eVar 1) (some (eCst (.int 1))) none) (aNil)))))))) [some (.val (.loc 1)), some (.val (.tup ds)), some (.val (.int i)), some (.val (.int a)), some (.val (.str w)), none] h3 = .ok (.lst [.tup (cutL ds none (some a) ++ [o] ++ cutL ds (some (a + 1)) none), .tup (ds ++ [.str w]), .tup ds.reverse, .lst ds, .tup (ds ++ cutL ds none (some 1)), .tup (cutL ds (some 1) none)]) h4 :=
      fz_ok (siz_ok (aCons_ok (e2_ok (e2_ok (eSl_ok (eVar_ok rfl) opt_n (opt_s (eVar_ok rfl)) rfl) (eTup_ok (aCons_ok e4 aNil_ok) (by show 1 ≤ 100000; decide)) (add_tup (by show _ + 1 ≤ 1000; omega))) (eSl_ok (eVar_ok rfl) (opt_s (e2_ok (eVar_ok rfl) eCst_ok rfl)) opt_n rfl) (add_tup (by rw [List.length_append]; show _ + 1 + _ ≤ 1000; omega))) (aCons_ok (e2_ok (eVar_ok rfl) (eTup_ok (aCons_ok (eVar_ok rfl) aNil_ok) (by show 1 ≤ 100000; decide)) (add_tup (by show _ + 1 ≤ 1000; omega))) (aCons_ok (e1_ok (eVar_ok rfl) rfl) (aCons_ok (fz_ok (list_ok (aCons_ok (eVar_ok rfl) aNil_ok) rfl)) (aCons_ok (e2_ok (eVar_ok rfl) (eSl_ok (eVar_ok rfl) opt_n (opt_s eCst_ok) rfl) (add_tup (by omega))) (aCons_ok (eSl_ok (eVar_ok rfl) (opt_s eCst_ok) opt_n rfl) aNil_ok)))))) (by show 6 ≤ 100000; decide))
    obtain ⟨d', ed, md⟩ := at_mem (ds := [D.tup (cutL ds none (some a) ++ [o] ++ cutL ds (some (a + 1)) none), .tup (ds ++ [.str w]), .tup ds.reverse, .lst ds, .tup (ds ++ cutL ds none (some 1)), .tup (cutL ds (some 1) none)]) (i := i - 1) (by omega) (by show i - 1 < 6; omega)
    refine ⟨d', h4, (seq_nx (asg_ok ls rfl)).trans (ret_ok (e2_ok (y := .int (i - 1)) (eVar_ok rfl) (e2_ok (eVar_ok rfl) eCst_ok rfl) (by exact ed))), s4.mono (by omega), ?_⟩
    simp only [List.mem_cons, List.not_mem_nil, or_false] at md
    have c1l : (cutL ds none (some a)).length ≤ a.toNat := by
      unfold cutL
      rw [HT.sIx_none, List.length_take]
      have : HT.sIx ds.length ds.length (some a) = min a.toNat ds.length := by
        obtain ⟨j, rfl⟩ : ∃ j : Nat, a = (j : Int) := ⟨a.toNat, by omega⟩
        rw [HT.sIx_nat, Int.toNat_natCast]
      rw [this]
      omega
    have c2l : (cutL ds (some (a + 1)) none).length ≤ ds.length - a.toNat := by
      unfold cutL
      rw [HT.sIx_none, List.length_take, List.length_drop]
      have : HT.sIx ds.length 0 (some (a + 1)) = min (a.toNat + 1) ds.length := by
        obtain ⟨j, rfl⟩ : ∃ j : Nat, a = (j : Int) := ⟨a.toNat, by omega⟩
        rw [show ((j : Int) + 1) = ((j + 1 : Nat) : Int) by omega, HT.sIx_nat, Int.toNat_natCast]
      rw [this]
      omega
    have c3l : (cutL ds none (some 1)).length ≤ 1 := by
      unfold cutL
      rw [HT.sIx_none, List.length_take]
      have : HT.sIx ds.length ds.length (some 1) = min 1 ds.length := HT.sIx_nat ..
      rw [this]
      omega
    rcases md with rfl | rfl | rfl | rfl | rfl | rfl
    · refine av_tup (by simp only [List.length_append, List.length_cons, List.length_nil]; omega) (by omega) fun x hx => ?_
      rcases List.mem_append.mp hx with hx | hx
      · rcases List.mem_append.mp hx with hx | hx
        · exact hv x (c1.1 x hx)
        · rw [List.mem_singleton.mp hx]
          exact ho.1
      · exact hv x (c2.1 x hx)
    · refine av_tup (by simp only [List.length_append, List.length_cons, List.length_nil]; omega) (by omega) fun x hx => ?_
      rcases List.mem_append.mp hx with hx | hx
      · exact hv x hx
      · rw [List.mem_singleton.mp hx]
        exact iv_name hw
    · exact av_tup (by rw [List.length_reverse]; omega) (by omega) fun x hx => hv x (List.mem_reverse.mp hx)
    · exact av_lst (by omega) hv
    · refine av_tup (by rw [List.length_append]; omega) (by omega) fun x hx => ?_
      rcases List.mem_append.mp hx with hx | hx
      · exact hv x hx
      · exact hv x (c3.1 x hx)
    · exact av_tup (by omega) (by omega) fun x hx => hv x (c4.1 x hx)
  · have et : (decide (i = 0) || !isTupD d) = true := by
      by_cases hi : i = 0
      · simp [hi]
      · have : ¬ ∃ ds, d = .tup ds := fun q => hc ⟨hi, q⟩
        have e : isTupD d = false := by
          cases d <;> first | rfl | exact absurd ⟨_, rfl⟩ this
        rw [e]
        simp
    rw [et] at t
    obtain ⟨o, h4, e4, s4, ho⟩ := call_other (ρ := [some (.val (.loc 1)), some (.val d), some (.val (.int i)), none, none, none]) (i := 0) rfl s1 (by omega)
    exact ⟨o, h4, seq_take t (ret_ok e4), s4.mono (by omega), ho.av.mono (by omega)⟩
end WR.K02
set_option Elab.async false
set_option linter.all false
set_option autoImplicit false
set_option maxRecDepth 100000
set_option maxHeartbeats 4000000
namespace WR.K02
open PySem PySem.Spec PyProof.Rows L2
/-! ### keys of rows compared -/
def atC (cs : List Str) (ds : List D) (c : Str) : D := ds.getD (cs.idxOf c) .non
theorem zip_at : ∀ {cs : List Str} {ds : List D}, cs.Nodup → cs.length = ds.length → cs.zip ds = cs.map fun c => (c, atC cs ds c)
  | [], _, _, _ => rfl
  | c :: cs, [], _, h => absurd h (by simp)
  | c :: cs, d :: ds, nd, h => by
    obtain ⟨h1, h2⟩ := List.nodup_cons.mp nd
    rw [List.zip_cons_cons, List.map_cons, zip_at h2 (by simpa using h)]
    have e0 : atC (c :: cs) (d :: ds) c = d := by
      unfold atC
      rw [List.idxOf_cons_self]
      rfl
    rw [e0]
    congr 1
    refine List.map_congr_left fun x hx => ?_
    have nx : x ≠ c := fun e => h1 (e ▸ hx)
    unfold atC
    rw [idx_ne nx]
    rfl
theorem keyVals_eq {cs ks : List Str} {ds : List D} (nd : cs.Nodup) (hl : cs.length = ds.length) (hk : keyB ks cs = true) : keyVals cs ks ds = ks.map (atC cs ds) := by
  unfold keyVals
  rw [zip_at nd hl, List.filter_map, List.map_map]
  have e : ks = cs.filter fun c => decide (c ∈ ks) := of_decide_eq_true hk
  conv => rhs; rw [e]
  rfl
theorem pd_map {a : Str → D} : ∀ {ks : List Str}, (∀ c ∈ ks, Fl (a c)) → ∃ f : Str → PyData, D.pdL (ks.map a) = some (ks.map f) ∧ PyData.canLayAll0 (ks.map f) = true ∧ PyData.depthAll (ks.map f) = 0 ∧ ∀ c ∈ ks, D.pd (a c) = some (f c) := by
  intro ks h
  refine ⟨fun c => (D.pd (a c)).getD .none, ?_⟩
  induction ks with
  | nil => exact ⟨by simp [D.pdL], by simp [PyData.canLayAll0], by simp [PyData.depthAll], fun _ z => nomatch z⟩
  | cons k ks ih =>
    obtain ⟨p, h1, h2, h3⟩ := h k (by simp)
    obtain ⟨i1, i2, i3, i4⟩ := ih fun c hc => h c (by simp [hc])
    refine ⟨by simp [D.pdL, h1, i1], by simp [PyData.canLayAll0, h1, h2, i2], by simp [PyData.depthAll, h1, h3, i3], fun c hc => ?_⟩
    rcases List.mem_cons.mp hc with rfl | hc
    · simp [h1]
    · exact i4 c hc
theorem eq_tupF {a b : Str → D} {ks : List Str} (ha : ∀ c ∈ ks, Fl (a c)) (hb : ∀ c ∈ ks, Fl (b c)) : eqT (.tup (ks.map a)) (.tup (ks.map b)) = some (ks.all fun c => eqF (a c) (b c)) := by
  obtain ⟨f, f1, f2, f3, f4⟩ := pd_map ha
  obtain ⟨g, g1, g2, g3, g4⟩ := pd_map hb
  unfold eqT
  have e1 : D.pd (.tup (ks.map a)) = some (.tuple (ks.map f)) := by simp [D.pd, f1]
  have e2 : D.pd (.tup (ks.map b)) = some (.tuple (ks.map g)) := by simp [D.pd, g1]
  rw [if_neg (by simp [lenNe, lstOf]), e1, e2]
  dsimp only
  rw [if_pos ⟨shaped_of (by simpa [PyData.canLay0] using f2) (by simp [PyData.depth, f3]), shaped_of (by simpa [PyData.canLay0] using g2) (by simp [PyData.depth, g3])⟩]
  show some (PyData.eqvAll (ks.map f) (ks.map g)) = _
  congr 1
  have : ∀ (zs : List Str), (∀ c ∈ zs, D.pd (a c) = some (f c)) → (∀ c ∈ zs, D.pd (b c) = some (g c)) → PyData.eqvAll (zs.map f) (zs.map g) = zs.all fun c => eqF (a c) (b c) := by
    intro zs
    induction zs with
    | nil => intro _ _; simp [PyData.eqvAll]
    | cons z zs ih =>
      intro h1 h2
      have e : eqF (a z) (b z) = PyData.eqv (f z) (g z) := by
        unfold eqF
        rw [h1 z (by simp), h2 z (by simp)]
      rw [List.map_cons, List.map_cons, List.all_cons, e, ← ih (fun c hc => h1 c (by simp [hc])) fun c hc => h2 c (by simp [hc])]
      simp [PyData.eqvAll]
  exact this ks f4 g4
theorem eqF_comm {x y : D} (hx : Wi x) (hy : Wi y) : eqF x y = eqF y x := by
  rcases hx with ⟨a, rfl, _⟩ | ⟨a, rfl, _⟩ <;> rcases hy with ⟨b, rfl, _⟩ | ⟨b, rfl, _⟩ <;> simp [eqF, D.pd, PyData.eqv]
  · rw [Bool.eq_iff_iff, beq_iff_eq, beq_iff_eq]
    exact eq_comm
  · rw [Bool.eq_iff_iff, beq_iff_eq, beq_iff_eq]
    exact eq_comm
theorem atC_wi {cs : List Str} {ds : List D} {c : Str} (hc : c ∈ cs) (hl : cs.length = ds.length) (h : ∀ d ∈ ds, Wi d) : Wi (atC cs ds c) ∧ ds[cs.idxOf c]? = some (atC cs ds c) := by
  have hi : cs.idxOf c < ds.length := by
    rw [← hl]
    exact List.idxOf_lt_length_of_mem hc
  unfold atC
  rw [List.getD_eq_getElem?_getD, List.getElem?_eq_getElem hi]
  exact ⟨h _ (List.getElem_mem hi), rfl⟩
theorem lk_wi {d : D} {h : IH} (hd : Wi d) : lk h d = d := by
  rcases hd with ⟨a, rfl, _⟩ | ⟨a, rfl, _⟩ <;> rfl
/-! ### tables -/
/-- arguments that make a table -/
structure Rt (a : Str) (xs ys ks : List Str) : Prop where
  na : nameS a = true
  nx : ∀ x ∈ xs, nameS x = true
  ny : ∀ x ∈ ys, nameS x = true
  nk : ∀ x ∈ ks, nameS x = true
  lx : xs.length ≤ 2
  ly : ys.length ≤ 2
  nd : (xs ++ ys).Nodup
  ky : keyB ks (xs ++ ys) = true
theorem Rt.nc {a : Str} {xs ys ks : List Str} (h : Rt a xs ys ks) : ∀ x ∈ xs ++ ys, nameS x = true := fun x hx => (List.mem_append.mp hx).elim (h.nx x) (h.ny x)
theorem Rt.sub {a : Str} {xs ys ks : List Str} (h : Rt a xs ys ks) : ∀ x ∈ ks, x ∈ xs ++ ys := ((keyB_iff h.nd).mp h.ky).1
theorem Rt.lk {a : Str} {xs ys ks : List Str} (h : Rt a xs ys ks) : ks.length ≤ 4 := by
  have e : ks = (xs ++ ys).filter fun c => decide (c ∈ ks) := of_decide_eq_true h.ky
  have := List.length_filter_le (fun c => decide (c ∈ ks)) (xs ++ ys)
  rw [← e, List.length_append] at this
  have := h.lx
  have := h.ly
  omega
abbrev sT (xs : List Str) : D := .tup (xs.map D.str)
theorem right_rt {t l f p : D} (h : rightB t l f p = true) : ∃ a xs ys ks, t = .str a ∧ l = sT xs ∧ f = sT ys ∧ p = sT ks ∧ Rt a xs ys ks := by
  unfold rightB at h
  simp only [Bool.and_eq_true] at h
  obtain ⟨⟨⟨h1, h2⟩, h3⟩, h4, h5⟩ := h
  obtain ⟨a, rfl, na⟩ := nameB_str h1
  obtain ⟨xs, rfl, nx, lx, ex⟩ := names_tup h2
  obtain ⟨ys, rfl, ny, ly, ey⟩ := names_tup h3
  unfold colsOf at h4 h5
  rw [ex, ey] at h4 h5
  unfold colsB at h4
  simp only [Bool.and_eq_true, decide_eq_true_eq] at h4
  cases p with
  | tup ds =>
    have h5' : (ds.all nameB && keyB (strL ds) (xs ++ ys)) = true := h5
    obtain ⟨h6, h7⟩ := Bool.and_eq_true_iff.mp h5'
    obtain ⟨es, hs⟩ := names_strs h6
    exact ⟨a, xs, ys, strL ds, rfl, rfl, rfl, by show D.tup ds = D.tup _; rw [← es], ⟨na, nx, ny, hs, lx, ly, h4.2, h7⟩⟩
  | _ => exact absurd h5 (by simp [isKeyB])
abbrev Tb (a : Str) (xs ys ks : List Str) : D := .obj "Table" (tabF (.str a) (sT xs) (sT ys) (sT ks))
def clashB (cs ks : List Str) (ds es : List D) : Bool := !ks.isEmpty && ks.all fun c => eqF (atC cs ds c) (atC cs es c)
section
variable {a : Str} {xs ys ks : List Str} {ds es : List D} {h : IH}
theorem ne_nil_tup {zs : List Str} (hz : ∀ x ∈ zs, PyData.strOk x = true) : eqT (sT zs) (.tup []) = some zs.isEmpty := by
  have e := eq_tups (xs := zs) (ys := []) hz (fun _ z => nomatch z)
  rw [show (D.tup []) = .tup (([] : List Str).map D.str) from rfl, e]
  congr 1
  cases zs <;> simp
theorem clash_eq (r : Rt a xs ys ks) (l1 : ds.length = (xs ++ ys).length) (l2 : es.length = (xs ++ ys).length) (w1 : ∀ d ∈ ds, Wi d) (w2 : ∀ d ∈ es, Wi d) : d_Table_clash [Tb a xs ys ks, .tup ds, .tup es] h = .ok (.bl (clashB (xs ++ ys) ks ds es)) h := by
  refine runB_rt rfl ?_
  unfold F_Table_clash
  have k : ∀ ds : List D, ds.length = (xs ++ ys).length → d_Table_key_of [Tb a xs ys ks, .tup ds] h = .ok (.tup (ks.map (atC (xs ++ ys) ds))) h := fun ds hl => by
    have := key_of_eq (tabF (.str a) (sT xs) (sT ys) (sT ks)) xs ys ks ds h rfl rfl rfl r.nc r.nk (by have := r.lx; have := r.ly; omega)
    rw [keyVals_eq r.nd hl.symm r.ky] at this
    exact this
  refine ret_ok (eAn_b (e2_ok (eFld_ok (eVar_ok rfl) rfl (by simp) rfl) (eTup_ok aNil_ok) ?_) fun _ => e2_ok (eMeth_ok (eVar_ok rfl) rfl rfl (aCons_ok (eVar_ok rfl) aNil_ok) aNil_ok ⟨rfl, rfl⟩ rfl (k ds l1)) (eMeth_ok (eVar_ok rfl) rfl rfl (aCons_ok (eVar_ok rfl) aNil_ok) aNil_ok ⟨rfl, rfl⟩ rfl (k es l2)) ?_)
  · show (eqT (sT ks) (.tup [])).map (fun b => D.bl (!b)) = _
    rw [ne_nil_tup fun x hx => nameS_ok (r.nk x hx)]
    rfl
  · show (eqT (.tup (ks.map (atC (xs ++ ys) ds))) (.tup (ks.map (atC (xs ++ ys) es)))).map D.bl = _
    rw [eq_tupF (fun c hc => (atC_wi (r.sub c hc) l1.symm w1).1.fl) fun c hc => (atC_wi (r.sub c hc) l2.symm w2).1.fl]
    rfl
theorem l_clash_eq (r : Rt a xs ys ks) (l1 : ds.length = (xs ++ ys).length) (l2 : es.length = (xs ++ ys).length) (w1 : ∀ d ∈ ds, Wi d) (w2 : ∀ d ∈ es, Wi d) : d_l_clash [.lst [.str a, sT xs, sT ys, sT ks], .tup ds, .tup es] h = .ok (.bl (clashB (xs ++ ys) ks ds es)) h := by
  refine runB_rt rfl ?_
  unfold F_l_clash
  have st1 : sAsg (e2 addP (e2 ixP (eVar 0) (eCst (.int 1))) (e2 ixP (eVar 0) (eCst (.int 2)))) (tgN 3) (startE 6 [.lst [.str a, sT xs, sT ys, sT ks], .tup ds, .tup es]) h = .nx [some (.val (.lst [.str a, sT xs, sT ys, sT ks])), some (.val (.tup ds)), some (.val (.tup es)), some (.val (sT (xs ++ ys))), none, none] h := by
    refine asg_ok (d := sT (xs ++ ys)) (e2_ok (e2_ok (eVar_ok rfl) eCst_ok rfl) (e2_ok (eVar_ok rfl) eCst_ok rfl) ?_) rfl
    refine (add_tup ?_).trans ?_
    · rw [List.length_map, List.length_map]
      have := r.lx
      have := r.ly
      omega
    · show some (D.tup _) = some (D.tup ((xs ++ ys).map D.str))
      rw [List.map_append]
  rw [seq_nx st1]
  have lc : mLc (iSeq (e2 ixP (eVar 0) (eCst (.int 3)))) [5] (tgN 5) (tst (e2 neP (e2 ixP (eVar 1) (eIdx (eVar 3) (eVar 5))) (e2 ixP (eVar 2) (eIdx (eVar 3) (eVar 5))))) (eVar 5) [some (.val (.lst [.str a, sT xs, sT ys, sT ks])), some (.val (.tup ds)), some (.val (.tup es)), some (.val (sT (xs ++ ys))), none, none] h = .ok (((ks.map D.str).filter fun d => !eqF (atC (xs ++ ys) ds (sOf d)) (atC (xs ++ ys) es (sOf d))).map id) h := by
    refine mLc_filter _ _ (fun d => [some (.val (.lst [.str a, sT xs, sT ys, sT ks])), some (.val (.tup ds)), some (.val (.tup es)), some (.val (sT (xs ++ ys))), none, some (.val d)]) (iSeq_ok (e2_ok (eVar_ok rfl) eCst_ok rfl) rfl) (fun _ _ => rfl) (fun d hd => ?_) fun _ _ _ => eVar_ok rfl
    obtain ⟨c, hc, rfl⟩ := List.mem_map.mp hd
    obtain ⟨p1, p2⟩ := atC_wi (r.sub c hc) l1.symm w1
    obtain ⟨q1, q2⟩ := atC_wi (r.sub c hc) l2.symm w2
    refine tst_ok (e2_ok (e2_ok (eVar_ok rfl) (idx_ok rfl rfl (r.sub c hc)) (atI_nat p2)) (e2_ok (eVar_ok rfl) (idx_ok rfl rfl (r.sub c hc)) (atI_nat q2)) ?_)
    show (eqT (lk h _) (lk h _)).map (fun b => D.bl (!b)) = _
    rw [lk_wi p1, lk_wi q1, eq_flat p1.fl q1.fl]
    rfl
  have st2 : sAsg (eFz (sizM (mLc (iSeq (e2 ixP (eVar 0) (eCst (.int 3)))) [5] (tgN 5) (tst (e2 neP (e2 ixP (eVar 1) (eIdx (eVar 3) (eVar 5))) (e2 ixP (eVar 2) (eIdx (eVar 3) (eVar 5))))) (eVar 5)))) (tgN 4) [some (.val (.lst [.str a, sT xs, sT ys, sT ks])), some (.val (.tup ds)), some (.val (.tup es)), some (.val (sT (xs ++ ys))), none, none] h = .nx [some (.val (.lst [.str a, sT xs, sT ys, sT ks])), some (.val (.tup ds)), some (.val (.tup es)), some (.val (sT (xs ++ ys))), some (.val (.lst (((ks.map D.str).filter fun d => !eqF (atC (xs ++ ys) ds (sOf d)) (atC (xs ++ ys) es (sOf d))).map id))), none] h := asg_ok (fz_ok (siz_ok lc (by
    rw [List.length_map]
    refine Nat.le_trans (List.length_filter_le _ _) ?_
    rw [List.length_map]
    have := r.lk
    omega))) rfl
  rw [seq_nx st2]
  refine ret_ok (eAn_b (e2_ok (e2_ok (eVar_ok rfl) eCst_ok rfl) (eTup_ok aNil_ok) ?_) fun _ => e2_ok (eVar_ok rfl) (fz_ok (siz_ok aNil_ok)) ?_)
  · show (eqT (sT ks) (.tup [])).map (fun b => D.bl (!b)) = _
    rw [ne_nil_tup fun x hx => nameS_ok (r.nk x hx)]
    rfl
  · show (eqT (.lst _) (.lst [])).map D.bl = _
    rw [eq_nil]
    show some (D.bl _) = some (D.bl _)
    congr 2
    rw [List.map_id, Bool.eq_iff_iff, List.isEmpty_iff, List.filter_eq_nil_iff, List.all_eq_true]
    constructor
    · intro q c hc
      have := q (.str c) (List.mem_map.mpr ⟨c, hc, rfl⟩)
      simpa [sOf] using this
    · intro q d hd
      obtain ⟨c, hc, rfl⟩ := List.mem_map.mp hd
      have := q c hc
      simpa [sOf] using this
theorem clash_comm (r : Rt a xs ys ks) (l1 : ds.length = (xs ++ ys).length) (l2 : es.length = (xs ++ ys).length) (w1 : ∀ d ∈ ds, Wi d) (w2 : ∀ d ∈ es, Wi d) : clashB (xs ++ ys) ks ds es = clashB (xs ++ ys) ks es ds := by
  unfold clashB
  congr 1
  rw [Bool.eq_iff_iff, List.all_eq_true, List.all_eq_true]
  have : ∀ c ∈ ks, eqF (atC (xs ++ ys) ds c) (atC (xs ++ ys) es c) = eqF (atC (xs ++ ys) es c) (atC (xs ++ ys) ds c) := fun c hc => eqF_comm (atC_wi (r.sub c hc) l1.symm w1).1 (atC_wi (r.sub c hc) l2.symm w2).1
  exact ⟨fun q c hc => by rw [← this c hc]; exact q c hc, fun q c hc => by rw [this c hc]; exact q c hc⟩
end
end WR.K02
set_option Elab.async false
set_option linter.all false
set_option autoImplicit false
set_option maxRecDepth 100000
set_option maxHeartbeats 4000000
namespace WR.K02
open PySem PySem.Spec PyProof.Rows L2
section
variable {h h1 h2 h3 : IH} {ρ : En} {x y u v : D} {a b : Str} {xs ys ks xs' ys' ks' : List Str} {fa fb : En → M D} {ff : List D → M D} {c : Bool} {cn : Str}
theorem eeqO_ok (e1 : fa ρ h = .ok x h1) (e2 : fb ρ h1 = .ok y h2) (ea : eqArg cn x y = some (u, v)) (e : ff [u, v] h2 = .ok (.bl c) h3) : eeqO cn ff fa fb ρ h = .ok (.bl c) h3 := by
  unfold eeqO
  have ed : (eqDM cn ff x y) h2 = .ok c h3 := by
    unfold eqDM
    rw [bind_ok (of_ok ea)]
    unfold runEq
    rw [bind_ok (noX_ok e)]
    rfl
  rw [bind_ok e1, bind_ok e2, bind_ok ed]
  rfl
theorem eneO_ok (e1 : fa ρ h = .ok x h1) (e2 : fb ρ h1 = .ok y h2) (ea : neArg cn x y = some (u, v)) (e : ff [u, v] h2 = .ok (.bl c) h3) : eneO cn ff fa fb ρ h = .ok (.bl (!c)) h3 := by
  unfold eneO
  have ed : (neDM cn ff x y) h2 = .ok c h3 := by
    unfold neDM
    rw [bind_ok (of_ok ea)]
    unfold runEq
    rw [bind_ok (noX_ok e)]
    rfl
  rw [bind_ok e1, bind_ok e2, bind_ok ed]
  rfl
theorem isi_tab {d : D} (hd : Tyd d) : isiP isiT h [d, .glo "Table"] = some (.bl false) := by
  cases d <;> first | exact hd.elim | rfl
theorem isi_Tb {fs : List (Str × D)} : isiP isiT h [.obj "Table" fs, .glo "Table"] = some (.bl true) := rfl
def sameB (a : Str) (xs ys ks : List Str) (b : Str) (xs' ys' ks' : List Str) : Bool := decide (a = b) && (decide (xs = xs') && (decide (ys = ys') && decide (ks = ks')))
theorem fld_ok {fs : List (Str × D)} {fn : Str} {d : D} {i : Nat} (hi : slot ρ i = some (.obj "Table" fs)) (hl : fs.lookup fn = some d) : eFld ["Table"] fn (eVar i) ρ h = .ok d h := eFld_ok (eVar_ok hi) rfl (by simp) hl
theorem tab_eq (r : Rt a xs ys ks) (q : Rt b xs' ys' ks') : d_Table_eq [Tb a xs ys ks, Tb b xs' ys' ks'] h = .ok (.bl (sameB a xs ys ks b xs' ys' ks')) h := by
  refine runB_rt rfl ?_
  unfold F_Table_eq
  have t1 : tNt (tst (eN (isiP isiT) (aCons (eVar 1) (aCons (eCst (.glo "Table")) aNil)))) (startE 2 [Tb a xs ys ks, Tb b xs' ys' ks']) h = .ok false h := tNt_ok (b := true) (tst_ok (eN_ok (aCons_ok (eVar_ok rfl) (aCons_ok eCst_ok aNil_ok)) isi_Tb))
  have t2 : tst (e2 neP (eFld ["Table"] "name" (eVar 0)) (eFld ["Table"] "name" (eVar 1))) (startE 2 [Tb a xs ys ks, Tb b xs' ys' ks']) h = .ok (!decide (a = b)) h := by
    refine tst_ok (e2_ok (x := .str a) (y := .str b) (fld_ok rfl rfl) (fld_ok rfl rfl) ?_)
    show (eqT (.str a) (.str b)).map (fun b => D.bl (!b)) = _
    rw [eq_strs]
    rfl
  have t := tOr_f t1 t2
  unfold sameB
  by_cases hab : a = b
  · rw [decide_eq_true hab] at t ⊢
    rw [seq_skip t, Bool.true_and]
    have c3 : ∀ (fn : Str) (zs ws : List Str), (tabF (.str a) (sT xs) (sT ys) (sT ks)).lookup fn = some (sT zs) → (tabF (.str b) (sT xs') (sT ys') (sT ks')).lookup fn = some (sT ws) → (∀ x ∈ zs, nameS x = true) → (∀ x ∈ ws, nameS x = true) → e2 eqP (eFld ["Table"] fn (eVar 0)) (eFld ["Table"] fn (eVar 1)) (startE 2 [Tb a xs ys ks, Tb b xs' ys' ks']) h = .ok (.bl (decide (zs = ws))) h := fun fn zs ws l1 l2 n1 n2 => by
      refine e2_ok (x := sT zs) (y := sT ws) (fld_ok rfl l1) (fld_ok rfl l2) ?_
      show (eqT (sT zs) (sT ws)).map D.bl = _
      rw [eq_tups (fun x hx => nameS_ok (n1 x hx)) fun x hx => nameS_ok (n2 x hx)]
      rfl
    exact ret_ok (eAn_b (c3 "names" xs xs' rfl rfl r.nx q.nx) fun _ => eAn_b (c3 "numbers" ys ys' rfl rfl r.ny q.ny) fun _ => c3 "key" ks ks' rfl rfl r.nk q.nk)
  · rw [decide_eq_false hab] at t ⊢
    rw [seq_take t (ret_ok eCst_ok)]
    rfl
theorem tab_other {d : D} (hd : Tyd d) : d_Table_eq [Tb a xs ys ks, d] h = .ok (.bl false) h := by
  refine runB_rt rfl ?_
  unfold F_Table_eq
  exact seq_take (tOr_t (tNt_ok (b := false) (tst_ok (eN_ok (aCons_ok (eVar_ok rfl) (aCons_ok eCst_ok aNil_ok)) (isi_tab hd))))) (ret_ok eCst_ok)
/-- [..] == [..] of arguments -/
theorem eq_some (r : Rt a xs ys ks) (q : Rt b xs' ys' ks') : eqT (.lst [.str a, sT xs, sT ys, sT ks]) (.lst [.str b, sT xs', sT ys', sT ks']) = some (sameB a xs ys ks b xs' ys' ks') := by
  unfold eqT
  have pd : ∀ (a : Str) (xs ys ks : List Str), D.pd (.lst [.str a, sT xs, sT ys, sT ks]) = some (.list [.str a, .tuple (xs.map PyData.str), .tuple (ys.map PyData.str), .tuple (ks.map PyData.str)]) := fun a xs ys ks => by simp [D.pd, D.pdL, pd_strs]
  have sh : ∀ (a : Str) (xs ys ks : List Str), shp (.list [.str a, .tuple (xs.map PyData.str), .tuple (ys.map PyData.str), .tuple (ks.map PyData.str)]) = true := fun a xs ys ks => by
    have pl : ∀ zs : List Str, PyData.plainAll (zs.map PyData.str) = true ∧ PyData.depthAll (zs.map PyData.str) = 0 := fun zs => by
      induction zs with
      | nil => simp [PyData.plainAll, PyData.depthAll]
      | cons z zs ih => simp [PyData.plainAll, PyData.plain, PyData.depthAll, PyData.depth, ih]
    exact shp_of (by simp [PyData.plain, PyData.plainAll, pl]) (by simp [PyData.depth, PyData.depthAll, pl])
  rw [if_neg (by simp [lenNe, lstOf]), pd, pd]
  dsimp only
  rw [if_pos ⟨sh _ _ _ _, sh _ _ _ _⟩]
  show some (PyData.eqvAll _ _) = _
  congr 1
  simp only [PyData.eqvAll, PyData.eqv, eqv_strs, Bool.and_true]
  rfl
/-! ### made, or raised -/
theorem mk_ok {n m : Nat} {bd : List D → List D → Option (List D)} {fi : List D → M (List (Str × D))} {ga gk : En → M (List D)} {es ds as : List D} (e1 : ga ρ h = .ok ds h1) (e2 : gk ρ h1 = .ok es h2) (hn : ds.length = n ∧ es.length = m) (hb : bd ds es = some as) : mkM n m bd fi ga gk ρ h = fi as h2 := by
  unfold mkM
  rw [bind_ok e1, bind_ok e2, if_pos hn, bind_ok (of_ok hb)]
theorem eMk_ok {g : En → M (List (Str × D))} {fs : List (Str × D)} (e : g ρ h = .ok fs h1) : eMk cn g ρ h = .ok (.obj cn fs) h1 := by
  unfold eMk
  rw [bind_ok e]
  rfl
theorem eMk_ex {g : En → M (List (Str × D))} {c : Str} {fs : List (Str × D)} (e : g ρ h = .ex c fs h1) : eMk cn g ρ h = .ex c fs h1 := by
  unfold eMk M.bind
  rw [e]
theorem asg_ex {f : En → M D} {tg : D → En → Option En} {c : Str} {fs : List (Str × D)} (e : f ρ h = .ex c fs h1) : sAsg f tg ρ h = .ex c fs ρ h1 := by
  unfold sAsg
  rw [e]
  rfl
end
/-- four arguments -/
structure Args (n : Nat) (t l f p : D) : Prop where
  t : Av n t
  l : Av n l
  f : Av n f
  p : Av n p
theorem init_av {n : Nat} {t l f p : D} (a : Args n t l f p) (hn : n ≤ 1000) (h : IH) : d_Table_init [t, l, f, p] h = if rightB t l f p = true then .ok (tabF t l f p) h else .ex "InvalidTable" [] h := init_eq t l f p h a.t.itm (a.l.val hn) (a.f.val hn) (a.p.val hn)
theorem right_av {n : Nat} {t l f p : D} (a : Args n t l f p) (hn : n ≤ 1000) (h : IH) : d_l_right [t, l, f, p] h = .ok (.bl (rightB t l f p)) h := l_right_eq t l f p h a.t.itm (a.l.val hn) (a.f.val hn) (a.p.val hn) a.p.strs
/-- _law_heard -/
theorem heard_ok {n : Nat} {t l f p : D} (a : Args n t l f p) (hn : n ≤ 1000) (by_ : Bool) (h : IH) : d_l_heard [.lst [t, l, f, p], .bl by_] h = .ok (if rightB t l f p = true then .obj "Table" (tabF t l f p) else .non) h := by
  refine runB_rt rfl ?_
  unfold F_l_heard
  have st0 : sAsg (eCst .non) (tgN 2) (startE 4 [.lst [t, l, f, p], .bl by_]) h = .nx [some (.val (.lst [t, l, f, p])), some (.val (.bl by_)), some (.val .non), none] h := asg_ok eCst_ok rfl
  rw [seq_nx st0]
  have tb : tst (eVar 1) [some (.val (.lst [t, l, f, p])), some (.val (.bl by_)), some (.val .non), none] h = .ok by_ h := tst_ok (eVar_ok rfl)
  have it : ∀ i : Nat, ∀ d, ([t, l, f, p] : List D)[i]? = some d → e2 ixP (eVar 0) (eCst (.int (i : Nat))) [some (.val (.lst [t, l, f, p])), some (.val (.bl by_)), some (.val .non), none] h = .ok d h := fun i d hd => e2_ok (eVar_ok rfl) eCst_ok (atI_nat hd)
  have m1 : mkM 0 4 (bdP [3, 2, 1, 0] [(.tup []), (.tup [])]) d_Table_init aNil (aCons (e2 ixP (eVar 0) (eCst (.int 3))) (aCons (e2 ixP (eVar 0) (eCst (.int 2))) (aCons (e2 ixP (eVar 0) (eCst (.int 1))) (aCons (e2 ixP (eVar 0) (eCst (.int 0))) aNil)))) [some (.val (.lst [t, l, f, p])), some (.val (.bl by_)), some (.val .non), none] h = d_Table_init [t, l, f, p] h := mk_ok aNil_ok (aCons_ok (it 3 p rfl) (aCons_ok (it 2 f rfl) (aCons_ok (it 1 l rfl) (aCons_ok (it 0 t rfl) aNil_ok)))) ⟨rfl, rfl⟩ rfl
  have m2 : mkM 4 0 (bdP [0, 1, 2, 3] [(.tup []), (.tup [])]) d_Table_init (aCons (e2 ixP (eVar 0) (eCst (.int 0))) (aCons (e2 ixP (eVar 0) (eCst (.int 1))) (aCons (e2 ixP (eVar 0) (eCst (.int 2))) (aCons (e2 ixP (eVar 0) (eCst (.int 3))) aNil)))) aNil [some (.val (.lst [t, l, f, p])), some (.val (.bl by_)), some (.val .non), none] h = d_Table_init [t, l, f, p] h := mk_ok (aCons_ok (it 0 t rfl) (aCons_ok (it 1 l rfl) (aCons_ok (it 2 f rfl) (aCons_ok (it 3 p rfl) aNil_ok)))) aNil_ok ⟨rfl, rfl⟩ rfl
  rw [init_av a hn] at m1 m2
  by_cases hr : rightB t l f p = true
  · rw [if_pos hr] at m1 m2 ⊢
    have F : sIf (tst (eVar 1)) (sAsg (eMk "Table" (mkM 0 4 (bdP [3, 2, 1, 0] [(.tup []), (.tup [])]) d_Table_init aNil (aCons (e2 ixP (eVar 0) (eCst (.int 3))) (aCons (e2 ixP (eVar 0) (eCst (.int 2))) (aCons (e2 ixP (eVar 0) (eCst (.int 1))) (aCons (e2 ixP (eVar 0) (eCst (.int 0))) aNil)))))) (tgN 2)) (sAsg (eMk "Table" (mkM 4 0 (bdP [0, 1, 2, 3] [(.tup []), (.tup [])]) d_Table_init (aCons (e2 ixP (eVar 0) (eCst (.int 0))) (aCons (e2 ixP (eVar 0) (eCst (.int 1))) (aCons (e2 ixP (eVar 0) (eCst (.int 2))) (aCons (e2 ixP (eVar 0) (eCst (.int 3))) aNil)))) aNil)) (tgN 2)) [some (.val (.lst [t, l, f, p])), some (.val (.bl by_)), some (.val .non), none] h = .nx [some (.val (.lst [t, l, f, p])), some (.val (.bl by_)), some (.val (.obj "Table" (tabF t l f p))), none] h := by
      cases by_ with
      | true => exact (if_t tb).trans (asg_ok (eMk_ok m1) rfl)
      | false => exact (if_f tb).trans (asg_ok (eMk_ok m2) rfl)
    have T : sTry excT (sIf (tst (eVar 1)) (sAsg (eMk "Table" (mkM 0 4 (bdP [3, 2, 1, 0] [(.tup []), (.tup [])]) d_Table_init aNil (aCons (e2 ixP (eVar 0) (eCst (.int 3))) (aCons (e2 ixP (eVar 0) (eCst (.int 2))) (aCons (e2 ixP (eVar 0) (eCst (.int 1))) (aCons (e2 ixP (eVar 0) (eCst (.int 0))) aNil)))))) (tgN 2)) (sAsg (eMk "Table" (mkM 4 0 (bdP [0, 1, 2, 3] [(.tup []), (.tup [])]) d_Table_init (aCons (e2 ixP (eVar 0) (eCst (.int 0))) (aCons (e2 ixP (eVar 0) (eCst (.int 1))) (aCons (e2 ixP (eVar 0) (eCst (.int 2))) (aCons (e2 ixP (eVar 0) (eCst (.int 3))) aNil)))) aNil)) (tgN 2))) (⟨"InvalidTable", some 3, sAsg (eIf (tAn (tst (eXis xtT 3 (.glo "TurnError"))) (tst (eXis xtT 3 (.ty "ValueError")))) (eCst .non) (eCst (.str "odd"))) (tgN 2)⟩ :: []) [some (.val (.lst [t, l, f, p])), some (.val (.bl by_)), some (.val .non), none] h = .nx [some (.val (.lst [t, l, f, p])), some (.val (.bl by_)), some (.val (.obj "Table" (tabF t l f p))), none] h := by
      unfold sTry
      rw [F]
    rw [seq_nx T]
    exact ret_ok (eVar_ok rfl)
  · rw [if_neg hr] at m1 m2 ⊢
    have F : sIf (tst (eVar 1)) (sAsg (eMk "Table" (mkM 0 4 (bdP [3, 2, 1, 0] [(.tup []), (.tup [])]) d_Table_init aNil (aCons (e2 ixP (eVar 0) (eCst (.int 3))) (aCons (e2 ixP (eVar 0) (eCst (.int 2))) (aCons (e2 ixP (eVar 0) (eCst (.int 1))) (aCons (e2 ixP (eVar 0) (eCst (.int 0))) aNil)))))) (tgN 2)) (sAsg (eMk "Table" (mkM 4 0 (bdP [0, 1, 2, 3] [(.tup []), (.tup [])]) d_Table_init (aCons (e2 ixP (eVar 0) (eCst (.int 0))) (aCons (e2 ixP (eVar 0) (eCst (.int 1))) (aCons (e2 ixP (eVar 0) (eCst (.int 2))) (aCons (e2 ixP (eVar 0) (eCst (.int 3))) aNil)))) aNil)) (tgN 2)) [some (.val (.lst [t, l, f, p])), some (.val (.bl by_)), some (.val .non), none] h = .ex "InvalidTable" [] [some (.val (.lst [t, l, f, p])), some (.val (.bl by_)), some (.val .non), none] h := by
      cases by_ with
      | true => exact (if_t tb).trans (asg_ex (eMk_ex m1))
      | false => exact (if_f tb).trans (asg_ex (eMk_ex m2))
    have T : sTry excT (sIf (tst (eVar 1)) (sAsg (eMk "Table" (mkM 0 4 (bdP [3, 2, 1, 0] [(.tup []), (.tup [])]) d_Table_init aNil (aCons (e2 ixP (eVar 0) (eCst (.int 3))) (aCons (e2 ixP (eVar 0) (eCst (.int 2))) (aCons (e2 ixP (eVar 0) (eCst (.int 1))) (aCons (e2 ixP (eVar 0) (eCst (.int 0))) aNil)))))) (tgN 2)) (sAsg (eMk "Table" (mkM 4 0 (bdP [0, 1, 2, 3] [(.tup []), (.tup [])]) d_Table_init (aCons (e2 ixP (eVar 0) (eCst (.int 0))) (aCons (e2 ixP (eVar 0) (eCst (.int 1))) (aCons (e2 ixP (eVar 0) (eCst (.int 2))) (aCons (e2 ixP (eVar 0) (eCst (.int 3))) aNil)))) aNil)) (tgN 2))) (⟨"InvalidTable", some 3, sAsg (eIf (tAn (tst (eXis xtT 3 (.glo "TurnError"))) (tst (eXis xtT 3 (.ty "ValueError")))) (eCst .non) (eCst (.str "odd"))) (tgN 2)⟩ :: []) [some (.val (.lst [t, l, f, p])), some (.val (.bl by_)), some (.val .non), none] h = .nx [some (.val (.lst [t, l, f, p])), some (.val (.bl by_)), some (.val .non), none] h := by
      unfold sTry
      rw [F]
      rfl
    rw [seq_nx T]
    exact ret_ok (eVar_ok rfl)
end WR.K02
set_option Elab.async false
set_option linter.all false
set_option autoImplicit false
set_option maxRecDepth 100000
set_option maxHeartbeats 4000000
namespace WR.K02
open PySem PySem.Spec PyProof.Rows L2
/-! ### _law_rows_right -/
/-- a row of the columns -/
def Rw (k : Nat) (d : D) : Prop := ∃ ds, d = .tup ds ∧ ds.length = k ∧ ∀ x ∈ ds, Wi x
/-- a value beside a row -/
def Rv (d : D) : Prop := Val d ∧ Shows 200000 6 d
theorem Av.rv {n : Nat} {d : D} (h : Av n d) (hn : n ≤ 1000) : Rv d := ⟨h.val hn, h.sh.mono (by decide) (by decide)⟩
theorem par2_ok {i j : Nat} {ga : En → M (List D)} {ρ : En} {h h1 : IH} {x y : D} (e : ga ρ h = .ok [x, y] h1) : sPar2 i j ga ρ h = .nx ((ρ.set i (some (.val x))).set j (some (.val y))) h1 := by
  unfold sPar2
  exact on_ok e
section
variable {a : Str} {xs ys ks : List Str} {h : IH} {rows wide it : D} {v5 v6 v7 v8 v9 v10 v11 v12 v13 : Option Sl}
abbrev someL (a : Str) (xs ys ks : List Str) : D := .lst [.str a, sT xs, sT ys, sT ks]
abbrev E14 (a : Str) (xs ys ks : List Str) (rows wide : D) (v5 v6 v7 v8 v9 v10 v11 v12 v13 : Option Sl) : En := [some (.val (.loc 1)), some (.val (Tb a xs ys ks)), some (.val (someL a xs ys ks)), some (.val rows), some (.val wide), v5, v6, v7, v8, v9, v10, v11, v12, v13]
abbrev itBody : MS := sSeq (sPar2 10 11 (aCons (eN reprP (aCons (eVar 9) (aNil))) (aCons (eN reprP (aCons (eCallK 2 0 (bdId) d_l_is_row (aCons (eVar 2) (aCons (eVar 9) (aNil))) aNil) (aNil))) (aNil)))) (sIf (tst (e2 neP (eFz (sizM (aCons (eN reprP (aCons (eMeth "Table" "is_row" 1 0 (bdId) d_Table_is_row (eVar 1) (aCons (eVar 9) (aNil)) aNil) (aNil))) (aCons (eN reprP (aCons (eMeth "Table" "is_row" 0 1 (bdP [0, 1] []) d_Table_is_row (eVar 1) aNil (aCons (eVar 9) (aNil))) (aNil))) (aCons (eN reprP (aCons (eVar 9) (aNil))) (aNil)))))) (eFz (sizM (aCons (eVar 11) (aCons (eVar 11) (aCons (eVar 10) (aNil)))))))) (sRet (eCst (.bl false))) (sNil))
theorem it_ok (hv : Rv it) : ∃ x y, itBody (E14 a xs ys ks rows wide v5 v6 v7 v8 (some (.val it)) v10 v11 v12 v13) h = .nx (E14 a xs ys ks rows wide v5 v6 v7 v8 (some (.val it)) (some x) (some y) v12 v13) h := by
  obtain ⟨hv, hs⟩ := hv
  have b := shows_bl (rowB it xs.length ys.length)
  have e1 := l_is_row_eq (.str a) (sT ks) (xs.map D.str) (ys.map D.str) it h hv
  have e2 := is_row_eq (tabF (.str a) (sT xs) (sT ys) (sT ks)) (xs.map D.str) (ys.map D.str) it h rfl rfl hv
  rw [List.length_map, List.length_map] at e1 e2
  refine ⟨.val (.str (shownD it)), .val (.str (shownD (.bl (rowB it xs.length ys.length)))), ?_⟩
  have st : sPar2 10 11 (aCons (eN reprP (aCons (eVar 9) (aNil))) (aCons (eN reprP (aCons (eCallK 2 0 (bdId) d_l_is_row (aCons (eVar 2) (aCons (eVar 9) (aNil))) aNil) (aNil))) (aNil))) (E14 a xs ys ks rows wide v5 v6 v7 v8 (some (.val it)) v10 v11 v12 v13) h = .nx (E14 a xs ys ks rows wide v5 v6 v7 v8 (some (.val it)) (some (.val (.str (shownD it)))) (some (.val (.str (shownD (.bl (rowB it xs.length ys.length)))))) v12 v13) h := par2_ok (aCons_ok (repr_ok (eVar_ok rfl) hs (by decide) (by decide)) (aCons_ok (repr_ok (eCallK_ok (aCons_ok (eVar_ok rfl) (aCons_ok (eVar_ok rfl) aNil_ok)) aNil_ok ⟨rfl, rfl⟩ rfl e1) b (by decide) (by decide)) aNil_ok))
  refine (seq_nx st).trans ?_
  refine if_nil (tst_ok (e2_ok (x := .lst ([shownD (.bl (rowB it xs.length ys.length)), shownD (.bl (rowB it xs.length ys.length)), shownD it].map D.str)) (y := .lst ([shownD (.bl (rowB it xs.length ys.length)), shownD (.bl (rowB it xs.length ys.length)), shownD it].map D.str)) (fz_ok (siz_ok (aCons_ok (repr_ok (eMeth_ok (eVar_ok rfl) rfl rfl (aCons_ok (eVar_ok rfl) aNil_ok) aNil_ok ⟨rfl, rfl⟩ rfl e2) b (by decide) (by decide)) (aCons_ok (repr_ok (eMeth_ok (eVar_ok rfl) rfl rfl aNil_ok (aCons_ok (eVar_ok rfl) aNil_ok) ⟨rfl, rfl⟩ rfl e2) b (by decide) (by decide)) (aCons_ok (repr_ok (eVar_ok rfl) hs (by decide) (by decide)) aNil_ok))) (by show 3 ≤ 100000; decide))) (fz_ok (siz_ok (aCons_ok (eVar_ok rfl) (aCons_ok (eVar_ok rfl) (aCons_ok (eVar_ok rfl) aNil_ok))) (by show 3 ≤ 100000; decide))) ?_))
  show (eqT (.lst (List.map D.str _)) (.lst (List.map D.str _))).map (fun b => D.bl (!b)) = _
  rw [eq_strL, decide_eq_true rfl]
  rfl
abbrev mateBody : MS := sSeq (sAsg (eN reprP (aCons (eCallK 3 0 (bdId) d_l_clash (aCons (eVar 2) (aCons (eVar 5) (aCons (eVar 12) (aNil)))) aNil) (aNil))) (tgN 11)) (sIf (tOr (tst (e2 neP (eN reprP (aCons (eMeth "Table" "clash" 2 0 (bdId) d_Table_clash (eVar 1) (aCons (eVar 5) (aCons (eVar 12) (aNil))) aNil) (aNil))) (eVar 11))) (tst (e2 neP (eN reprP (aCons (eMeth "Table" "clash" 0 2 (bdP [0, 2, 1] []) d_Table_clash (eVar 1) aNil (aCons (eVar 5) (aCons (eVar 12) (aNil)))) (aNil))) (eVar 11)))) (sRet (eCst (.bl false))) (sNil))
theorem ne_same {x : Str} {h : IH} : neP h (.str x) (.str x) = some (.bl false) := by
  show (eqT (.str x) (.str x)).map (fun b => D.bl (!b)) = _
  rw [eq_strs, decide_eq_true rfl]
  rfl
theorem mate_ok (r : Rt a xs ys ks) {ds es : List D} (l1 : ds.length = (xs ++ ys).length) (l2 : es.length = (xs ++ ys).length) (w1 : ∀ d ∈ ds, Wi d) (w2 : ∀ d ∈ es, Wi d) : ∃ y, mateBody (E14 a xs ys ks rows wide (some (.val (.tup ds))) v6 v7 v8 v9 v10 v11 (some (.val (.tup es))) v13) h = .nx (E14 a xs ys ks rows wide (some (.val (.tup ds))) v6 v7 v8 v9 v10 (some y) (some (.val (.tup es))) v13) h := by
  have b := shows_bl (clashB (xs ++ ys) ks ds es)
  have c1 := l_clash_eq (h := h) r l1 l2 w1 w2
  have c2 := clash_eq (h := h) r l1 l2 w1 w2
  have c3 := clash_eq (h := h) r l2 l1 w2 w1
  rw [← clash_comm r l1 l2 w1 w2] at c3
  refine ⟨.val (.str (shownD (.bl (clashB (xs ++ ys) ks ds es)))), ?_⟩
  have st : sAsg (eN reprP (aCons (eCallK 3 0 (bdId) d_l_clash (aCons (eVar 2) (aCons (eVar 5) (aCons (eVar 12) (aNil)))) aNil) (aNil))) (tgN 11) (E14 a xs ys ks rows wide (some (.val (.tup ds))) v6 v7 v8 v9 v10 v11 (some (.val (.tup es))) v13) h = .nx (E14 a xs ys ks rows wide (some (.val (.tup ds))) v6 v7 v8 v9 v10 (some (.val (.str (shownD (.bl (clashB (xs ++ ys) ks ds es)))))) (some (.val (.tup es))) v13) h := asg_ok (repr_ok (eCallK_ok (aCons_ok (eVar_ok rfl) (aCons_ok (eVar_ok rfl) (aCons_ok (eVar_ok rfl) aNil_ok))) aNil_ok ⟨rfl, rfl⟩ rfl c1) b (by decide) (by decide)) rfl
  refine (seq_nx st).trans ?_
  exact if_nil (tOr_f (tst_ok (e2_ok (repr_ok (eMeth_ok (eVar_ok rfl) rfl rfl (aCons_ok (eVar_ok rfl) (aCons_ok (eVar_ok rfl) aNil_ok)) aNil_ok ⟨rfl, rfl⟩ rfl c2) b (by decide) (by decide)) (eVar_ok rfl) ne_same)) (tst_ok (e2_ok (repr_ok (eMeth_ok (eVar_ok rfl) rfl rfl aNil_ok (aCons_ok (eVar_ok rfl) (aCons_ok (eVar_ok rfl) aNil_ok)) ⟨rfl, rfl⟩ rfl c3) b (by decide) (by decide)) (eVar_ok rfl) ne_same)))
abbrev rowBody : MS := sSeq (sAsg (eCallK 2 0 (bdId) d_l_draw (aCons (eVar 0) (aCons (e2 addP (eN lenP (aCons (eVar 5) (aNil))) (eCst (.int 1))) (aNil))) aNil) (tgN 6)) (sSeq (sAsg (e2 addP (e2 addP (eSl slP (eVar 5) none (some (eVar 6))) (eTup (aCons (eCallK 1 0 (bdId) d_l_other (aCons (eVar 0) (aNil)) aNil) (aNil)))) (eSl slP (eVar 5) (some (e2 addP (eVar 6) (eCst (.int 1)))) none)) (tgN 7)) (sSeq (sAsg (eFz (sizM (aCons (eVar 5) (aCons (eVar 7) (aCons (eFz (mList (aCons (eVar 5) (aNil)))) (aCons (eSl slP (eVar 5) (some (eCst (.int 1))) none) (aCons (e2 addP (eVar 5) (eSl slP (eVar 5) none (some (eCst (.int 1))))) (aCons (eRevT (eVar 5)) (aCons (e2 addP (e2 addP (eSl slP (eVar 5) none (some (eVar 6))) (eTup (aCons (eCst (.bl true)) (aNil)))) (eSl slP (eVar 5) (some (e2 addP (eVar 6) (eCst (.int 1)))) none)) (aCons (eTup (aCons (eVar 5) (aNil))) (aNil))))))))))) (tgN 8)) (sSeq (sFor (iSeq (e2 addP (eVar 8) (eFz (sizM (aCons (eCallK 1 0 (bdId) d_l_other (aCons (eVar 0) (aNil)) aNil) (aCons (eVar 4) (aNil))))))) (tgN 9) itBody) (sFor (iSeq (eVar 3)) (tgN 12) mateBody))))
theorem av_cat {ds es fs : List D} (h1 : ds.length + es.length + fs.length ≤ 20) (i1 : ∀ x ∈ ds, Iv x) (i2 : ∀ x ∈ es, Iv x) (i3 : ∀ x ∈ fs, Iv x) : Av 20 (.tup (ds ++ es ++ fs)) := av_tup (by simp only [List.length_append]; exact h1) (by decide) fun x hx => by
  rcases List.mem_append.mp hx with hx | hx
  · rcases List.mem_append.mp hx with hx | hx
    · exact i1 x hx
    · exact i2 x hx
  · exact i3 x hx
theorem rowB_ok {n : Nat} (s : Sr n h) (hn : n < 10000000) (r : Rt a xs ys ks) {ds : List D} (ld : ds.length = (xs ++ ys).length) (wd : ∀ d ∈ ds, Wi d) {rs : List D} (hr : ∀ d ∈ rs, Rw (xs ++ ys).length d) (hw : Rw (xs ++ ys).length wide) : ∃ w6 w7 w8 w9 w10 w11 w12 h', rowBody (E14 a xs ys ks (.lst rs) wide (some (.val (.tup ds))) v6 v7 v8 v9 v10 v11 v12 v13) h = .nx (E14 a xs ys ks (.lst rs) wide (some (.val (.tup ds))) w6 w7 w8 w9 w10 w11 w12 v13) h' ∧ Sr (n + 5) h' := by
  have l4 : ds.length ≤ 4 := by
    rw [ld, List.length_append]
    have := r.lx
    have := r.ly
    omega
  have iv : ∀ x ∈ ds, Iv x := fun x hx => (wd x hx).iv
  obtain ⟨at_, h1, e1, s1, at0, at1⟩ := call_draw (ρ := E14 a xs ys ks (.lst rs) wide (some (.val (.tup ds))) v6 v7 v8 v9 v10 v11 v12 v13) (i := 0) (fm := e2 addP (eN lenP (aCons (eVar 5) aNil)) (eCst (.int 1))) (m := (ds.length : Nat) + 1) rfl (e2_ok (len_tup rfl) eCst_ok rfl) s (by omega) (by omega) (by omega)
  have st1 : sAsg (eCallK 2 0 (bdId) d_l_draw (aCons (eVar 0) (aCons (e2 addP (eN lenP (aCons (eVar 5) (aNil))) (eCst (.int 1))) (aNil))) aNil) (tgN 6) (E14 a xs ys ks (.lst rs) wide (some (.val (.tup ds))) v6 v7 v8 v9 v10 v11 v12 v13) h = .nx (E14 a xs ys ks (.lst rs) wide (some (.val (.tup ds))) (some (.val (.int at_))) v7 v8 v9 v10 v11 v12 v13) h1 := asg_ok e1 rfl
  obtain ⟨o, h2, e2', s2, ho⟩ := call_other (ρ := E14 a xs ys ks (.lst rs) wide (some (.val (.tup ds))) (some (.val (.int at_))) v7 v8 v9 v10 v11 v12 v13) (i := 0) rfl s1 (by omega)
  have c1 := cut_sub (xs := ds) (a := none) (b := some at_)
  have c2 := cut_sub (xs := ds) (a := some (at_ + 1)) (b := none)
  have c3 := cut_sub (xs := ds) (a := none) (b := some 1)
  have c4 := cut_sub (xs := ds) (a := some 1) (b := none)
  generalize hc1 : cutL ds none (some at_) = f1 at c1
  generalize hc2 : cutL ds (some (at_ + 1)) none = f2 at c2
  generalize hc3 : cutL ds none (some 1) = f3 at c3
  generalize hc4 : cutL ds (some 1) none = f4 at c4
  have sl1 : ∀ {w7 w8 w9 w10 w11 w12 w13} {hh : IH}, eSl slP (eVar 5) none (some (eVar 6)) (E14 a xs ys ks (.lst rs) wide (some (.val (.tup ds))) (some (.val (.int at_))) w7 w8 w9 w10 w11 w12 w13) hh = .ok (.tup f1) hh := fun {w7 w8 w9 w10 w11 w12 w13 hh} => eSl_ok (eVar_ok rfl) opt_n (opt_s (eVar_ok rfl)) (by show some (D.tup (cutL ds none (some at_))) = _; rw [hc1])
  have sl2 : ∀ {w7 w8 w9 w10 w11 w12 w13} {hh : IH}, eSl slP (eVar 5) (some (e2 addP (eVar 6) (eCst (.int 1)))) none (E14 a xs ys ks (.lst rs) wide (some (.val (.tup ds))) (some (.val (.int at_))) w7 w8 w9 w10 w11 w12 w13) hh = .ok (.tup f2) hh := fun {w7 w8 w9 w10 w11 w12 w13 hh} => eSl_ok (eVar_ok rfl) (opt_s (e2_ok (eVar_ok rfl) eCst_ok rfl)) opt_n (by show some (D.tup (cutL ds (some (at_ + 1)) none)) = _; rw [hc2])
  have sl3 : ∀ {w7 w8 w9 w10 w11 w12 w13} {hh : IH}, eSl slP (eVar 5) none (some (eCst (.int 1))) (E14 a xs ys ks (.lst rs) wide (some (.val (.tup ds))) (some (.val (.int at_))) w7 w8 w9 w10 w11 w12 w13) hh = .ok (.tup f3) hh := fun {w7 w8 w9 w10 w11 w12 w13 hh} => eSl_ok (eVar_ok rfl) opt_n (opt_s eCst_ok) (by show some (D.tup (cutL ds none (some 1))) = _; rw [hc3])
  have sl4 : ∀ {w7 w8 w9 w10 w11 w12 w13} {hh : IH}, eSl slP (eVar 5) (some (eCst (.int 1))) none (E14 a xs ys ks (.lst rs) wide (some (.val (.tup ds))) (some (.val (.int at_))) w7 w8 w9 w10 w11 w12 w13) hh = .ok (.tup f4) hh := fun {w7 w8 w9 w10 w11 w12 w13 hh} => eSl_ok (eVar_ok rfl) (opt_s eCst_ok) opt_n (by show some (D.tup (cutL ds (some 1) none)) = _; rw [hc4])
  have st2 : sAsg (e2 addP (e2 addP (eSl slP (eVar 5) none (some (eVar 6))) (eTup (aCons (eCallK 1 0 (bdId) d_l_other (aCons (eVar 0) (aNil)) aNil) (aNil)))) (eSl slP (eVar 5) (some (e2 addP (eVar 6) (eCst (.int 1)))) none)) (tgN 7) (E14 a xs ys ks (.lst rs) wide (some (.val (.tup ds))) (some (.val (.int at_))) v7 v8 v9 v10 v11 v12 v13) h1 = .nx (E14 a xs ys ks (.lst rs) wide (some (.val (.tup ds))) (some (.val (.int at_))) (some (.val (.tup (f1 ++ [o] ++ f2)))) v8 v9 v10 v11 v12 v13) h2 :=
    asg_ok (e2_ok (e2_ok sl1 (eTup_ok (aCons_ok e2' aNil_ok) (by show 1 ≤ 100000; decide)) (add_tup (by show _ + 1 ≤ 1000; omega))) sl2 (add_tup (by rw [List.length_append]; show _ + 1 + _ ≤ 1000; omega))) rfl
  have st3 : sAsg (eFz (sizM (aCons (eVar 5) (aCons (eVar 7) (aCons (eFz (mList (aCons (eVar 5) (aNil)))) (aCons (eSl slP (eVar 5) (some (eCst (.int 1))) none) (aCons (e2 addP (eVar 5) (eSl slP (eVar 5) none (some (eCst (.int 1))))) (aCons (eRevT (eVar 5)) (aCons (e2 addP (e2 addP (eSl slP (eVar 5) none (some (eVar 6))) (eTup (aCons (eCst (.bl true)) (aNil)))) (eSl slP (eVar 5) (some (e2 addP (eVar 6) (eCst (.int 1)))) none)) (aCons (eTup (aCons (eVar 5) (aNil))) (aNil))))))))))) (tgN 8) (E14 a xs ys ks (.lst rs) wide (some (.val (.tup ds))) (some (.val (.int at_))) (some (.val (.tup (f1 ++ [o] ++ f2)))) v8 v9 v10 v11 v12 v13) h2 = .nx (E14 a xs ys ks (.lst rs) wide (some (.val (.tup ds))) (some (.val (.int at_))) (some (.val (.tup (f1 ++ [o] ++ f2)))) (some (.val (.lst [.tup ds, .tup (f1 ++ [o] ++ f2), .lst ds, .tup f4, .tup (ds ++ f3), .tup ds.reverse, .tup (f1 ++ [.bl true] ++ f2), .tup [.tup ds]]))) v9 v10 v11 v12 v13) h2 :=
    asg_ok (fz_ok (siz_ok (aCons_ok (eVar_ok rfl) (aCons_ok (eVar_ok rfl) (aCons_ok (fz_ok (list_ok (aCons_ok (eVar_ok rfl) aNil_ok) rfl)) (aCons_ok sl4 (aCons_ok (e2_ok (eVar_ok rfl) sl3 (add_tup (by omega))) (aCons_ok (e1_ok (eVar_ok rfl) rfl) (aCons_ok (e2_ok (e2_ok sl1 (eTup_ok (aCons_ok eCst_ok aNil_ok) (by show 1 ≤ 100000; decide)) (add_tup (by show _ + 1 ≤ 1000; omega))) sl2 (add_tup (by rw [List.length_append]; show _ + 1 + _ ≤ 1000; omega))) (aCons_ok (eTup_ok (aCons_ok (eVar_ok rfl) aNil_ok) (by show 1 ≤ 100000; decide)) aNil_ok)))))))) (by show 8 ≤ 100000; decide))) rfl
  have things : ∀ d ∈ ([.tup ds, .tup (f1 ++ [o] ++ f2), .lst ds, .tup f4, .tup (ds ++ f3), .tup ds.reverse, .tup (f1 ++ [.bl true] ++ f2), .tup [.tup ds]] : List D), Rv d := by
    intro d hd
    simp only [List.mem_cons, List.not_mem_nil, or_false] at hd
    have avd : Av 20 (.tup ds) := av_tup (by omega) (by decide) iv
    rcases hd with rfl | rfl | rfl | rfl | rfl | rfl | rfl | rfl
    · exact avd.rv (by decide)
    · exact (av_cat (by show _ + 1 + _ ≤ 20; omega) (fun x hx => iv x (c1.1 x hx)) (fun x hx => by rw [List.mem_singleton.mp hx]; exact ho.1) fun x hx => iv x (c2.1 x hx)).rv (by decide)
    · exact (av_lst (n := 20) (by omega) iv).rv (by decide)
    · exact (av_tup (n := 20) (by omega) (by decide) fun x hx => iv x (c4.1 x hx)).rv (by decide)
    · exact (av_tup (n := 20) (by rw [List.length_append]; omega) (by decide) fun x hx => (List.mem_append.mp hx).elim (iv x) fun q => iv x (c3.1 x q)).rv (by decide)
    · exact (av_tup (n := 20) (by rw [List.length_reverse]; omega) (by decide) fun x hx => iv x (List.mem_reverse.mp hx)).rv (by decide)
    · exact (av_cat (by show _ + 1 + _ ≤ 20; omega) (fun x hx => iv x (c1.1 x hx)) (fun x hx => by rw [List.mem_singleton.mp hx]; exact iv_bl true) fun x hx => iv x (c2.1 x hx)).rv (by decide)
    · refine ⟨⟨⟨trivial, fun x e => by cases e⟩, fun es e => ?_⟩, (shows_tup (L := 100000) (n := 4) (k := 1) (fun x hx => ?_) (by show 1 ≤ 1; decide)).mono (by decide) (by decide)⟩
      · cases e
        refine ⟨by show 1 ≤ 1000; decide, fun x hx => ?_⟩
        rw [List.mem_singleton.mp hx]
        exact ⟨trivial, fun x e => by cases e⟩
      · rw [List.mem_singleton.mp hx]
        exact avd.sh
  obtain ⟨o', h3, e3, s3, ho'⟩ := call_other (ρ := E14 a xs ys ks (.lst rs) wide (some (.val (.tup ds))) (some (.val (.int at_))) (some (.val (.tup (f1 ++ [o] ++ f2)))) (some (.val (.lst [.tup ds, .tup (f1 ++ [o] ++ f2), .lst ds, .tup f4, .tup (ds ++ f3), .tup ds.reverse, .tup (f1 ++ [.bl true] ++ f2), .tup [.tup ds]]))) v9 v10 v11 v12 v13) (i := 0) rfl s2 (by omega)
  generalize hth : ([.tup ds, .tup (f1 ++ [o] ++ f2), .lst ds, .tup f4, .tup (ds ++ f3), .tup ds.reverse, .tup (f1 ++ [.bl true] ++ f2), .tup [.tup ds]] : List D) = th at st3 things e3
  have lth : th.length = 8 := by rw [← hth]; rfl
  generalize hw7 : some (Sl.val (.tup (f1 ++ [o] ++ f2))) = w7 at st2 st3 e3
  have g1 : iSeq (e2 addP (eVar 8) (eFz (sizM (aCons (eCallK 1 0 (bdId) d_l_other (aCons (eVar 0) (aNil)) aNil) (aCons (eVar 4) (aNil)))))) (E14 a xs ys ks (.lst rs) wide (some (.val (.tup ds))) (some (.val (.int at_))) w7 (some (.val (.lst th))) v9 v10 v11 v12 v13) h2 = .ok (th ++ [o', wide]) h3 := by
    refine iSeq_ok (d := .lst (th ++ [o', wide])) (e2_ok (eVar_ok rfl) (fz_ok (siz_ok (aCons_ok e3 (aCons_ok (eVar_ok rfl) aNil_ok)) (by show 2 ≤ 100000; decide))) ?_) rfl
    show (if th.length + 2 ≤ sizeLine then some (D.lst (th ++ [o', wide])) else none) = _
    rw [if_pos (by rw [lth]; decide)]
  have all1 : ∀ d ∈ th ++ [o', wide], Rv d := fun d hd => by
    rcases List.mem_append.mp hd with q | q
    · exact things d q
    · simp only [List.mem_cons, List.not_mem_nil, or_false] at q
      rcases q with rfl | rfl
      · exact ho'.av.rv (by decide)
      · obtain ⟨es, rfl, le, we⟩ := hw
        exact (av_tup (n := 20) (by rw [le, ← ld]; omega) (by decide) fun x hx => (we x hx).iv).rv (by decide)
  obtain ⟨ρ4, h4, e4, ⟨w9, w10, w11, rfl⟩, rfl⟩ := for_go (F := itBody) (tg := tgN 9) (fun k ρ h => (∃ w9 w10 w11, ρ = E14 a xs ys ks (.lst rs) wide (some (.val (.tup ds))) (some (.val (.int at_))) w7 (some (.val (.lst th))) w9 w10 w11 v12 v13) ∧ h = h3) g1 ⟨⟨v9, v10, v11, rfl⟩, rfl⟩ (fun k d ρ h hd ⟨⟨w9, w10, w11, e⟩, eh⟩ => by
    subst e eh
    obtain ⟨x, y, e⟩ := it_ok (a := a) (xs := xs) (ys := ys) (ks := ks) (h := h) (rows := .lst rs) (wide := wide) (v5 := some (.val (.tup ds))) (v6 := some (.val (.int at_))) (v7 := w7) (v8 := some (.val (.lst th))) (v10 := w10) (v11 := w11) (v12 := v12) (v13 := v13) (all1 d (List.mem_of_getElem? hd))
    exact ⟨_, rfl, _, _, e, ⟨_, _, _, rfl⟩, rfl⟩)
  obtain ⟨ρ5, h5, e5, ⟨w11', w12, rfl⟩, rfl⟩ := for_go (ρ := E14 a xs ys ks (.lst rs) wide (some (.val (.tup ds))) (some (.val (.int at_))) w7 (some (.val (.lst th))) w9 w10 w11 v12 v13) (h := h4) (g := iSeq (eVar 3)) (ds := rs) (F := mateBody) (tg := tgN 12) (fun k ρ h => (∃ w11 w12, ρ = E14 a xs ys ks (.lst rs) wide (some (.val (.tup ds))) (some (.val (.int at_))) w7 (some (.val (.lst th))) w9 w10 w11 w12 v13) ∧ h = h4) (iSeq_ok (eVar_ok rfl) rfl) ⟨⟨w11, v12, rfl⟩, rfl⟩ (fun k d ρ h hd ⟨⟨w11, w12, e⟩, eh⟩ => by
    subst e eh
    obtain ⟨es, rfl, le, we⟩ := hr d (List.mem_of_getElem? hd)
    obtain ⟨y, e⟩ := mate_ok (h := h) (rows := .lst rs) (wide := wide) (v6 := some (.val (.int at_))) (v7 := w7) (v8 := some (.val (.lst th))) (v9 := w9) (v10 := w10) (v11 := w11) (v13 := v13) r ld le wd we
    exact ⟨_, rfl, _, _, e, ⟨_, _, rfl⟩, rfl⟩)
  exact ⟨_, _, _, _, _, _, _, _, (seq_nx st1).trans ((seq_nx st2).trans ((seq_nx st3).trans ((seq_nx e4).trans e5))), s3.mono (by omega)⟩
theorem rows_ok {n : Nat} (s : Sr n h) (hn : n < 1000000) (r : Rt a xs ys ks) : ∃ h', d_l_rows_right [.loc 1, Tb a xs ys ks, someL a xs ys ks] h = .ok (.bl true) h' ∧ Sr (n + 100) h' := by
  suffices g : ∃ (h' : IH), F_l_rows_right [some (.val (.loc 1)), some (.val (Tb a xs ys ks)), some (.val (someL a xs ys ks)), none, none, none, none, none, none, none, none, none, none, none] h = .rt (.bl true) h' ∧ Sr (n + 100) h' by
    obtain ⟨h', e, q⟩ := g
    exact ⟨h', runB_rt rfl e, q⟩
  unfold F_l_rows_right
  have lx : (xs.map D.str).length ≤ 2 := by rw [List.length_map]; exact r.lx
  have ly : (ys.map D.str).length ≤ 2 := by rw [List.length_map]; exact r.ly
  have lxy : (xs.map D.str).length + (ys.map D.str).length = (xs ++ ys).length := by rw [List.length_map, List.length_map, List.length_append]
  obtain ⟨rs, h1, e1, s1, l1, p1⟩ := mLc_all (ρ := [some (.val (.loc 1)), some (.val (Tb a xs ys ks)), some (.val (someL a xs ys ks)), none, none, none, none, none, none, none, none, none, none, none]) (h := h) (vs := [13]) (tg := tgN 13) (g := iOf rng1 (aCons (eCst (.int 5)) aNil)) (ds := rngD 0 5) (f := eCallK 3 0 (bdId) d_l_row (aCons (eVar 0) (aCons (eVar 2) (aCons (e2 subP (e2 powP (eCst (.int 10)) (eCst (.int 12))) (eCst (.int 1))) (aNil)))) aNil) (fun k h => Sr (n + 4 * k) h) (Rw (xs ++ ys).length) (iOf_ok (aCons_ok eCst_ok aNil_ok) rfl) s (fun k d h hd hk sk => by
    have hk5 : k < 5 := hk
    obtain ⟨es, h', e, s', le, we⟩ := row_ok (t := .str a) (p := sT ks) (far := (10 : Int) ^ (12 : Int).toNat - 1) sk (by omega) lx ly (by decide) (by decide)
    exact ⟨_, rfl, _, h', eCallK_ok (aCons_ok (eVar_ok rfl) (aCons_ok (eVar_ok rfl) (aCons_ok (e2_ok (e2_ok eCst_ok eCst_ok (pow_ok ⟨by decide, by decide, by decide⟩)) eCst_ok rfl) aNil_ok))) aNil_ok ⟨rfl, rfl⟩ rfl e, ⟨es, rfl, by rw [le, lxy], we⟩, s'⟩)
  have l5 : rs.length = 5 := l1
  have s1' : Sr (n + 20) h1 := s1
  have st1 : sAsg (eFz (sizM (mLc (iOf rng1 (aCons (eCst (.int 5)) (aNil))) [13] (tgN 13) (tYs) (eCallK 3 0 (bdId) d_l_row (aCons (eVar 0) (aCons (eVar 2) (aCons (e2 subP (e2 powP (eCst (.int 10)) (eCst (.int 12))) (eCst (.int 1))) (aNil)))) aNil)))) (tgN 3) [some (.val (.loc 1)), some (.val (Tb a xs ys ks)), some (.val (someL a xs ys ks)), none, none, none, none, none, none, none, none, none, none, none] h = .nx [some (.val (.loc 1)), some (.val (Tb a xs ys ks)), some (.val (someL a xs ys ks)), some (.val (.lst rs)), none, none, none, none, none, none, none, none, none, none] h1 := asg_ok (fz_ok (siz_ok e1 (by omega))) rfl
  rw [seq_nx st1]
  obtain ⟨i, h2, e2', s2, i0, i1⟩ := call_draw (ρ := [some (.val (.loc 1)), some (.val (Tb a xs ys ks)), some (.val (someL a xs ys ks)), some (.val (.lst rs)), none, none, none, none, none, none, none, none, none, none]) (i := 0) (fm := e2 powP (eCst (.int 10)) (eCst (.int 6))) (m := (10 : Int) ^ (6 : Int).toNat) rfl (e2_ok eCst_ok eCst_ok (pow_ok ⟨by decide, by decide, by decide⟩)) s1' (by omega) (by decide) (by decide)
  have p38 : (10 : Int) ^ (38 : Int).toNat = 10 ^ 38 := rfl
  have p6 : (10 : Int) ^ (6 : Int).toNat = 10 ^ 6 := rfl
  rw [p6] at i1
  obtain ⟨es, h3, e3, s3, le, we⟩ := row_ok (t := .str a) (p := sT ks) (far := (10 : Int) ^ (38 : Int).toNat + i) s2 (by omega) lx ly (by rw [p38]; omega) (by rw [p38]; omega)
  have st2 : sAsg (eCallK 3 0 (bdId) d_l_row (aCons (eVar 0) (aCons (eVar 2) (aCons (e2 addP (e2 powP (eCst (.int 10)) (eCst (.int 38))) (eCallK 2 0 (bdId) d_l_draw (aCons (eVar 0) (aCons (e2 powP (eCst (.int 10)) (eCst (.int 6))) (aNil))) aNil)) (aNil)))) aNil) (tgN 4) [some (.val (.loc 1)), some (.val (Tb a xs ys ks)), some (.val (someL a xs ys ks)), some (.val (.lst rs)), none, none, none, none, none, none, none, none, none, none] h1 = .nx (E14 a xs ys ks (.lst rs) (.tup es) none none none none none none none none none) h3 := asg_ok (eCallK_ok (aCons_ok (eVar_ok rfl) (aCons_ok (eVar_ok rfl) (aCons_ok (e2_ok (e2_ok eCst_ok eCst_ok (pow_ok ⟨by decide, by decide, by decide⟩)) e2' rfl) aNil_ok))) aNil_ok ⟨rfl, rfl⟩ rfl e3) rfl
  rw [seq_nx st2]
  obtain ⟨ρ4, h4, e4, ⟨w5, w6, w7, w8, w9, w10, w11, w12, rfl⟩, s4⟩ := for_go (ρ := E14 a xs ys ks (.lst rs) (.tup es) none none none none none none none none none) (h := h3) (g := iSeq (eVar 3)) (ds := rs) (F := rowBody) (tg := tgN 5) (fun k ρ h => (∃ w5 w6 w7 w8 w9 w10 w11 w12, ρ = E14 a xs ys ks (.lst rs) (.tup es) w5 w6 w7 w8 w9 w10 w11 w12 none) ∧ Sr (n + 25 + 5 * k) h) (iSeq_ok (eVar_ok rfl) rfl) ⟨⟨_, _, _, _, _, _, _, _, rfl⟩, s3⟩ (fun k d ρ h hd ⟨⟨w5, w6, w7, w8, w9, w10, w11, w12, e⟩, sk⟩ => by
    subst e
    have hk := (List.getElem?_eq_some_iff.mp hd).1
    obtain ⟨ds, rfl, ld, wd⟩ := p1 d (List.mem_of_getElem? hd)
    obtain ⟨u6, u7, u8, u9, u10, u11, u12, h', e, s'⟩ := rowB_ok (v6 := w6) (v7 := w7) (v8 := w8) (v9 := w9) (v10 := w10) (v11 := w11) (v12 := w12) (v13 := none) (wide := .tup es) sk (by omega) r ld wd p1 ⟨es, rfl, by rw [le, lxy], we⟩
    exact ⟨_, rfl, _, h', e, ⟨_, _, _, _, _, _, _, _, rfl⟩, s'⟩)
  rw [seq_nx e4]
  exact ⟨h4, ret_ok eCst_ok, s4.mono (by omega)⟩
end
end WR.K02
set_option Elab.async false
set_option linter.all false
set_option autoImplicit false
set_option maxRecDepth 100000
set_option maxHeartbeats 4000000
namespace WR.K02
open PySem PySem.Spec PyProof.Rows L2
/-! ### _law_equal_right -/
theorem av_name {n : Nat} {x : Str} (h : nameS x = true) : Av n (.str x) := ⟨trivial, (iv_name h).st, (iv_name h).sh.mono (by decide) (by decide), fun ds e => by cases e⟩
theorem nm_strs {k : Nat} {xs : List Str} (h : ∀ x ∈ xs, nameS x = true) (hl : xs.length ≤ k) : Nm k (xs.map D.str) := ⟨by rw [List.length_map]; exact hl, fun d hd => by
  obtain ⟨x, hx, rfl⟩ := List.mem_map.mp hd
  exact ⟨x, rfl, h x hx⟩⟩
theorem Rt.args {a : Str} {xs ys ks : List Str} (r : Rt a xs ys ks) : Args 4 (.str a) (sT xs) (sT ys) (sT ks) :=
  ⟨av_name r.na, (nm_strs r.nx (Nat.le_trans r.lx (by decide))).av (by decide), (nm_strs r.ny (Nat.le_trans r.ly (by decide))).av (by decide), (nm_strs r.nk r.lk).av (by decide)⟩
theorem sameB_comm {a b : Str} {xs ys ks xs' ys' ks' : List Str} : sameB a xs ys ks b xs' ys' ks' = sameB b xs' ys' ks' a xs ys ks := by
  unfold sameB
  rw [decide_eq_decide.mpr (eq_comm (a := a) (b := b)), decide_eq_decide.mpr (eq_comm (a := xs) (b := xs')), decide_eq_decide.mpr (eq_comm (a := ys) (b := ys')), decide_eq_decide.mpr (eq_comm (a := ks) (b := ks'))]
theorem sameB_self {a : Str} {xs ys ks : List Str} : sameB a xs ys ks a xs ys ks = true := by simp [sameB]
theorem ixN_at {n j : Nat} (hj : j < n) : ixN n (j : Int) = some j := by
  unfold ixN
  rw [if_pos (by omega), if_pos (by omega)]
  simp
theorem setO_ok {i j : Nat} {fi fv : En → M D} {ρ : En} {h h1 h2 : IH} {d : D} {ds : List D} {k : Int} (e : fv ρ h = .ok d h1) (eo : ownS ρ i = some ds) (ei : fi ρ h1 = .ok (.int k) h2) (hx : ixN ds.length k = some j) : sSetO i fi fv ρ h = .nx (ρ.set i (some (.own (ds.set j d)))) h2 := by
  unfold sSetO
  rw [on_ok e, eo]
  dsimp only
  rw [on_ok ei]
  show (match ixN ds.length k with
    | some j => SR.nx (ρ.set i (some (.own (ds.set j d)))) h2
    | none => .no) = _
  rw [hx]
theorem ixO_ok {i : Nat} {fb : En → M D} {ρ : En} {h h1 : IH} {ds : List D} {k : Nat} {d : D} (eo : ownS ρ i = some ds) (e : fb ρ h = .ok (.int (k : Nat)) h1) (hd : ds[k]? = some d) : eIxO i fb ρ h = .ok d h1 := by
  unfold eIxO
  rw [bind_ok (of_ok eo), bind_ok e]
  refine of_ok ?_
  show atI ds (k : Int) = _
  exact atI_nat hd
/-- one of four arguments replaced -/
theorem args_set {n m : Nat} {t l f p d : D} (A : Args n t l f p) (hd : Av m d) (hm : n ≤ m) {j : Nat} (hj : j < 4) : ∃ t' l' f' p', [t, l, f, p].set j d = [t', l', f', p'] ∧ Args m t' l' f' p' := by
  obtain ⟨a1, a2, a3, a4⟩ := A
  match j, hj with
  | 0, _ => exact ⟨_, _, _, _, rfl, hd, a2.mono hm, a3.mono hm, a4.mono hm⟩
  | 1, _ => exact ⟨_, _, _, _, rfl, a1.mono hm, hd, a3.mono hm, a4.mono hm⟩
  | 2, _ => exact ⟨_, _, _, _, rfl, a1.mono hm, a2.mono hm, hd, a4.mono hm⟩
  | 3, _ => exact ⟨_, _, _, _, rfl, a1.mono hm, a2.mono hm, a3.mono hm, hd⟩
theorem Va.args {ds : List D} (h : Va ds) : ∃ t l f p, ds = [t, l, f, p] ∧ Args 4 t l f p := by
  obtain ⟨t, l, f, p, rfl, ht, hl, hf, hp⟩ := h.ex
  exact ⟨_, _, _, _, rfl, av_name ht, hl.av (by decide), hf.av (by decide), hp.av (by decide)⟩
theorem Args.at {n : Nat} {t l f p : D} (A : Args n t l f p) {k : Int} (h0 : 0 ≤ k) (h1 : k < 4) : ∃ (j : Nat) (d : D), k = (j : Int) ∧ j < 4 ∧ [t, l, f, p][j]? = some d ∧ Av n d := by
  obtain ⟨j, rfl⟩ : ∃ j : Nat, k = (j : Int) := ⟨k.toNat, by omega⟩
  have hj : j < 4 := by omega
  match j, hj with
  | 0, _ => exact ⟨0, t, rfl, by decide, rfl, A.t⟩
  | 1, _ => exact ⟨1, l, rfl, by decide, rfl, A.l⟩
  | 2, _ => exact ⟨2, f, rfl, by decide, rfl, A.f⟩
  | 3, _ => exact ⟨3, p, rfl, by decide, rfl, A.p⟩
theorem shows_bls {bs : List Bool} (hl : bs.length ≤ 3) : Shows 20000 3 (.lst (bs.map D.bl)) := (shows_lst (L := 4000) (n := 2) (k := 3) (fun d hd => by
  obtain ⟨b, _, rfl⟩ := List.mem_map.mp hd
  exact shows_bl b) (by rw [List.length_map]; exact hl)).mono (by decide) (by decide)
section
variable {a : Str} {xs ys ks : List Str} {h : IH}
abbrev E10 (a : Str) (xs ys ks : List Str) (v3 v4 v5 v6 v7 v8 v9 : Option Sl) : En := [some (.val (.loc 1)), some (.val (Tb a xs ys ks)), some (.val (someL a xs ys ks)), v3, v4, v5, v6, v7, v8, v9]
abbrev eqTail : MS := sSeq (sAsg (eFz (sizM (aCons (eCst .non) (aCons (e2 ixP (eVar 2) (eCst (.int 0))) (aCons (eN tupP1 (aCons (eVar 2) (aNil))) (aCons (eVar 2) (aCons (eCst (.int 0)) (aCons (eCst (.str "table")) (aCons (eTup (aNil)) (aNil)))))))))) (tgN 8)) (sRet (e2 eqP (eFz (sizM (mLc (iSeq (eVar 8)) [9] (tgN 9) (tOr (tst (eeqO "Table" d_Table_eq (eVar 1) (eVar 9))) (tst (eeqO "Table" d_Table_eq (eVar 9) (eVar 1)))) (eVar 9)))) (eFz (sizM (aNil)))))
theorem eq_tail {v3 v4 v5 v6 v7 v8 v9 : Option Sl} : eqTail (E10 a xs ys ks v3 v4 v5 v6 v7 v8 v9) h = .rt (.bl true) h := by
  have st : sAsg (eFz (sizM (aCons (eCst .non) (aCons (e2 ixP (eVar 2) (eCst (.int 0))) (aCons (eN tupP1 (aCons (eVar 2) (aNil))) (aCons (eVar 2) (aCons (eCst (.int 0)) (aCons (eCst (.str "table")) (aCons (eTup (aNil)) (aNil)))))))))) (tgN 8) (E10 a xs ys ks v3 v4 v5 v6 v7 v8 v9) h = .nx (E10 a xs ys ks v3 v4 v5 v6 v7 (some (.val (.lst [.non, .str a, .tup [.str a, sT xs, sT ys, sT ks], someL a xs ys ks, .int 0, .str "table", .tup []]))) v9) h := asg_ok (fz_ok (siz_ok (aCons_ok eCst_ok (aCons_ok (e2_ok (eVar_ok rfl) eCst_ok rfl) (aCons_ok (eN_ok (aCons_ok (eVar_ok rfl) aNil_ok) rfl) (aCons_ok (eVar_ok rfl) (aCons_ok eCst_ok (aCons_ok eCst_ok (aCons_ok (eTup_ok aNil_ok) aNil_ok))))))) (by show 7 ≤ 100000; decide))) rfl
  refine (seq_nx st).trans ?_
  have lc : mLc (iSeq (eVar 8)) [9] (tgN 9) (tOr (tst (eeqO "Table" d_Table_eq (eVar 1) (eVar 9))) (tst (eeqO "Table" d_Table_eq (eVar 9) (eVar 1)))) (eVar 9) (E10 a xs ys ks v3 v4 v5 v6 v7 (some (.val (.lst [.non, .str a, .tup [.str a, sT xs, sT ys, sT ks], someL a xs ys ks, .int 0, .str "table", .tup []]))) v9) h = .ok ((([.non, .str a, .tup [.str a, sT xs, sT ys, sT ks], someL a xs ys ks, .int 0, .str "table", .tup []] : List D).filter fun _ => false).map id) h := by
    refine mLc_filter _ _ (fun d => E10 a xs ys ks v3 v4 v5 v6 v7 (some (.val (.lst [.non, .str a, .tup [.str a, sT xs, sT ys, sT ks], someL a xs ys ks, .int 0, .str "table", .tup []]))) (some (.val d))) (iSeq_ok (eVar_ok rfl) rfl) (fun _ _ => rfl) (fun d hd => ?_) fun _ _ z => nomatch z
    have q : Tyd d ∧ eqArg "Table" (Tb a xs ys ks) d = some (Tb a xs ys ks, d) ∧ eqArg "Table" d (Tb a xs ys ks) = some (Tb a xs ys ks, d) := by
      simp only [List.mem_cons, List.not_mem_nil, or_false] at hd
      rcases hd with rfl | rfl | rfl | rfl | rfl | rfl | rfl <;> exact ⟨trivial, rfl, rfl⟩
    exact tOr_f (tst_ok (eeqO_ok (eVar_ok rfl) (eVar_ok rfl) q.2.1 (tab_other q.1))) (tst_ok (eeqO_ok (eVar_ok rfl) (eVar_ok rfl) q.2.2 (tab_other q.1)))
  have e0 : ((([.non, .str a, .tup [.str a, sT xs, sT ys, sT ks], someL a xs ys ks, .int 0, .str "table", .tup []] : List D).filter fun _ => false).map id) = [] := by simp
  rw [e0] at lc
  refine ret_ok (e2_ok (fz_ok (siz_ok lc)) (fz_ok (siz_ok aNil_ok)) ?_)
  show (eqT (.lst []) (.lst [])).map D.bl = _
  rw [eq_nil]
  rfl
theorem equal_ok {n : Nat} (s : Sr n h) (hn : n < 1000000) (r : Rt a xs ys ks) (hr : rightB (.str a) (sT xs) (sT ys) (sT ks) = true) : ∃ h', d_l_equal_right [.loc 1, Tb a xs ys ks, someL a xs ys ks] h = .ok (.bl true) h' ∧ Sr (n + 70) h' := by
  suffices g : ∃ (h' : IH), F_l_equal_right (E10 a xs ys ks none none none none none none none) h = .rt (.bl true) h' ∧ Sr (n + 70) h' by
    obtain ⟨h', e, q⟩ := g
    exact ⟨h', runB_rt rfl e, q⟩
  unfold F_l_equal_right
  obtain ⟨k, h1, e1, s1, k0, k1⟩ := call_draw (ρ := E10 a xs ys ks none none none none none none none) (i := 0) (fm := eCst (.int 4)) (m := 4) rfl eCst_ok s (by omega) (by decide) (by decide)
  have in0 := init_av r.args (by decide) h
  rw [if_pos hr] at in0
  have st1 : sPar2 3 4 (aCons (eMk "Table" (mkM 4 0 (bdP [0, 1, 2, 3] [(.tup []), (.tup [])]) d_Table_init (aCons (e2 ixP (eVar 2) (eCst (.int 0))) (aCons (e2 ixP (eVar 2) (eCst (.int 1))) (aCons (e2 ixP (eVar 2) (eCst (.int 2))) (aCons (e2 ixP (eVar 2) (eCst (.int 3))) (aNil))))) aNil)) (aCons (eCallK 2 0 (bdId) d_l_draw (aCons (eVar 0) (aCons (eCst (.int 4)) (aNil))) aNil) (aNil))) (E10 a xs ys ks none none none none none none none) h = .nx (E10 a xs ys ks (some (.val (Tb a xs ys ks))) (some (.val (.int k))) none none none none none) h1 :=
    par2_ok (aCons_ok (eMk_ok ((mk_ok (aCons_ok (e2_ok (eVar_ok rfl) eCst_ok rfl) (aCons_ok (e2_ok (eVar_ok rfl) eCst_ok rfl) (aCons_ok (e2_ok (eVar_ok rfl) eCst_ok rfl) (aCons_ok (e2_ok (eVar_ok rfl) eCst_ok rfl) aNil_ok)))) aNil_ok ⟨rfl, rfl⟩ rfl).trans in0)) (aCons_ok e1 aNil_ok))
  refine Exists.imp (fun h' (z : _ ∧ _) => ⟨(seq_nx st1).trans z.1, z.2⟩) ?_
  have tt := tab_eq (h := h1) r r
  rw [sameB_self] at tt
  have c1 : tst (e2 neP (eN reprP (aCons (eFz (sizM (aCons (eeqO "Table" d_Table_eq (eVar 1) (eVar 3)) (aCons (eeqO "Table" d_Table_eq (eVar 3) (eVar 1)) (aCons (eneO "Table" d_Table_eq (eVar 1) (eVar 3)) (aNil)))))) (aNil))) (eN reprP (aCons (eFz (sizM (aCons (eCst (.bl true)) (aCons (eCst (.bl true)) (aCons (eCst (.bl false)) (aNil)))))) (aNil)))) (E10 a xs ys ks (some (.val (Tb a xs ys ks))) (some (.val (.int k))) none none none none none) h1 = .ok false h1 :=
    tst_ok (e2_ok (repr_ok (d := .lst ([true, true, false].map D.bl)) (fz_ok (siz_ok (aCons_ok (eeqO_ok (eVar_ok rfl) (eVar_ok rfl) rfl tt) (aCons_ok (eeqO_ok (eVar_ok rfl) (eVar_ok rfl) rfl tt) (aCons_ok (eneO_ok (eVar_ok rfl) (eVar_ok rfl) rfl tt) aNil_ok))) (by show 3 ≤ 100000; decide))) (shows_bls (by decide)) (by decide) (by decide)) (repr_ok (d := .lst ([true, true, false].map D.bl)) (fz_ok (siz_ok (aCons_ok eCst_ok (aCons_ok eCst_ok (aCons_ok eCst_ok aNil_ok))) (by show 3 ≤ 100000; decide))) (shows_bls (by decide)) (by decide) (by decide)) ne_same)
  refine Exists.imp (fun h' (z : _ ∧ _) => ⟨(seq_skip c1).trans z.1, z.2⟩) ?_
  have st2 : sOwn 5 (mList (aCons (eVar 2) aNil)) (E10 a xs ys ks (some (.val (Tb a xs ys ks))) (some (.val (.int k))) none none none none none) h1 = .nx (E10 a xs ys ks (some (.val (Tb a xs ys ks))) (some (.val (.int k))) (some (.own [.str a, sT xs, sT ys, sT ks])) none none none none) h1 := own_ok (list_ok (aCons_ok (eVar_ok rfl) aNil_ok) rfl)
  refine Exists.imp (fun h' (z : _ ∧ _) => ⟨(seq_nx st2).trans z.1, z.2⟩) ?_
  obtain ⟨vs, h2, e2', s2, hv⟩ := valid_ok s1 (by omega)
  obtain ⟨vt, vl, vf, vp, rfl, va⟩ := hv.args
  obtain ⟨j, d, rfl, hj, hd, ad⟩ := va.at k0 k1
  obtain ⟨t', l', f', p', es, A⟩ := args_set r.args ad (Nat.le_refl 4) hj
  have st3 : sSetO 5 (eVar 4) (e2 ixP (eFz (eCallO d_l_valid (aCons (eVar 0) (aNil)))) (eVar 4)) (E10 a xs ys ks (some (.val (Tb a xs ys ks))) (some (.val (.int (j : Nat)))) (some (.own [.str a, sT xs, sT ys, sT ks])) none none none none) h1 = .nx (E10 a xs ys ks (some (.val (Tb a xs ys ks))) (some (.val (.int (j : Nat)))) (some (.own [t', l', f', p'])) none none none none) h2 := by
    refine (setO_ok (j := j) (k := (j : Int)) (d := d) (ds := [.str a, sT xs, sT ys, sT ks]) (e2_ok (fz_ok (eCallO_ok (aCons_ok (eVar_ok rfl) aNil_ok) e2')) (eVar_ok rfl) (atI_nat hd)) rfl (eVar_ok rfl) (ixN_at hj)).trans ?_
    rw [es]
    rfl
  refine Exists.imp (fun h' (z : _ ∧ _) => ⟨(seq_nx st3).trans z.1, z.2⟩) ?_
  have ix : ∀ {w6 w7 w8 w9 : Option Sl} (i : Nat) (x : D), ([t', l', f', p'] : List D)[i]? = some x → eIxO 5 (eCst (.int (i : Nat))) (E10 a xs ys ks (some (.val (Tb a xs ys ks))) (some (.val (.int (j : Nat)))) (some (.own [t', l', f', p'])) w6 w7 w8 w9) h2 = .ok x h2 := fun {w6 w7 w8 w9} i x hx => ixO_ok rfl eCst_ok hx
  have ar : ∀ {w6 w7 w8 w9 : Option Sl}, aCons (eIxO 5 (eCst (.int 0))) (aCons (eIxO 5 (eCst (.int 1))) (aCons (eIxO 5 (eCst (.int 2))) (aCons (eIxO 5 (eCst (.int 3))) aNil))) (E10 a xs ys ks (some (.val (Tb a xs ys ks))) (some (.val (.int (j : Nat)))) (some (.own [t', l', f', p'])) w6 w7 w8 w9) h2 = .ok [t', l', f', p'] h2 := fun {w6 w7 w8 w9} => aCons_ok (ix 0 _ rfl) (aCons_ok (ix 1 _ rfl) (aCons_ok (ix 2 _ rfl) (aCons_ok (ix 3 _ rfl) aNil_ok)))
  have c2 : tst (eCallK 4 0 (bdId) d_l_right (aCons (eIxO 5 (eCst (.int 0))) (aCons (eIxO 5 (eCst (.int 1))) (aCons (eIxO 5 (eCst (.int 2))) (aCons (eIxO 5 (eCst (.int 3))) aNil)))) aNil) (E10 a xs ys ks (some (.val (Tb a xs ys ks))) (some (.val (.int (j : Nat)))) (some (.own [t', l', f', p'])) none none none none) h2 = .ok (rightB t' l' f' p') h2 := tst_ok (eCallK_ok ar aNil_ok ⟨rfl, rfl⟩ rfl (right_av A (by decide) h2))
  by_cases hq : rightB t' l' f' p' = true
  · rw [hq] at c2
    obtain ⟨b, xs', ys', ks', rfl, rfl, rfl, rfl, q⟩ := right_rt hq
    have in1 := init_av A (by decide) h2
    rw [if_pos hq] at in1
    have d1 : sAsg (eCmpOl eqT 5 (eVar 2)) (tgN 6) (E10 a xs ys ks (some (.val (Tb a xs ys ks))) (some (.val (.int (j : Nat)))) (some (.own [.str b, sT xs', sT ys', sT ks'])) none none none none) h2 = .nx (E10 a xs ys ks (some (.val (Tb a xs ys ks))) (some (.val (.int (j : Nat)))) (some (.own [.str b, sT xs', sT ys', sT ks'])) (some (.val (.bl (sameB b xs' ys' ks' a xs ys ks)))) none none none) h2 := by
      refine asg_ok (d := .bl (sameB b xs' ys' ks' a xs ys ks)) ?_ rfl
      unfold eCmpOl
      refine (bind_ok (of_ok rfl)).trans ((bind_ok (eVar_ok rfl)).trans (of_ok ?_))
      rw [eq_some q r]
      rfl
    have d2 : sAsg (eMk "Table" (mkM 4 0 (bdP [0, 1, 2, 3] [(.tup []), (.tup [])]) d_Table_init (aCons (eIxO 5 (eCst (.int 0))) (aCons (eIxO 5 (eCst (.int 1))) (aCons (eIxO 5 (eCst (.int 2))) (aCons (eIxO 5 (eCst (.int 3))) aNil)))) aNil)) (tgN 7) (E10 a xs ys ks (some (.val (Tb a xs ys ks))) (some (.val (.int (j : Nat)))) (some (.own [.str b, sT xs', sT ys', sT ks'])) (some (.val (.bl (sameB b xs' ys' ks' a xs ys ks)))) none none none) h2 = .nx (E10 a xs ys ks (some (.val (Tb a xs ys ks))) (some (.val (.int (j : Nat)))) (some (.own [.str b, sT xs', sT ys', sT ks'])) (some (.val (.bl (sameB b xs' ys' ks' a xs ys ks)))) (some (.val (Tb b xs' ys' ks'))) none none) h2 := asg_ok (eMk_ok ((mk_ok ar aNil_ok ⟨rfl, rfl⟩ rfl).trans in1)) rfl
    have t1 := tab_eq (h := h2) r q
    have t2 := tab_eq (h := h2) q r
    rw [sameB_comm] at t1
    have d3 : tst (e2 neP (eN reprP (aCons (eFz (sizM (aCons (eeqO "Table" d_Table_eq (eVar 1) (eVar 7)) (aCons (eeqO "Table" d_Table_eq (eVar 7) (eVar 1)) (aNil))))) (aNil))) (eN reprP (aCons (eFz (sizM (aCons (eVar 6) (aCons (eVar 6) (aNil))))) (aNil)))) (E10 a xs ys ks (some (.val (Tb a xs ys ks))) (some (.val (.int (j : Nat)))) (some (.own [.str b, sT xs', sT ys', sT ks'])) (some (.val (.bl (sameB b xs' ys' ks' a xs ys ks)))) (some (.val (Tb b xs' ys' ks'))) none none) h2 = .ok false h2 :=
      tst_ok (e2_ok (repr_ok (d := .lst ([sameB b xs' ys' ks' a xs ys ks, sameB b xs' ys' ks' a xs ys ks].map D.bl)) (fz_ok (siz_ok (aCons_ok (eeqO_ok (eVar_ok rfl) (eVar_ok rfl) rfl t1) (aCons_ok (eeqO_ok (eVar_ok rfl) (eVar_ok rfl) rfl t2) aNil_ok)) (by show 2 ≤ 100000; decide))) (shows_bls (by show 2 ≤ 3; decide)) (by decide) (by decide)) (repr_ok (d := .lst ([sameB b xs' ys' ks' a xs ys ks, sameB b xs' ys' ks' a xs ys ks].map D.bl)) (fz_ok (siz_ok (aCons_ok (eVar_ok rfl) (aCons_ok (eVar_ok rfl) aNil_ok)) (by show 2 ≤ 100000; decide))) (shows_bls (by show 2 ≤ 3; decide)) (by decide) (by decide)) ne_same)
    exact ⟨h2, (seq_nx ((if_t c2).trans ((seq_nx d1).trans ((seq_nx d2).trans (if_nil d3))))).trans eq_tail, s2.mono (by omega)⟩
  · rw [Bool.not_eq_true] at hq
    rw [hq] at c2
    exact ⟨h2, (seq_nx (if_nil c2)).trans eq_tail, s2.mono (by omega)⟩
end
end WR.K02
set_option Elab.async false
set_option linter.all false
set_option autoImplicit false
set_option maxRecDepth 100000
set_option maxHeartbeats 4000000
namespace WR.K02
open PySem PySem.Spec PyProof.Rows L2
/-! ### _law_table_right -/
theorem Args.shows {n : Nat} {t l f p : D} (A : Args n t l f p) : Shows 500000 5 (.lst [t, l, f, p]) := (shows_lst (L := 100000) (n := 4) (k := 4) (fun d hd => by
  simp only [List.mem_cons, List.not_mem_nil, or_false] at hd
  rcases hd with rfl | rfl | rfl | rfl
  · exact A.t.sh
  · exact A.l.sh
  · exact A.f.sh
  · exact A.p.sh) (by show 4 ≤ 4; decide)).mono (by decide) (by decide)
abbrev E7 (t l f p : D) (kept : Str) (rt : Bool) (v4 v5 v6 : Option Sl) : En := [some (.val (.loc 1)), some (.val (.lst [t, l, f, p])), some (.val (.str kept)), some (.val (.bl rt)), v4, v5, v6]
abbrev byBody : MS := sSeq (sAsg (eCallK 2 0 (bdId) d_l_heard (aCons (eVar 1) (aCons (eVar 4) (aNil))) aNil) (tgN 5)) (sSeq (sIf (tOr (tAn (tNt (tst (eVar 3))) (tst (e2 isNotP (eVar 5) (eCst .non)))) (tAn (tst (eVar 3)) (tNt (tst (eN (isiP isiT) (aCons (eVar 5) (aCons (eCst (.glo "Table")) (aNil)))))))) (sRet (eCst (.bl false))) (sNil)) (sIf (tst (eVar 3)) (sSeq (sAsg (eFz (sizM (aCons (eFld ["Table"] "name" (eVar 5)) (aCons (eFld ["Table"] "names" (eVar 5)) (aCons (eFld ["Table"] "numbers" (eVar 5)) (aCons (eFld ["Table"] "key" (eVar 5)) (aNil))))))) (tgN 6)) (sSeq (sIf (tOr (tst (e2 neP (eN reprP (aCons (eVar 6) (aNil))) (eVar 2))) (tst (e2 neP (eN reprP (aCons (eProp "Table" d_Table_columns (eVar 5)) (aNil))) (eN reprP (aCons (e2 addP (e2 ixP (eVar 1) (eCst (.int 1))) (e2 ixP (eVar 1) (eCst (.int 2)))) (aNil)))))) (sRet (eCst (.bl false))) (sNil)) (sIf (tOr (tNt (tst (eCallK 3 0 (bdId) d_l_rows_right (aCons (eVar 0) (aCons (eVar 5) (aCons (eVar 1) (aNil)))) aNil))) (tNt (tst (eCallK 3 0 (bdId) d_l_equal_right (aCons (eVar 0) (aCons (eVar 5) (aCons (eVar 1) (aNil)))) aNil)))) (sRet (eCst (.bl false))) (sNil)))) (sNil)))
theorem by_ok {n m : Nat} {h : IH} {t l f p : D} {v5 v6 : Option Sl} (s : Sr n h) (hn : n < 100000) (A : Args m t l f p) (hm : m ≤ 1000) (b : Bool) : ∃ w5 w6 h', byBody (E7 t l f p (shownD (.lst [t, l, f, p])) (rightB t l f p) (some (.val (.bl b))) v5 v6) h = .nx (E7 t l f p (shownD (.lst [t, l, f, p])) (rightB t l f p) (some (.val (.bl b))) w5 w6) h' ∧ Sr (n + 200) h' := by
  have hh := heard_ok A hm b h
  have st1 : sAsg (eCallK 2 0 (bdId) d_l_heard (aCons (eVar 1) (aCons (eVar 4) (aNil))) aNil) (tgN 5) (E7 t l f p (shownD (.lst [t, l, f, p])) (rightB t l f p) (some (.val (.bl b))) v5 v6) h = .nx (E7 t l f p (shownD (.lst [t, l, f, p])) (rightB t l f p) (some (.val (.bl b))) (some (.val (if rightB t l f p = true then .obj "Table" (tabF t l f p) else .non))) v6) h := asg_ok (eCallK_ok (aCons_ok (eVar_ok rfl) (aCons_ok (eVar_ok rfl) aNil_ok)) aNil_ok ⟨rfl, rfl⟩ rfl hh) rfl
  refine Exists.imp (fun w5 => Exists.imp fun w6 => Exists.imp fun h' (z : _ ∧ _) => ⟨(seq_nx st1).trans z.1, z.2⟩) ?_
  by_cases hr : rightB t l f p = true
  · have A4 := A
    rw [hr, if_pos rfl]
    have hr2 := hr
    obtain ⟨a, xs, ys, ks, rfl, rfl, rfl, rfl, r⟩ := right_rt hr
    have c1 : tOr (tAn (tNt (tst (eVar 3))) (tst (e2 isNotP (eVar 5) (eCst .non)))) (tAn (tst (eVar 3)) (tNt (tst (eN (isiP isiT) (aCons (eVar 5) (aCons (eCst (.glo "Table")) (aNil))))))) (E7 (.str a) (sT xs) (sT ys) (sT ks) (shownD (.lst [.str a, sT xs, sT ys, sT ks])) true (some (.val (.bl b))) (some (.val (Tb a xs ys ks))) v6) h = .ok false h := tOr_f (tAn_f (tNt_ok (b := true) (tst_ok (eVar_ok rfl)))) (tAn_t (tst_ok (eVar_ok rfl)) (tNt_ok (b := true) (tst_ok (eN_ok (aCons_ok (eVar_ok rfl) (aCons_ok eCst_ok aNil_ok)) isi_Tb))))
    have c2 : tst (eVar 3) (E7 (.str a) (sT xs) (sT ys) (sT ks) (shownD (.lst [.str a, sT xs, sT ys, sT ks])) true (some (.val (.bl b))) (some (.val (Tb a xs ys ks))) v6) h = .ok true h := tst_ok (eVar_ok rfl)
    have st2 : sAsg (eFz (sizM (aCons (eFld ["Table"] "name" (eVar 5)) (aCons (eFld ["Table"] "names" (eVar 5)) (aCons (eFld ["Table"] "numbers" (eVar 5)) (aCons (eFld ["Table"] "key" (eVar 5)) (aNil))))))) (tgN 6) (E7 (.str a) (sT xs) (sT ys) (sT ks) (shownD (.lst [.str a, sT xs, sT ys, sT ks])) true (some (.val (.bl b))) (some (.val (Tb a xs ys ks))) v6) h = .nx (E7 (.str a) (sT xs) (sT ys) (sT ks) (shownD (.lst [.str a, sT xs, sT ys, sT ks])) true (some (.val (.bl b))) (some (.val (Tb a xs ys ks))) (some (.val (someL a xs ys ks)))) h := asg_ok (fz_ok (siz_ok (aCons_ok (fld_ok rfl rfl) (aCons_ok (fld_ok rfl rfl) (aCons_ok (fld_ok rfl rfl) (aCons_ok (fld_ok rfl rfl) aNil_ok)))) (by show 4 ≤ 100000; decide))) rfl
    have lxy : (xs.map D.str).length + (ys.map D.str).length ≤ 1000 := by
      rw [List.length_map, List.length_map]
      have := r.lx
      have := r.ly
      omega
    have co := columns_eq (tabF (.str a) (sT xs) (sT ys) (sT ks)) (xs.map D.str) (ys.map D.str) h rfl rfl lxy
    have sc : Shows 100000 4 (.tup (xs.map D.str ++ ys.map D.str)) := by
      rw [← List.map_append]
      exact ((nm_strs (k := 4) r.nc (by rw [List.length_append]; have := r.lx; have := r.ly; omega)).av (by decide)).sh
    have c3 : tOr (tst (e2 neP (eN reprP (aCons (eVar 6) (aNil))) (eVar 2))) (tst (e2 neP (eN reprP (aCons (eProp "Table" d_Table_columns (eVar 5)) (aNil))) (eN reprP (aCons (e2 addP (e2 ixP (eVar 1) (eCst (.int 1))) (e2 ixP (eVar 1) (eCst (.int 2)))) (aNil))))) (E7 (.str a) (sT xs) (sT ys) (sT ks) (shownD (.lst [.str a, sT xs, sT ys, sT ks])) true (some (.val (.bl b))) (some (.val (Tb a xs ys ks))) (some (.val (someL a xs ys ks)))) h = .ok false h := tOr_f (tst_ok (e2_ok (repr_ok (eVar_ok rfl) A.shows (by decide) (by decide)) (eVar_ok rfl) ne_same)) (tst_ok (e2_ok (repr_ok (eProp_ok (eVar_ok rfl) rfl co) sc (by decide) (by decide)) (repr_ok (e2_ok (e2_ok (eVar_ok rfl) eCst_ok rfl) (e2_ok (eVar_ok rfl) eCst_ok rfl) (add_tup lxy)) sc (by decide) (by decide)) ne_same))
    obtain ⟨h1, e1, s1⟩ := rows_ok s (by omega) r
    obtain ⟨h2, e2', s2⟩ := equal_ok s1 (by omega) r hr2
    have c4 : tOr (tNt (tst (eCallK 3 0 (bdId) d_l_rows_right (aCons (eVar 0) (aCons (eVar 5) (aCons (eVar 1) (aNil)))) aNil))) (tNt (tst (eCallK 3 0 (bdId) d_l_equal_right (aCons (eVar 0) (aCons (eVar 5) (aCons (eVar 1) (aNil)))) aNil))) (E7 (.str a) (sT xs) (sT ys) (sT ks) (shownD (.lst [.str a, sT xs, sT ys, sT ks])) true (some (.val (.bl b))) (some (.val (Tb a xs ys ks))) (some (.val (someL a xs ys ks)))) h = .ok false h2 := tOr_f (tNt_ok (b := true) (tst_ok (eCallK_ok (aCons_ok (eVar_ok rfl) (aCons_ok (eVar_ok rfl) (aCons_ok (eVar_ok rfl) aNil_ok))) aNil_ok ⟨rfl, rfl⟩ rfl e1))) (tNt_ok (b := true) (tst_ok (eCallK_ok (aCons_ok (eVar_ok rfl) (aCons_ok (eVar_ok rfl) (aCons_ok (eVar_ok rfl) aNil_ok))) aNil_ok ⟨rfl, rfl⟩ rfl e2')))
    exact ⟨_, _, h2, (seq_skip c1).trans ((if_t c2).trans ((seq_nx st2).trans ((seq_skip c3).trans (if_nil c4)))), s2.mono (by omega)⟩
  · rw [if_neg hr]
    rw [Bool.not_eq_true] at hr
    rw [hr]
    have c1 : tOr (tAn (tNt (tst (eVar 3))) (tst (e2 isNotP (eVar 5) (eCst .non)))) (tAn (tst (eVar 3)) (tNt (tst (eN (isiP isiT) (aCons (eVar 5) (aCons (eCst (.glo "Table")) (aNil))))))) (E7 t l f p (shownD (.lst [t, l, f, p])) false (some (.val (.bl b))) (some (.val .non)) v6) h = .ok false h := tOr_f (tAn_t (tNt_ok (b := false) (tst_ok (eVar_ok rfl))) (tst_ok (e2_ok (eVar_ok rfl) eCst_ok rfl))) (tAn_f (tst_ok (eVar_ok rfl)))
    have c2 : tst (eVar 3) (E7 t l f p (shownD (.lst [t, l, f, p])) false (some (.val (.bl b))) (some (.val .non)) v6) h = .ok false h := tst_ok (eVar_ok rfl)
    exact ⟨_, _, h, (seq_skip c1).trans (if_nil c2), s.mono (by omega)⟩
theorem table_ok {n m : Nat} {h : IH} {t l f p : D} (s : Sr n h) (hn : n < 90000) (A : Args m t l f p) (hm : m ≤ 1000) : ∃ h', d_l_table_right [.loc 1, .lst [t, l, f, p]] h = .ok (.bl true) h' ∧ Sr (n + 400) h' := by
  suffices g : ∃ (h' : IH), F_l_table_right [some (.val (.loc 1)), some (.val (.lst [t, l, f, p])), none, none, none, none, none] h = .rt (.bl true) h' ∧ Sr (n + 400) h' by
    obtain ⟨h', e, q⟩ := g
    exact ⟨h', runB_rt rfl e, q⟩
  unfold F_l_table_right
  have st1 : sPar2 2 3 (aCons (eN reprP (aCons (eVar 1) (aNil))) (aCons (eCallK 4 0 (bdId) d_l_right (aCons (e2 ixP (eVar 1) (eCst (.int 0))) (aCons (e2 ixP (eVar 1) (eCst (.int 1))) (aCons (e2 ixP (eVar 1) (eCst (.int 2))) (aCons (e2 ixP (eVar 1) (eCst (.int 3))) (aNil))))) aNil) (aNil))) [some (.val (.loc 1)), some (.val (.lst [t, l, f, p])), none, none, none, none, none] h = .nx (E7 t l f p (shownD (.lst [t, l, f, p])) (rightB t l f p) none none none) h := par2_ok (aCons_ok (repr_ok (eVar_ok rfl) A.shows (by decide) (by decide)) (aCons_ok (eCallK_ok (aCons_ok (e2_ok (eVar_ok rfl) eCst_ok rfl) (aCons_ok (e2_ok (eVar_ok rfl) eCst_ok rfl) (aCons_ok (e2_ok (eVar_ok rfl) eCst_ok rfl) (aCons_ok (e2_ok (eVar_ok rfl) eCst_ok rfl) aNil_ok)))) aNil_ok ⟨rfl, rfl⟩ rfl (right_av A hm h)) aNil_ok))
  obtain ⟨ρ2, h2, e2', ⟨v4, v5, v6, rfl⟩, s2⟩ := for_go (ρ := E7 t l f p (shownD (.lst [t, l, f, p])) (rightB t l f p) none none none) (h := h) (g := iSeq (eTup (aCons (eCst (.bl false)) (aCons (eCst (.bl true)) (aNil))))) (ds := [.bl false, .bl true]) (F := byBody) (tg := tgN 4) (fun k ρ h => (∃ v4 v5 v6, ρ = E7 t l f p (shownD (.lst [t, l, f, p])) (rightB t l f p) v4 v5 v6) ∧ Sr (n + 200 * k) h) (iSeq_ok (eTup_ok (aCons_ok eCst_ok (aCons_ok eCst_ok aNil_ok))) rfl) ⟨⟨_, _, _, rfl⟩, s⟩ (fun k d ρ h hd ⟨⟨v4, v5, v6, e⟩, sk⟩ => by
    subst e
    have hk : k < 2 := (List.getElem?_eq_some_iff.mp hd).1
    obtain ⟨b, rfl⟩ : ∃ b, d = .bl b := by
      have := List.mem_of_getElem? hd
      simp only [List.mem_cons, List.not_mem_nil, or_false] at this
      rcases this with rfl | rfl
      · exact ⟨_, rfl⟩
      · exact ⟨_, rfl⟩
    obtain ⟨w5, w6, h', e, s'⟩ := by_ok (v5 := v5) (v6 := v6) sk (by omega) A hm b
    exact ⟨_, rfl, _, h', e, ⟨_, _, _, rfl⟩, s'⟩)
  refine ⟨h2, (seq_nx st1).trans ((seq_nx e2').trans (ret_ok (e2_ok (repr_ok (eVar_ok rfl) A.shows (by decide) (by decide)) (eVar_ok rfl) ?_))), s2.mono (by show n + 200 * 2 ≤ _; omega)⟩
  show (eqT (.str (shownD (.lst [t, l, f, p]))) (.str (shownD (.lst [t, l, f, p])))).map D.bl = _
  rw [eq_strs, decide_eq_true rfl]
  rfl
/-! ### _law_defaults_right -/
theorem defaults_ok {w : Str} {h : IH} (hw : nameS w = true) : d_l_defaults_right [.str w] h = .ok (.bl true) h := by
  refine runB_rt rfl ?_
  unfold F_l_defaults_right
  have r1 : Rt w ["a"] [] [] := ⟨hw, by decide +kernel, by decide, by decide, by decide, by decide, by decide, by decide⟩
  have r2 : Rt w [] ["p"] [] := ⟨hw, by decide, by decide +kernel, by decide, by decide, by decide, by decide, by decide⟩
  have q1 : rightB (.str w) (sT ["a"]) (sT []) (sT []) = true := by
    unfold rightB
    rw [show nameB (.str w) = true from hw]
    decide +kernel
  have q2 : rightB (.str w) (sT []) (sT ["p"]) (sT []) = true := by
    unfold rightB
    rw [show nameB (.str w) = true from hw]
    decide +kernel
  have i1 := init_av r1.args (by decide) h
  have i2 := init_av r2.args (by decide) h
  rw [if_pos q1] at i1
  rw [if_pos q2] at i2
  have st1 : sPar2 1 2 (aCons (eMk "Table" (mkM 2 0 (bdP [0, 1, 2, 3] [(.tup []), (.tup [])]) d_Table_init (aCons (eVar 0) (aCons (eTup (aCons (eCst (.str "a")) (aNil))) (aNil))) aNil)) (aCons (eMk "Table" (mkM 3 0 (bdP [0, 1, 2, 4] [(.tup []), (.tup [])]) d_Table_init (aCons (eVar 0) (aCons (eTup (aNil)) (aCons (eTup (aCons (eCst (.str "p")) (aNil))) (aNil)))) aNil)) (aNil))) (startE 4 [.str w]) h = .nx [some (.val (.str w)), some (.val (Tb w ["a"] [] [])), some (.val (Tb w [] ["p"] [])), none] h := par2_ok (aCons_ok (eMk_ok ((mk_ok (aCons_ok (eVar_ok rfl) (aCons_ok (eTup_ok (aCons_ok eCst_ok aNil_ok)) aNil_ok)) aNil_ok ⟨rfl, rfl⟩ rfl).trans i1)) (aCons_ok (eMk_ok ((mk_ok (aCons_ok (eVar_ok rfl) (aCons_ok (eTup_ok aNil_ok) (aCons_ok (eTup_ok (aCons_ok eCst_ok aNil_ok)) aNil_ok))) aNil_ok ⟨rfl, rfl⟩ rfl).trans i2)) aNil_ok))
  refine (seq_nx st1).trans ?_
  have c1 := columns_eq (tabF (.str w) (sT ["a"]) (sT []) (sT [])) [.str "a"] [] h rfl rfl (by decide)
  have c2 := columns_eq (tabF (.str w) (sT []) (sT ["p"]) (sT [])) [] [.str "p"] h rfl rfl (by decide)
  have sa : Shows 100 1 (.tup [.str "a"]) := (shows_tup (L := 20) (n := 0) (k := 1) (fun d hd => by rw [List.mem_singleton.mp hd]; exact sh_a) (by decide)).mono (by decide) (by decide)
  have sp : Shows 100 1 (.tup [.str "p"]) := (shows_tup (L := 20) (n := 0) (k := 1) (fun d hd => by rw [List.mem_singleton.mp hd]; exact sh1 (by decide +kernel)) (by decide)).mono (by decide) (by decide)
  have s0 : Shows 100 1 (.tup []) := (shows_tup (ds := []) (L := 0) (n := 0) (k := 0) (fun _ z => nomatch z) (by decide)).mono (by decide) (by decide)
  have sb : Shows 4000 2 (.bl false) := shows_bl false
  have S1 : Shows 100000 5 (.lst [.tup [.str "a"], .tup [], .tup [], .tup [.str "a"]]) := (shows_lst (L := 100) (n := 1) (k := 4) (fun d hd => by
    simp only [List.mem_cons, List.not_mem_nil, or_false] at hd
    rcases hd with rfl | rfl | rfl | rfl
    · exact sa
    · exact s0
    · exact s0
    · exact sa) (by decide)).mono (by decide) (by decide)
  have S2 : Shows 100000 5 (.lst [.tup [], .tup [.str "p"], .tup [], .tup [.str "p"], .bl false, .bl false]) := (shows_lst (L := 4000) (n := 2) (k := 6) (fun d hd => by
    simp only [List.mem_cons, List.not_mem_nil, or_false] at hd
    rcases hd with rfl | rfl | rfl | rfl | rfl | rfl
    · exact s0.mono (by decide) (by decide)
    · exact sp.mono (by decide) (by decide)
    · exact s0.mono (by decide) (by decide)
    · exact sp.mono (by decide) (by decide)
    · exact sb
    · exact sb) (by decide)).mono (by decide) (by decide)
  have t1 : tst (e2 neP (eN reprP (aCons (eFz (sizM (aCons (eFld ["Table"] "names" (eVar 1)) (aCons (eFld ["Table"] "numbers" (eVar 1)) (aCons (eFld ["Table"] "key" (eVar 1)) (aCons (eProp "Table" d_Table_columns (eVar 1)) (aNil))))))) (aNil))) (eN reprP (aCons (eFz (sizM (aCons (eTup (aCons (eCst (.str "a")) (aNil))) (aCons (eTup (aNil)) (aCons (eTup (aNil)) (aCons (eTup (aCons (eCst (.str "a")) (aNil))) (aNil))))))) (aNil)))) [some (.val (.str w)), some (.val (Tb w ["a"] [] [])), some (.val (Tb w [] ["p"] [])), none] h = .ok false h :=
    tst_ok (e2_ok (repr_ok (d := .lst [.tup [.str "a"], .tup [], .tup [], .tup [.str "a"]]) (fz_ok (siz_ok (aCons_ok (fld_ok rfl rfl) (aCons_ok (fld_ok rfl rfl) (aCons_ok (fld_ok rfl rfl) (aCons_ok (eProp_ok (eVar_ok rfl) rfl c1) aNil_ok)))) (by decide))) S1 (by decide) (by decide)) (repr_ok (d := .lst [.tup [.str "a"], .tup [], .tup [], .tup [.str "a"]]) (fz_ok (siz_ok (aCons_ok (eTup_ok (aCons_ok eCst_ok aNil_ok)) (aCons_ok (eTup_ok aNil_ok) (aCons_ok (eTup_ok aNil_ok) (aCons_ok (eTup_ok (aCons_ok eCst_ok aNil_ok)) aNil_ok)))))) S1 (by decide) (by decide)) ne_same)
  refine (seq_skip t1).trans ?_
  have wx : ∀ d ∈ ([.str "x"] : List D), Wi d := fun d hd => by
    rw [List.mem_singleton.mp hd]
    exact .inl ⟨"x", rfl, by decide +kernel⟩
  have cl := clash_eq (h := h) (ds := [.str "x"]) (es := [.str "x"]) r1 rfl rfl wx wx
  have te := tab_eq (h := h) r1 r2
  have te0 : sameB w ["a"] [] [] w [] ["p"] [] = false := by simp [sameB]
  rw [te0] at te
  have st2 : sAsg (eFz (sizM (aCons (eFld ["Table"] "names" (eVar 2)) (aCons (eFld ["Table"] "numbers" (eVar 2)) (aCons (eFld ["Table"] "key" (eVar 2)) (aCons (eProp "Table" d_Table_columns (eVar 2)) (aCons (eMeth "Table" "clash" 2 0 (bdId) d_Table_clash (eVar 1) (aCons (eTup (aCons (eCst (.str "x")) (aNil))) (aCons (eTup (aCons (eCst (.str "x")) (aNil))) (aNil))) aNil) (aCons (eeqO "Table" d_Table_eq (eVar 1) (eVar 2)) (aNil))))))))) (tgN 3) [some (.val (.str w)), some (.val (Tb w ["a"] [] [])), some (.val (Tb w [] ["p"] [])), none] h = .nx [some (.val (.str w)), some (.val (Tb w ["a"] [] [])), some (.val (Tb w [] ["p"] [])), some (.val (.lst [.tup [], .tup [.str "p"], .tup [], .tup [.str "p"], .bl false, .bl false]))] h := asg_ok (fz_ok (siz_ok (aCons_ok (fld_ok rfl rfl) (aCons_ok (fld_ok rfl rfl) (aCons_ok (fld_ok rfl rfl) (aCons_ok (eProp_ok (eVar_ok rfl) rfl c2) (aCons_ok (eMeth_ok (eVar_ok rfl) rfl rfl (aCons_ok (eTup_ok (aCons_ok eCst_ok aNil_ok)) (aCons_ok (eTup_ok (aCons_ok eCst_ok aNil_ok)) aNil_ok)) aNil_ok ⟨rfl, rfl⟩ rfl cl) (aCons_ok (eeqO_ok (eVar_ok rfl) (eVar_ok rfl) rfl te) aNil_ok)))))) (by show 6 ≤ 100000; decide))) rfl
  refine (seq_nx st2).trans (ret_ok (e2_ok (repr_ok (eVar_ok rfl) S2 (by decide) (by decide)) (repr_ok (d := .lst [.tup [], .tup [.str "p"], .tup [], .tup [.str "p"], .bl false, .bl false]) (fz_ok (siz_ok (aCons_ok (eTup_ok aNil_ok) (aCons_ok (eTup_ok (aCons_ok eCst_ok aNil_ok)) (aCons_ok (eTup_ok aNil_ok) (aCons_ok (eTup_ok (aCons_ok eCst_ok aNil_ok)) (aCons_ok eCst_ok (aCons_ok eCst_ok aNil_ok)))))))) S2 (by decide) (by decide)) ?_))
  show (eqT (.str _) (.str _)).map D.bl = _
  rw [eq_strs, decide_eq_true rfl]
  rfl
end WR.K02
set_option Elab.async false
set_option linter.all false
set_option autoImplicit false
set_option maxRecDepth 100000
set_option maxHeartbeats 4000000
namespace WR.K02
open PySem PySem.Spec PyProof.Rows L2
/-! ### the law -/
abbrev EL (sc : D) (v2 v3 v4 v5 v6 : Option Sl) : En := [some (.val sc), some (.val (.loc 1)), v2, v3, v4, v5, v6]
abbrev bentBody : MS := sSeq (sAsg (eCallK 2 0 (bdId) d_l_draw (aCons (eVar 1) (aCons (eCst (.int 4)) (aNil))) aNil) (tgN 6)) (sSetO 4 (eVar 6) (eCallK 2 0 (bdId) d_l_bent (aCons (eVar 1) (aCons (eIxO 4 (eVar 6)) (aNil))) aNil))
theorem bentB_ok {n m : Nat} {h : IH} {sc t l f p : D} {v2 v3 v5 v6 : Option Sl} (s : Sr n h) (hn : n < 1000000) (A : Args m t l f p) (hm : m ≤ 10) : ∃ t' l' f' p' w6 h', bentBody (EL sc v2 v3 (some (.own [t, l, f, p])) v5 v6) h = .nx (EL sc v2 v3 (some (.own [t', l', f', p'])) v5 w6) h' ∧ Args (m + 3) t' l' f' p' ∧ Sr (n + 20) h' := by
  obtain ⟨k, h1, e1, s1, k0, k1⟩ := call_draw (ρ := EL sc v2 v3 (some (.own [t, l, f, p])) v5 v6) (i := 1) (fm := eCst (.int 4)) (m := 4) rfl eCst_ok s (by omega) (by decide) (by decide)
  obtain ⟨j, d, rfl, hj, hd, ad⟩ := A.at k0 k1
  obtain ⟨d', h2, e2', s2, ad'⟩ := bent_ok s1 (by omega) ad hm
  obtain ⟨t', l', f', p', es, A'⟩ := args_set A ad' (by omega) hj
  refine ⟨t', l', f', p', some (.val (.int (j : Nat))), h2, (seq_nx (asg_ok e1 rfl)).trans ?_, A', s2.mono (by omega)⟩
  refine (setO_ok (j := j) (k := (j : Int)) (d := d') (ds := [t, l, f, p]) (h1 := h2) (eCallK_ok (aCons_ok (eVar_ok rfl) (aCons_ok (ixO_ok (ds := [t, l, f, p]) rfl (eVar_ok rfl) hd) aNil_ok)) aNil_ok ⟨rfl, rfl⟩ rfl e2') rfl (eVar_ok rfl) (ixN_at hj)).trans ?_
  rw [es]
  rfl
abbrev turnBody : MS := sSeq (sAsg (eCallK 2 0 (bdId) d_l_pick (aCons (eVar 1) (aCons (eFz (sizM (aCons (eCallK 1 0 (bdId) d_l_word (aCons (eVar 1) (aNil)) aNil) (aCons (eCallK 1 0 (bdId) d_l_other (aCons (eVar 1) (aNil)) aNil) (aCons (e2 addP (eCallK 1 0 (bdId) d_l_word (aCons (eVar 1) (aNil)) aNil) (eCst (.str "s"))) (aNil)))))) (aNil))) aNil) (tgN 3)) (sSeq (sIf (tst (e2 neP (eFz (sizM (aCons (eN reprP (aCons (eCallK 1 0 (bdId) d_p_is_name (aCons (eVar 3) (aNil)) aNil) (aNil))) (aCons (eN reprP (aCons (eCallK 0 1 (bdP [0] []) d_p_is_name aNil (aCons (eVar 3) (aNil))) (aNil))) (aNil))))) (e2 mulP (eFz (sizM (aCons (eN reprP (aCons (eCallK 1 0 (bdId) d_l_is_name (aCons (eVar 3) (aNil)) aNil) (aNil))) (aNil)))) (eCst (.int 2))))) (sRet (eCst (.bl false))) (sNil)) (sSeq (sOwn 4 (eCallO d_l_valid (aCons (eVar 1) (aNil)))) (sSeq (sFor (iOf rng1 (aCons (eCallK 2 0 (bdId) d_l_pick (aCons (eVar 1) (aCons (eFz (sizM (aCons (eCst (.int 0)) (aCons (eCst (.int 0)) (aCons (eCst (.int 1)) (aCons (eCst (.int 1)) (aCons (eCst (.int 2)) (aNil)))))))) (aNil))) aNil) (aNil))) (tgN 5) bentBody) (sFrz 4 (sIf (tNt (tst (eCallK 2 0 (bdId) d_l_table_right (aCons (eVar 1) (aCons (eVar 4) (aNil))) aNil))) (sRet (eCst (.bl false))) (sNil))))))
theorem rng1_ok {n : Int} (h1 : -(2 ^ 62) ≤ n) (h2 : n < 2 ^ 62) : rng1 [.int n] = some (rngD 0 n.toNat) := by
  unfold rng1
  exact if_pos ⟨h1, h2⟩
theorem add_s_len (x : Str) : (x ++ ("s" : Str)).length = x.length + 1 := by
  rw [Str.length_append]
  rfl
theorem turn_ok {n : Nat} {h : IH} {sc : D} {v2 v3 v4 v5 v6 : Option Sl} (s : Sr n h) (hn : n < 80000) : ∃ w3 w4 w5 w6 h', turnBody (EL sc v2 v3 v4 v5 v6) h = .nx (EL sc v2 w3 w4 w5 w6) h' ∧ Sr (n + 600) h' := by
  obtain ⟨w1, h1, e1, s1, hw1⟩ := call_word (ρ := EL sc v2 v3 v4 v5 v6) (i := 1) rfl s (by omega)
  obtain ⟨o, h2, e2', s2, ho⟩ := call_other (ρ := EL sc v2 v3 v4 v5 v6) (i := 1) rfl s1 (by omega)
  obtain ⟨w2, h3, e3, s3, hw2⟩ := call_word (ρ := EL sc v2 v3 v4 v5 v6) (i := 1) rfl s2 (by omega)
  have l2 := name_len hw2
  have ad : ∀ hh : IH, addP hh (.str w2) (.str "s") = some (.str (w2 ++ ("s" : Str))) := fun hh => by
    show (if w2.length + ("s" : Str).length ≤ sizeLine then some (D.str (w2 ++ ("s" : Str))) else none) = _
    rw [if_pos (Nat.le_trans (show w2.length + ("s" : Str).length ≤ 9 by have : ("s" : Str).length = 1 := rfl; omega) (by decide))]
  have ls : eFz (sizM (aCons (eCallK 1 0 (bdId) d_l_word (aCons (eVar 1) (aNil)) aNil) (aCons (eCallK 1 0 (bdId) d_l_other (aCons (eVar 1) (aNil)) aNil) (aCons (e2 addP (eCallK 1 0 (bdId) d_l_word (aCons (eVar 1) (aNil)) aNil) (eCst (.str "s"))) (aNil))))) (EL sc v2 v3 v4 v5 v6) h = .ok (.lst [.str w1, o, .str (w2 ++ ("s" : Str))]) h3 := fz_ok (siz_ok (aCons_ok e1 (aCons_ok e2' (aCons_ok (e2_ok e3 eCst_ok (ad h3)) aNil_ok))) (by show 3 ≤ 100000; decide))
  obtain ⟨d, h4, e4, s4, md⟩ := call_pick (ρ := EL sc v2 v3 v4 v5 v6) (i := 1) rfl ls s3 (by omega) (by show 0 < 3; decide) (by show 3 ≤ 1000; decide)
  have hd : Itm d := by
    simp only [List.mem_cons, List.not_mem_nil, or_false] at md
    rcases md with rfl | rfl | rfl
    · exact (iv_name hw1).itm
    · exact ho.1.itm
    · refine ⟨trivial, fun x e => ?_⟩
      cases e
      rw [add_s_len]
      omega
  have b := shows_bl (nameB d)
  refine Exists.imp (fun w3 => Exists.imp fun w4 => Exists.imp fun w5 => Exists.imp fun w6 => Exists.imp fun h' (z : _ ∧ _) => ⟨(seq_nx (asg_ok e4 rfl)).trans z.1, z.2⟩) ?_
  have t1 : tst (e2 neP (eFz (sizM (aCons (eN reprP (aCons (eCallK 1 0 (bdId) d_p_is_name (aCons (eVar 3) (aNil)) aNil) (aNil))) (aCons (eN reprP (aCons (eCallK 0 1 (bdP [0] []) d_p_is_name aNil (aCons (eVar 3) (aNil))) (aNil))) (aNil))))) (e2 mulP (eFz (sizM (aCons (eN reprP (aCons (eCallK 1 0 (bdId) d_l_is_name (aCons (eVar 3) (aNil)) aNil) (aNil))) (aNil)))) (eCst (.int 2)))) (EL sc v2 (some (.val d)) v4 v5 v6) h4 = .ok false h4 := by
    refine tst_ok (e2_ok (x := .lst ([shownD (.bl (nameB d)), shownD (.bl (nameB d))].map D.str)) (y := .lst ([shownD (.bl (nameB d)), shownD (.bl (nameB d))].map D.str)) (fz_ok (siz_ok (aCons_ok (repr_ok (eCallK_ok (aCons_ok (eVar_ok rfl) aNil_ok) aNil_ok ⟨rfl, rfl⟩ rfl (is_name_eq d h4 hd.1 hd.2)) b (by decide) (by decide)) (aCons_ok (repr_ok (eCallK_ok aNil_ok (aCons_ok (eVar_ok rfl) aNil_ok) ⟨rfl, rfl⟩ rfl (is_name_eq d h4 hd.1 hd.2)) b (by decide) (by decide)) aNil_ok)) (by show 2 ≤ 100000; decide))) (e2_ok (x := .lst [.str (shownD (.bl (nameB d)))]) (fz_ok (siz_ok (aCons_ok (repr_ok (eCallK_ok (aCons_ok (eVar_ok rfl) aNil_ok) aNil_ok ⟨rfl, rfl⟩ rfl (l_is_name_eq d h4 hd.1 hd.2)) b (by decide) (by decide)) aNil_ok) (by show 1 ≤ 100000; decide))) eCst_ok ?_) ?_)
    · show (if -(2 ^ 63) ≤ (2 : Int) ∧ (2 : Int) < 2 ^ 63 ∧ 1 * (2 : Int).toNat ≤ sizeLine then some (D.lst (List.replicate (2 : Int).toNat [D.str (shownD (.bl (nameB d)))]).flatten) else none) = _
      rw [if_pos ⟨by decide, by decide, by decide⟩]
      rfl
    · show (eqT (.lst (List.map D.str _)) (.lst (List.map D.str _))).map (fun b => D.bl (!b)) = _
      rw [eq_strL, decide_eq_true rfl]
      rfl
  obtain ⟨vs, h5, e5, s5, hv⟩ := valid_ok s4 (by omega)
  obtain ⟨t, l, f, p, rfl, A⟩ := hv.args
  have st2 : sOwn 4 (eCallO d_l_valid (aCons (eVar 1) aNil)) (EL sc v2 (some (.val d)) v4 v5 v6) h4 = .nx (EL sc v2 (some (.val d)) (some (.own [t, l, f, p])) v5 v6) h5 := own_ok (eCallO_ok (aCons_ok (eVar_ok rfl) aNil_ok) e5)
  obtain ⟨c, h6, e6, s6, mc⟩ := call_pick (ρ := EL sc v2 (some (.val d)) (some (.own [t, l, f, p])) v5 v6) (i := 1) (h := h5) (h1 := h5) (fm := eFz (sizM (aCons (eCst (.int 0)) (aCons (eCst (.int 0)) (aCons (eCst (.int 1)) (aCons (eCst (.int 1)) (aCons (eCst (.int 2)) aNil))))))) (ds := [.int 0, .int 0, .int 1, .int 1, .int 2]) rfl (fz_ok (siz_ok (aCons_ok eCst_ok (aCons_ok eCst_ok (aCons_ok eCst_ok (aCons_ok eCst_ok (aCons_ok eCst_ok aNil_ok))))))) s5 (by omega) (by decide) (by decide)
  obtain ⟨j, hj, rfl⟩ : ∃ j : Nat, j ≤ 2 ∧ c = .int (j : Nat) := by
    simp only [List.mem_cons, List.not_mem_nil, or_false] at mc
    rcases mc with rfl | rfl | rfl | rfl | rfl
    · exact ⟨0, by decide, rfl⟩
    · exact ⟨0, by decide, rfl⟩
    · exact ⟨1, by decide, rfl⟩
    · exact ⟨1, by decide, rfl⟩
    · exact ⟨2, by decide, rfl⟩
  have er : iOf rng1 (aCons (eCallK 2 0 (bdId) d_l_pick (aCons (eVar 1) (aCons (eFz (sizM (aCons (eCst (.int 0)) (aCons (eCst (.int 0)) (aCons (eCst (.int 1)) (aCons (eCst (.int 1)) (aCons (eCst (.int 2)) (aNil)))))))) (aNil))) aNil) (aNil)) (EL sc v2 (some (.val d)) (some (.own [t, l, f, p])) v5 v6) h5 = .ok (rngD 0 j) h6 := by
    refine iOf_ok (aCons_ok e6 aNil_ok) ?_
    rw [rng1_ok (by omega) (by omega), Int.toNat_natCast]
  have ll : (rngD 0 j).length = j := by simp [rngD]
  obtain ⟨ρ7, h7, e7, ⟨t', l', f', p', w5, w6, rfl, A'⟩, s7⟩ := for_go (F := bentBody) (tg := tgN 5) (fun k ρ h => (∃ t l f p w5 w6, ρ = EL sc v2 (some (.val d)) (some (.own [t, l, f, p])) w5 w6 ∧ Args (4 + 3 * k) t l f p) ∧ Sr (n + 100 + 20 * k) h) er ⟨⟨_, _, _, _, _, _, rfl, A⟩, s6.mono (by omega)⟩ (fun k x ρ h hx ⟨⟨t, l, f, p, w5, w6, e, A⟩, sk⟩ => by
    subst e
    have hk : k < j := by
      have := (List.getElem?_eq_some_iff.mp hx).1
      rwa [ll] at this
    obtain ⟨t', l', f', p', w6', h', e, A', s'⟩ := bentB_ok (sc := sc) (v2 := v2) (v3 := some (.val d)) (v5 := some (.val x)) (v6 := w6) sk (by omega) A (by omega)
    exact ⟨_, rfl, _, h', e, ⟨_, _, _, _, _, _, rfl, A'⟩, s'⟩)
  rw [ll] at A' s7
  obtain ⟨h8, e8, s8⟩ := table_ok s7 (by omega) A' (by omega)
  have t2 : tNt (tst (eCallK 2 0 (bdId) d_l_table_right (aCons (eVar 1) (aCons (eVar 4) (aNil))) aNil)) (EL sc v2 (some (.val d)) (some (.val (.lst [t', l', f', p']))) w5 w6) h7 = .ok false h8 := tNt_ok (b := true) (tst_ok (eCallK_ok (aCons_ok (eVar_ok rfl) (aCons_ok (eVar_ok rfl) aNil_ok)) aNil_ok ⟨rfl, rfl⟩ rfl e8))
  have fz : sFrz 4 (sIf (tNt (tst (eCallK 2 0 (bdId) d_l_table_right (aCons (eVar 1) (aCons (eVar 4) (aNil))) aNil))) (sRet (eCst (.bl false))) sNil) (EL sc v2 (some (.val d)) (some (.own [t', l', f', p'])) w5 w6) h7 = .nx (EL sc v2 (some (.val d)) (some (.val (.lst [t', l', f', p']))) w5 w6) h8 := if_nil t2
  exact ⟨_, _, _, _, h8, (seq_skip t1).trans ((seq_nx st2).trans ((seq_nx e7).trans fz)), s8.mono (by omega)⟩
theorem plain : ∀ ns : List Int, ns.length ≤ 63 → ((d_law [.fz (ns.map D.int)]) []).wp (fun d _ => d = .bl true) (fun _ _ _ => False) := by
  intro ns hl
  suffices g : ∃ h', F_law [some (.val (.fz (ns.map D.int))), none, none, none, none, none, none] [] = .rt (.bl true) h' by
    obtain ⟨h', e⟩ := g
    have e' : d_law [.fz (ns.map D.int)] [] = .ok (.bl true) h' := runB_rt rfl e
    have w : ∀ r : Res D, r = .ok (.bl true) h' → r.wp (fun d _ => d = .bl true) (fun _ _ _ => False) := fun r er => by
      subst er
      exact (rfl : D.bl true = D.bl true)
    exact w _ e'
  unfold F_law
  obtain ⟨h1, e1, s1⟩ := source_ok hl
  have st1 : sAsg (eCallK 1 0 (bdId) d_l_source (aCons (eVar 0) (aNil)) aNil) (tgN 1) [some (.val (.fz (ns.map D.int))), none, none, none, none, none, none] [] = .nx (EL (.fz (ns.map D.int)) none none none none none) h1 := asg_ok (eCallK_ok (aCons_ok (eVar_ok rfl) aNil_ok) aNil_ok ⟨rfl, rfl⟩ rfl e1) rfl
  have er : iOf rng1 (aCons (eCst (.int 40)) aNil) (EL (.fz (ns.map D.int)) none none none none none) h1 = .ok (rngD 0 40) h1 := iOf_ok (aCons_ok eCst_ok aNil_ok) rfl
  have ll : (rngD 0 40).length = 40 := by simp [rngD]
  obtain ⟨ρ2, h2, e2', ⟨w2, w3, w4, w5, w6, rfl⟩, s2⟩ := for_go (F := turnBody) (tg := tgN 2) (fun k ρ h => (∃ w2 w3 w4 w5 w6, ρ = EL (.fz (ns.map D.int)) w2 w3 w4 w5 w6) ∧ Sr (600 * k) h) er ⟨⟨_, _, _, _, _, rfl⟩, s1⟩ (fun k x ρ h hx ⟨⟨w2, w3, w4, w5, w6, e⟩, sk⟩ => by
    subst e
    have hk : k < 40 := by
      have := (List.getElem?_eq_some_iff.mp hx).1
      rwa [ll] at this
    obtain ⟨w3', w4', w5', w6', h', e, s'⟩ := turn_ok (sc := .fz (ns.map D.int)) (v2 := some (.val x)) (v3 := w3) (v4 := w4) (v5 := w5) (v6 := w6) sk (by omega)
    exact ⟨_, rfl, _, h', e, ⟨_, _, _, _, _, rfl⟩, s'.mono (by omega)⟩)
  rw [ll] at s2
  obtain ⟨w, h3, e3, s3, hw⟩ := call_word (ρ := EL (.fz (ns.map D.int)) w2 w3 w4 w5 w6) (i := 1) rfl s2 (by omega)
  exact ⟨h3, (seq_nx st1).trans ((seq_nx e2').trans (ret_ok (eCallK_ok (aCons_ok e3 aNil_ok) aNil_ok ⟨rfl, rfl⟩ rfl (defaults_ok hw))))⟩
end WR.K02
set_option Elab.async false
set_option linter.all false
set_option autoImplicit false
set_option maxRecDepth 100000
set_option maxHeartbeats 4000000
namespace WR.K02
open PySem PySem.Spec PyProof.Rows L2
theorem fin {P : Program} {w : World} {K : PySem.W.Frag} {mg : Str → Option Value} {h : Heap} {fa : Addr} (KX : K.In h) (hmg : mg "law" = some (.ref fa)) (T : ∀ base, Tx (pcK P w K mg base)) :
    ∃ fd : FuncData, (∀ (s : Shared) (u : Value), BindsTo s fd ⟨[u], []⟩ [("_law_script", u)]) ∧ ∀ base : Heap, K.In base → base.Ns mainGlobals mg → FnG P w K mg base (CX P w) 7 fa fd ["_law_script"] (spI K mg 1 d_law) :=
  law_of hmg (fun base kb nb => P_law (T base)) (law_bd (T h).d_law (fun _ _ _ _ _ _ us hl => match us, hl with | [_], _ => rfl))
end WR.K02
open PySem PySem.W PyProof.Rows
set_option maxRecDepth 100000 in
set_option maxHeartbeats 0 in
theorem PySem.Challenge.cw_whatturns_k02_tables_rows_and_clashes_holds : PySem.Challenge.rw_whatturns_k02_tables_rows_and_clashes.Holds := by
  w_on; o_law; k_head; (case hw => w_witness2)
  k_fill
  refine WR.walk_R (l := PySem.Challenge.rw_whatturns_k02_tables_rows_and_clashes) (n := 63) (k := 7) (x := "_law_script") (g := WR.K02.d_law) rfl (by decide) rfl ⟨⟨rfl, by decide, by decide⟩, rfl⟩ (fun w h Y => PySem.W.kIn_of Y) ?F ?G
  case G => exact WR.K02.plain
  case F =>
    intro w mg fa h KX G hmg
    have A := WR.xall_mk (P := PySem.Challenge.rw_whatturns_k02_tables_rows_and_clashes.prog) KX G (by k_is) (by decide +kernel) (by k_is) (by k_is) (by k_is)
    have ckT := WR.ckc_mk (cn := "Table") KX G (by k_is) (by k_is) (by k_is) (by k_is) (by k_is) (by k_is)
    have tE := WR.tcl_mk (cn := "TurnError") KX G (by k_is) (by k_is)
    have rI := WR.raw_mk (x := "InvalidTable") (p := WT.XPos.mk ⟨6, 17, 6, 21⟩ WR.p0 ⟨7, 8, 7, 13⟩ ⟨7, 8, 7, 15⟩ ⟨7, 8, 7, 24⟩ ⟨7, 25, 7, 60⟩ ⟨7, 8, 7, 61⟩ ⟨7, 8, 7, 61⟩ WR.p0 WR.p0 WR.p0 WR.p0) (text := "the arguments do not make a table") (qual := "InvalidTable.__init__") (fld := none) KX G A WR.xkin_val tE.2 (by k_is) (fun f e => nomatch e) (fun f e => nomatch e) (by decide) (by rfl) (by k_is) (by k_is) (by k_is) (by k_is) (by k_is) (by k_is) (by rfl) (by decide +kernel) (by k_is) (by k_is) (by k_is) (by k_is) (by k_is) (by k_is) (by k_is) (fun f e => nomatch e)
    have hc1 := WR.con_int (x := "MOST_LETTERS") (i := 8) KX G (by k_is)
    have hc2 := WR.con_str (x := "LETTERS") (i := "abcdefghijklmnopqrstuvwxyz") KX G (by k_is)
    have hc3 := WR.con_int (x := "MOST_COLUMNS") (i := 2) KX G (by k_is)
    have hg1 := WR.con_glo (x := "Table") KX G (by k_is)
    have hg2 := WR.con_glo (x := "TurnError") KX G (by k_is)
    have hi := WR.K02.isi_mk A ckT.1 ckT.2 (by k_is)
    refine WR.K02.fin KX hmg fun base => ?_
    exact {
        b_int := PySem.W.mg_none_of KX G (by k_is),
        isi := hi,
        b_isinstance := PySem.W.mg_none_of KX G (by k_is),
        b_bool := PySem.W.mg_none_of KX G (by k_is),
        b_str := PySem.W.mg_none_of KX G (by k_is),
        b_len := PySem.W.mg_none_of KX G (by k_is),
        c_MOST_LETTERS := hc1,
        c_LETTERS := hc2,
        b_all := PySem.W.mg_none_of KX G (by k_is),
        b_tuple := PySem.W.mg_none_of KX G (by k_is),
        c_MOST_COLUMNS := hc3,
        b_list := PySem.W.mg_none_of KX G (by k_is),
        x_InvalidTable := ⟨_, rI.er⟩,
        b_set := PySem.W.mg_none_of KX G (by k_is),
        f_name := WR.fld_mk ckT.1 (by k_is),
        f_names := WR.fld_mk ckT.1 (by k_is),
        f_numbers := WR.fld_mk ckT.1 (by k_is),
        f_key := WR.fld_mk ckT.1 (by k_is),
        b_zip := PySem.W.mg_none_of KX G (by k_is),
        g_Table := hg1,
        b_range := PySem.W.mg_none_of KX G (by k_is),
        b_min := PySem.W.mg_none_of KX G (by k_is),
        b_max := PySem.W.mg_none_of KX G (by k_is),
        g_TurnError := hg2,
        xt := WR.K02.xt_mk rI tE.1 tE.2,
        b_ValueError := PySem.W.mg_none_of KX G (by k_is),
        sub := WR.K02.sub_mk rI,
        b_enumerate := PySem.W.mg_none_of KX G (by k_is),
        b_repr := PySem.W.mg_none_of KX G (by k_is),
        q_Table_eq := WR.eqf_mk ckT.1 (by k_is) (by k_is) (by first | rfl | simp) (by k_is) (by k_is) (by k_is),
        d_p_is_integer := WR.def_mk KX G (by k_is) (by k_is) (by k_is) (by k_is),
        d_p_is_name := WR.def_mk KX G (by k_is) (by k_is) (by k_is) (by k_is),
        d_p_are_names := WR.def_mk KX G (by k_is) (by k_is) (by k_is) (by k_is),
        d_p_is_key := WR.def_mk KX G (by k_is) (by k_is) (by k_is) (by k_is),
        d_Table_init := WR.ini_mk ckT.1 (by k_is) (by k_is) (by k_is) (by k_is) (by k_is) (by k_is) (WR.df_nil2 rfl (by k_is) (by k_is) (by k_is)),
        d_Table_columns := WR.prp_mk ckT.1 (by k_is) (by k_is) (by k_is) (by k_is) (by k_is) (by k_is),
        d_Table_is_row := WR.mth_mk ckT.1 (by k_is) (by k_is) (by k_is) (by k_is) (by k_is),
        d_Table_key_of := WR.mth_mk ckT.1 (by k_is) (by k_is) (by k_is) (by k_is) (by k_is),
        d_Table_clash := WR.mth_mk ckT.1 (by k_is) (by k_is) (by k_is) (by k_is) (by k_is),
        d_Table_eq := WR.mth_mk ckT.1 (by k_is) (by k_is) (by k_is) (by k_is) (by k_is),
        d_l_source := WR.def_mk KX G (by k_is) (by k_is) (by k_is) (by k_is),
        d_l_draw := WR.def_mk KX G (by k_is) (by k_is) (by k_is) (by k_is),
        d_l_pick := WR.def_mk KX G (by k_is) (by k_is) (by k_is) (by k_is),
        d_l_word := WR.def_mk KX G (by k_is) (by k_is) (by k_is) (by k_is),
        d_l_other := WR.def_mk KX G (by k_is) (by k_is) (by k_is) (by k_is),
        d_l_is_name := WR.def_mk KX G (by k_is) (by k_is) (by k_is) (by k_is),
        d_l_are_names := WR.def_mk KX G (by k_is) (by k_is) (by k_is) (by k_is),
        d_l_key_right := WR.def_mk KX G (by k_is) (by k_is) (by k_is) (by k_is),
        d_l_right := WR.def_mk KX G (by k_is) (by k_is) (by k_is) (by k_is),
        d_l_valid := WR.def_mk KX G (by k_is) (by k_is) (by k_is) (by k_is),
        d_l_bent := WR.def_mk KX G (by k_is) (by k_is) (by k_is) (by k_is),
        d_l_heard := WR.def_mk KX G (by k_is) (by k_is) (by k_is) (by k_is),
        d_l_row := WR.def_mk KX G (by k_is) (by k_is) (by k_is) (by k_is),
        d_l_is_row := WR.def_mk KX G (by k_is) (by k_is) (by k_is) (by k_is),
        d_l_clash := WR.def_mk KX G (by k_is) (by k_is) (by k_is) (by k_is),
        d_l_rows_right := WR.def_mk KX G (by k_is) (by k_is) (by k_is) (by k_is),
        d_l_equal_right := WR.def_mk KX G (by k_is) (by k_is) (by k_is) (by k_is),
        d_l_table_right := WR.def_mk KX G (by k_is) (by k_is) (by k_is) (by k_is),
        d_l_defaults_right := WR.def_mk KX G (by k_is) (by k_is) (by k_is) (by k_is),
        d_law := WR.def_mk KX G (by k_is) (by k_is) (by k_is) (by k_is) }
#print axioms PySem.Challenge.cw_whatturns_k02_tables_rows_and_clashes_holds
