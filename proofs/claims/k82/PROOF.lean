import PyProof.Rows.All
import Wide.All
import OpenK.AllK
import Wide.FinOn
import HandS.ForExc
import HandS.Comp
import HandS.ForMost
import HandS.TupAny
import HandS.TupMul
import HandS.Deep
import HandS.Style
import HandS.IsInst
import HandS.Wide
import HandS.SortInts
import HandS.CallSlots
import HandS.More
import HandS.ExcIs
import HandS.Walk
import HandS.Zip
import HandS.Conv
import HandS.Dict
import KE.KDictDisplayH
import PyProof.Rows.TupDisplay
import PySem.Challenge.RW_guesswide_k82_whole_works_told_apart
set_option Elab.async false
set_option linter.all false
set_option maxRecDepth 100000
set_option maxHeartbeats 4000000
set_option maxHeartbeats 4000000
/-! GxK: keys of dicts: None, ints, texts, flat tuples of these; what a tracked dict holds, entry by entry. -/
namespace Gw
open PySem PySem.Spec PyProof.Rows L2

/-- a plain key -/
inductive AK where
  | non
  | int (i : Int)
  | str (x : Str)
  deriving DecidableEq
def akV : AK → V
  | .non => .non
  | .int i => .int i
  | .str x => .str x
def akIs : AK → Value → Bool
  | .non, .none => true
  | .int k, v => Value.isInt k v
  | .str x, v => Value.isStrOf x v
  | _, _ => false
def akH (w : World) : AK → Int
  | .non => 0xFCA86420
  | .int k => hashInt k
  | .str x => hashStr w x
theorem akIs_shape : ∀ {k : AK} {v : Value}, akIs k v = true → RelV (akV k) v
  | .non, .none, _ => rfl
  | .int i, v, h => by
    obtain ⟨t, e⟩ := Value.isInt_shape (k := i) (v := v) h
    exact ⟨t, e⟩
  | .str x, v, h => by
    obtain ⟨t, e⟩ := Value.isStrOf_shape (x := x) (v := v) h
    exact ⟨t, e⟩
  | .non, .bool _, h => nomatch h
  | .non, .int _ _, h => nomatch h
  | .non, .str _ _, h => nomatch h
  | .non, .float _ _, h => nomatch h
  | .non, .bytes _ _, h => nomatch h
  | .non, .ref _, h => nomatch h
  | .non, .type _, h => nomatch h
  | .non, .builtin _, h => nomatch h
  | .non, .ellipsis, h => nomatch h
  | .non, .notImplemented, h => nomatch h
theorem akIs_of : ∀ {k : AK} {v : Value}, RelV (akV k) v → akIs k v = true
  | .non, v, h => by have e : v = .none := h; subst e; rfl
  | .int i, v, h => by obtain ⟨t, e⟩ := h; subst e; simp [akIs, Value.isInt]
  | .str x, v, h => by obtain ⟨t, e⟩ := h; subst e; simp [akIs, Value.isStrOf]
theorem wpAny_pyHash_none {prog : Program} {w : World} {A : Around} {E : Value → Shared → Prop} {s : Shared} {Q : Int → Shared → Prop} (h : Q 0xFCA86420 { s with toks := s.toks + 1 }) :
    wpAny (model prog w) A (pyHash .none) Q E s := by
  have hT : s.TypeIs .none "NoneType" := rfl
  unfold pyHash
  first | unfold pyHashByItsType | skip
  have hv : [Value.none].any Value.onHeap = false := rfl
  refine wpAny_bind ?_
  rw [cRoomFor, if_neg (by rw [hv]; exact Bool.false_ne_true)]; refine wpAny_pure ?_
  refine wpAny_bind (wpAny_specialOf hT F.slot_NoneType_hash.lookup ?_)
  show wpAny _ _ (if (some (Value.builtin "NoneType.__hash__") == some Value.none) = true then _ else _) Q E s
  rw [if_neg (by rw [beq_builtin_none]; exact Bool.false_ne_true)]
  refine wpAny_bind (wpAny_specialOf hT F.slot_NoneType_hash.lookup ?_)
  show wpAny _ _ (callSpecialIfBoundUnlessNone? .none "__hash__" _ >>= _) Q E s
  refine wpAny_bind (wpAny_callSpecialIfBoundUnlessNone?_slot hT F.slot_NoneType_hash
    (wpAny_call_entry F.slot_NoneType_hash hT F.entry_NoneType_hash
      (show wpAny _ _ (retInt 0xFCA86420) _ _ s from wpAny_ret_mkInt ?_) (F.args_NoneType_hash_1 _)))
  exact wpAny_pure h
theorem akIs_inj : ∀ {v : Value} {a b : AK}, akIs a v = true → akIs b v = true → a = b := fun {v a b} ha hb => by
  have h1 := akIs_shape ha
  have h2 := akIs_shape hb
  cases a <;> cases b
  · rfl
  · have e : v = .none := h1; obtain ⟨t, q⟩ := h2; rw [e] at q; cases q
  · have e : v = .none := h1; obtain ⟨t, q⟩ := h2; rw [e] at q; cases q
  · have e : v = .none := h2; obtain ⟨t, q⟩ := h1; rw [e] at q; cases q
  · obtain ⟨t, q1⟩ := h1; obtain ⟨u, q2⟩ := h2; rw [q1] at q2; injection q2 with q2 _; rw [q2]
  · obtain ⟨t, q1⟩ := h1; obtain ⟨u, q2⟩ := h2; rw [q1] at q2; cases q2
  · have e : v = .none := h2; obtain ⟨t, q⟩ := h1; rw [e] at q; cases q
  · obtain ⟨t, q1⟩ := h1; obtain ⟨u, q2⟩ := h2; rw [q1] at q2; cases q2
  · obtain ⟨t, q1⟩ := h1; obtain ⟨u, q2⟩ := h2; rw [q1] at q2; injection q2 with q2 _; rw [q2]
def akKind (prog : Program) (w : World) : PySem.KeyKind prog w AK where
  is := akIs
  hash := akH w
  inj := fun v a b ha hb => akIs_inj ha hb
  byValue := fun k v h => by
    have r := akIs_shape h
    cases k with
    | non => have e : v = .none := r; subst e; rfl
    | int i => obtain ⟨t, e⟩ := r; subst e; rfl
    | str x => obtain ⟨t, e⟩ := r; subst e; rfl
  pyHash := fun {A E s k v Q} hv h => by
    have r := akIs_shape hv
    cases k with
    | non => have e : v = .none := r; subst e; exact wpAny_pyHash_none h
    | int i => obtain ⟨t, e⟩ := r; subst e; exact wpAny_pyHash_int h
    | str x => obtain ⟨t, e⟩ := r; subst e; exact wpAny_pyHash_str h
  eqBool := fun {A E s a b u v Q} hu hv h => by
    have r := akIs_shape hu
    have q := akIs_shape hv
    cases a with
    | non =>
      have e : u = .none := r; subst e
      cases b with
      | non => have e : v = .none := q; subst e; exact SeqAt.EqAt.same .none _ _ _ _ (by simpa using h)
      | int j => obtain ⟨t, e⟩ := q; subst e; exact SeqAt.EqAt.none_int _ _ _ _ _ _ (by simpa using h)
      | str y => obtain ⟨t, e⟩ := q; subst e; exact SeqAt.EqAt.none_str _ _ _ _ _ _ (by simpa using h)
    | int i =>
      obtain ⟨t, e⟩ := r; subst e
      cases b with
      | non => have e : v = .none := q; subst e; exact SeqAt.EqAt.int_none _ _ _ _ _ _ (by simpa using h)
      | int j =>
        obtain ⟨t2, e⟩ := q; subst e
        refine wpAny_eqBool_int ?_
        have : decide (AK.int i = AK.int j) = (i == j) := by
          by_cases z : i = j
          · subst z; simp
          · rw [decide_eq_false (fun q => z (AK.int.inj q))]; exact (beq_eq_false_iff_ne.mpr z).symm
        rw [← this]; exact h
      | str y => obtain ⟨t2, e⟩ := q; subst e; exact SeqAt.EqAt.int_str _ _ _ _ _ _ _ _ (by simpa using h)
    | str x =>
      obtain ⟨t, e⟩ := r; subst e
      cases b with
      | non => have e : v = .none := q; subst e; exact SeqAt.EqAt.str_none _ _ _ _ _ _ (by simpa using h)
      | int j => obtain ⟨t2, e⟩ := q; subst e; exact SeqAt.EqAt.str_int _ _ _ _ _ _ _ _ (by simpa using h)
      | str y =>
        obtain ⟨t2, e⟩ := q; subst e
        refine wpAny_eqBool_str ?_
        have : decide (AK.str x = AK.str y) = decide (x = y) := by
          by_cases z : x = y
          · subst z; simp
          · rw [decide_eq_false (fun q => z (AK.str.inj q)), decide_eq_false z]
        rw [← this]; exact h
  «strs» := fun k x t v h => by
    have r := akIs_shape h
    cases k with
    | non => have e : Value.str x t = .none := r; cases e
    | int i => obtain ⟨t2, e⟩ := r; cases e
    | str y =>
      obtain ⟨t2, e⟩ := r
      injection e with e1 _
      subst e1
      cases v <;> rfl
end Gw

set_option maxHeartbeats 4000000
/-! GxA: data (with dicts and objects), how they stand in the heap (seen, owned). -/
namespace Gw
open PySem PySem.Spec PyProof.Rows L2

/-- data: an atom, a tuple, a list, a list that is only read -/
inductive D where
  | v (x : V)
  | tup (ds : List D)
  | lst (ds : List D)
  | fro (ds : List D)
  | dic (ks vs : List D)
  | obj (c : Str) (ns : List Str) (vs : List D)
  deriving Inhabited
/-- what a program and its top give: constants, the names of the top -/
structure Kb where
  K : PySem.W.Frag
  mg : Str → Option Value
  P : Program
  w : World
def akD (k : AK) : D := .v (akV k)
/-- a dict by plain keys | by tuples of them -/
def exK (P : Program) (w : World) (a : Addr) (E : List (AK × Value)) : HO := .ext fun h => h.DictOf (akKind P w) a E ∧ E.length ≤ sizeLine ∧ (a == sysModules) = false
def exT (P : Program) (w : World) (a : Addr) (E : List (List AK × Addr × Value)) : HO := .ext fun h => (∃ o es ep, h.get? a = some o ∧ o.ExactDict ∧ o.data = .dict es ep ∧ es.toList = E.map (entryOfKey (tupleKind (akKind P w))) ∧ (E.map (·.1)).Nodup) ∧ E.length ≤ sizeLine ∧ (a == sysModules) = false
def DicR (K : Kb) (H : Hp) (a : Addr) (o : HO) (ks : List D) (xs : List V) : Prop :=
  (∃ E : List (AK × Value), o = exK K.P K.w a E ∧ ks = E.map (fun e => akD e.1) ∧ Vals xs (E.map (·.2))) ∨
  ∃ E : List (List AK × Addr × Value), o = exT K.P K.w a E ∧ ks = E.map (fun e => .tup (e.1.map akD)) ∧ Vals xs (E.map (·.2.2)) ∧ ∀ e ∈ E, SqT K.K H e.2.1 (e.1.map akV)

instance : Inhabited V := ⟨.non⟩
abbrev D.i (n : Int) : D := .v (.int n)
abbrev D.b (b : Bool) : D := .v (.bl b)
abbrev D.n : D := .v .non
abbrev D.s (x : Str) : D := .v (.str x)

mutual
def RpV (K : Kb) (H : Hp) : V → D → Prop
  | x, .v y => x = y
  | x, .tup ds => ∃ a xs, x = .ref a ∧ SqT K.K H a xs ∧ RpVs K H xs ds
  | x, .lst ds => ∃ a xs, x = .ref a ∧ H a = some (.lst xs) ∧ RpVs K H xs ds
  | x, .fro ds => ∃ a xs, x = .ref a ∧ SqL K.K H a xs ∧ RpVs K H xs ds
  | x, .dic ks ds => ∃ a o xs, x = .ref a ∧ Rd H a o ∧ DicR K H a o ks xs ∧ RpVs K H xs ds
  | x, .obj c ns ds => ∃ a C dx fs, x = .ref a ∧ K.mg c = some (.ref C) ∧ H a = some (.ins C dx fs) ∧ fs.map (·.1) = ns ∧ RpVs K H (fs.map (·.2)) ds
def RpVs (K : Kb) (H : Hp) : List V → List D → Prop
  | [], [] => True
  | x :: xs, d :: ds => RpV K H x d ∧ RpVs K H xs ds
  | _, _ => False
end
mutual
def RpO (K : Kb) (H : Hp) : V → D → List Addr → Prop
  | x, .v y, f => x = y ∧ f = []
  | x, .tup ds, f => ∃ a xs, x = .ref a ∧ SqT K.K H a xs ∧ RpOs K H xs ds f
  | x, .lst ds, f => ∃ a xs g, x = .ref a ∧ H a = some (.lst xs) ∧ f = a :: g ∧ RpOs K H xs ds g
  | _, .fro _, _ => False
  | x, .dic ks ds, f => ∃ a o xs g, x = .ref a ∧ H a = some o ∧ DicR K H a o ks xs ∧ f = a :: g ∧ RpOs K H xs ds g
  | x, .obj c ns ds, f => ∃ a C dx fs g, x = .ref a ∧ K.mg c = some (.ref C) ∧ H a = some (.ins C dx fs) ∧ fs.map (·.1) = ns ∧ f = a :: g ∧ RpOs K H (fs.map (·.2)) ds g
def RpOs (K : Kb) (H : Hp) : List V → List D → List Addr → Prop
  | [], [], f => f = []
  | x :: xs, d :: ds, f => ∃ f1 f2, f = f1 ++ f2 ∧ RpO K H x d f1 ∧ RpOs K H xs ds f2
  | _, _, _ => False
end
mutual
/-- no list within -/
def imm : D → Bool
  | .v _ => true
  | .tup ds => imms ds
  | .lst _ => false
  | .fro _ => false
  | .dic _ _ => false
  | .obj _ _ _ => false
def imms : List D → Bool
  | [] => true
  | d :: ds => imm d && imms ds
end

/-! ### keeping -/
theorem sqt_same {K : Kb} {H H' : Hp} {a : Addr} {xs : List V} (e : Same H H') (h : SqT K.K H a xs) : SqT K.K H' a xs := by
  rcases h with (h | ⟨o, h⟩) | h
  · exact .inl (.inl (e _ _ h))
  · exact .inl (.inr ⟨o, e _ _ h⟩)
  · exact .inr h
/-- tuples stay -/
def Kt (H H' : Hp) : Prop := ∀ a xs, Rd H a (.tup xs) → Rd H' a (.tup xs)
theorem Kt.refl (H : Hp) : Kt H H := fun _ _ h => h
theorem Kt.trans {H H1 H2 : Hp} (a : Kt H H1) (b : Kt H1 H2) : Kt H H2 := fun x y h => b x y (a x y h)
theorem Kt.of {H H' : Hp} (e : Same H H') : Kt H H' := fun a xs h => by
  rcases h with h | ⟨o, h⟩
  · exact .inl (e _ _ h)
  · exact .inr ⟨o, e _ _ h⟩
theorem sqt_kt {K : Kb} {H H' : Hp} {a : Addr} {xs : List V} (e : Kt H H') (h : SqT K.K H a xs) : SqT K.K H' a xs := by
  rcases h with h | h
  · exact .inl (e _ _ h)
  · exact .inr h
/-- what can be owned: lists, dicts, objects -/
inductive Wr : HO → Prop
  | lst {xs : List V} : Wr (.lst xs)
  | ext {φ : Heap → Prop} : Wr (.ext φ)
  | ins {C dx : Addr} {fs : List (Str × V)} : Wr (.ins C dx fs)
theorem Wr.mut {o : HO} (h : Wr o) : Mut (some o) := by cases h <;> trivial
/-- a thing at p is written -/
theorem Kt.upd {H : Hp} {p : Addr} {u u' : HO} (h : H p = some u) (hw : Wr u) : Kt H (upd H p u') := fun a xs q => by
  rcases q with q | ⟨o, q⟩
  · have e : a ≠ p := fun e => by rw [e, h] at q; cases q; cases hw
    exact .inl (by rw [upd_ne e]; exact q)
  · have e : a ≠ p := fun e => by rw [e, h] at q; cases q; cases hw
    exact .inr ⟨o, by rw [upd_ne e]; exact q⟩
theorem DicR.wr {K : Kb} {H : Hp} {a : Addr} {o : HO} {ks : List D} {xs : List V} (h : DicR K H a o ks xs) : Wr o := by
  rcases h with ⟨E, rfl, _⟩ | ⟨E, rfl, _⟩ <;> exact .ext
theorem DicR.keep {K : Kb} {H H' : Hp} {a : Addr} {o : HO} {ks : List D} {xs : List V} (k : Kt H H') (h : DicR K H a o ks xs) : DicR K H' a o ks xs := by
  rcases h with h | ⟨E, e1, e2, e3, e4⟩
  · exact .inl h
  · exact .inr ⟨E, e1, e2, e3, fun e he => sqt_kt k (e4 e he)⟩
theorem DicR.vlen {K : Kb} {H : Hp} {a : Addr} {o : HO} {ks : List D} {xs : List V} (h : DicR K H a o ks xs) : xs.length = ks.length := by
  rcases h with ⟨E, _, rfl, r⟩ | ⟨E, _, rfl, r, _⟩
  · rw [r.length, List.length_map, List.length_map]
  · rw [r.length, List.length_map, List.length_map]
theorem rdMono {H H' : Hp} {a : Addr} {o : HO} (e : Same H H') (h : Rd H a o) : Rd H' a o := by
  rcases h with h | ⟨u, h⟩
  · exact .inl (e _ _ h)
  · exact .inr ⟨u, e _ _ h⟩
theorem same_new {H : Hp} {p : Addr} {o : HO} (h : H p = none) : Same H (upd H p o) := fun b x e => by
  rw [upd_ne (ne_of_none e h)]
  exact e
/-- what H does not know may change -/
theorem same_mut {H H' : Hp} {p : Addr} {o : HO} (e : Same H H') (h : H p = none) : Same H (upd H' p o) := fun a u ha => by
  rw [upd_ne (ne_of_none ha h)]
  exact e a u ha

section
variable {K : Kb} {H H' : Hp}
mutual
theorem RpV.mono (e : Same H H') : ∀ (d : D) (x : V), RpV K H x d → RpV K H' x d
  | .v _, _, h => by rw [RpV] at h ⊢; exact h
  | .tup ds, _, h => by
    rw [RpV] at h ⊢
    obtain ⟨a, xs, e1, h1, h2⟩ := h
    exact ⟨a, xs, e1, sqt_same e h1, RpVs.mono e ds xs h2⟩
  | .lst ds, _, h => by
    rw [RpV] at h ⊢
    obtain ⟨a, xs, e1, h1, h2⟩ := h
    exact ⟨a, xs, e1, e _ _ h1, RpVs.mono e ds xs h2⟩
  | .fro ds, _, h => by
    rw [RpV] at h ⊢
    obtain ⟨a, xs, e1, h1, h2⟩ := h
    exact ⟨a, xs, e1, e.seq h1, RpVs.mono e ds xs h2⟩
  | .dic ks ds, _, h => by
    rw [RpV] at h ⊢
    obtain ⟨a, o, xs, e1, h1, h2, h3⟩ := h
    exact ⟨a, o, xs, e1, rdMono e h1, h2.keep (Kt.of e), RpVs.mono e ds xs h3⟩
  | .obj c ns ds, _, h => by
    rw [RpV] at h ⊢
    obtain ⟨a, C, dx, fs, e1, h0, h1, h2, h3⟩ := h
    exact ⟨a, C, dx, fs, e1, h0, e _ _ h1, h2, RpVs.mono e ds _ h3⟩
theorem RpVs.mono (e : Same H H') : ∀ (ds : List D) (xs : List V), RpVs K H xs ds → RpVs K H' xs ds
  | [], [], _ => by rw [RpVs]; trivial
  | d :: ds, x :: xs, h => by
    rw [RpVs] at h ⊢
    exact ⟨RpV.mono e d x h.1, RpVs.mono e ds xs h.2⟩
  | [], _ :: _, h => by simp [RpVs] at h
  | _ :: _, [], h => by simp [RpVs] at h
end
mutual
theorem RpO.view : ∀ (d : D) (x : V) (f : List Addr), RpO K H x d f → RpV K H x d
  | .v _, _, _, h => by rw [RpO] at h; rw [RpV]; exact h.1
  | .tup ds, _, _, h => by
    rw [RpO] at h; rw [RpV]
    obtain ⟨a, xs, e1, h1, h2⟩ := h
    exact ⟨a, xs, e1, h1, RpOs.view ds xs _ h2⟩
  | .lst ds, _, _, h => by
    rw [RpO] at h; rw [RpV]
    obtain ⟨a, xs, g, e1, h1, _, h2⟩ := h
    exact ⟨a, xs, e1, h1, RpOs.view ds xs _ h2⟩
  | .fro ds, _, _, h => by rw [RpO] at h; exact h.elim
  | .dic ks ds, _, _, h => by
    rw [RpO] at h; rw [RpV]
    obtain ⟨a, o, xs, g, e1, h1, h2, _, h3⟩ := h
    exact ⟨a, o, xs, e1, .inl h1, h2, RpOs.view ds xs _ h3⟩
  | .obj c ns ds, _, _, h => by
    rw [RpO] at h; rw [RpV]
    obtain ⟨a, C, dx, fs, g, e1, h0, h1, h2, _, h3⟩ := h
    exact ⟨a, C, dx, fs, e1, h0, h1, h2, RpOs.view ds _ _ h3⟩
theorem RpOs.view : ∀ (ds : List D) (xs : List V) (f : List Addr), RpOs K H xs ds f → RpVs K H xs ds
  | [], [], _, _ => by rw [RpVs]; trivial
  | d :: ds, x :: xs, f, h => by
    rw [RpOs] at h; rw [RpVs]
    obtain ⟨f1, f2, _, h1, h2⟩ := h
    exact ⟨RpO.view d x f1 h1, RpOs.view ds xs f2 h2⟩
  | [], _ :: _, _, h => by simp [RpOs] at h
  | _ :: _, [], _, h => by simp [RpOs] at h
end
mutual
theorem RpV.imm : ∀ (d : D) (x : V), Gw.imm d = true → RpV K H x d → RpO K H x d []
  | .v _, _, _, h => by rw [RpV] at h; rw [RpO]; exact ⟨h, rfl⟩
  | .tup ds, _, i, h => by
    rw [RpV] at h; rw [RpO]
    rw [Gw.imm] at i
    obtain ⟨a, xs, e1, h1, h2⟩ := h
    exact ⟨a, xs, e1, h1, RpVs.imms ds xs i h2⟩
  | .lst ds, _, i, h => by rw [Gw.imm] at i; cases i
  | .fro ds, _, i, h => by rw [Gw.imm] at i; cases i
  | .dic ks ds, _, i, h => by rw [Gw.imm] at i; cases i
  | .obj c ns ds, _, i, h => by rw [Gw.imm] at i; cases i
theorem RpVs.imms : ∀ (ds : List D) (xs : List V), Gw.imms ds = true → RpVs K H xs ds → RpOs K H xs ds []
  | [], [], _, _ => by rw [RpOs]
  | d :: ds, x :: xs, i, h => by
    rw [RpVs] at h; rw [RpOs]
    rw [Gw.imms, Bool.and_eq_true] at i
    exact ⟨[], [], rfl, RpV.imm d x i.1 h.1, RpVs.imms ds xs i.2 h.2⟩
  | [], _ :: _, _, h => by simp [RpVs] at h
  | _ :: _, [], _, h => by simp [RpVs] at h
end
mutual
theorem RpO.keep (k : Kt H H') : ∀ (d : D) (x : V) (f : List Addr), (∀ a ∈ f, ∀ o, H a = some o → H' a = some o) → RpO K H x d f → RpO K H' x d f
  | .v _, _, _, _, h => by rw [RpO] at h ⊢; exact h
  | .tup ds, _, f, e, h => by
    rw [RpO] at h ⊢
    obtain ⟨a, xs, e1, h1, h2⟩ := h
    exact ⟨a, xs, e1, sqt_kt k h1, RpOs.keep k ds xs f e h2⟩
  | .lst ds, _, f, e, h => by
    rw [RpO] at h ⊢
    obtain ⟨a, xs, g, e1, h1, e2, h2⟩ := h
    subst e2
    exact ⟨a, xs, g, e1, e a List.mem_cons_self _ h1, rfl, RpOs.keep k ds xs g (fun b hb => e b (List.mem_cons_of_mem _ hb)) h2⟩
  | .fro ds, _, _, _, h => by rw [RpO] at h; exact h.elim
  | .dic ks ds, _, f, e, h => by
    rw [RpO] at h ⊢
    obtain ⟨a, o, xs, g, e1, h1, h2, e2, h3⟩ := h
    subst e2
    exact ⟨a, o, xs, g, e1, e a List.mem_cons_self _ h1, h2.keep k, rfl, RpOs.keep k ds xs g (fun b hb => e b (List.mem_cons_of_mem _ hb)) h3⟩
  | .obj c ns ds, _, f, e, h => by
    rw [RpO] at h ⊢
    obtain ⟨a, C, dx, fs, g, e1, h0, h1, h2, e2, h3⟩ := h
    subst e2
    exact ⟨a, C, dx, fs, g, e1, h0, e a List.mem_cons_self _ h1, h2, rfl, RpOs.keep k ds _ g (fun b hb => e b (List.mem_cons_of_mem _ hb)) h3⟩
theorem RpOs.keep (k : Kt H H') : ∀ (ds : List D) (xs : List V) (f : List Addr), (∀ a ∈ f, ∀ o, H a = some o → H' a = some o) → RpOs K H xs ds f → RpOs K H' xs ds f
  | [], [], _, _, h => by rw [RpOs] at h ⊢; exact h
  | d :: ds, x :: xs, f, e, h => by
    rw [RpOs] at h ⊢
    obtain ⟨f1, f2, e0, h1, h2⟩ := h
    subst e0
    exact ⟨f1, f2, rfl, RpO.keep k d x f1 (fun b hb => e b (List.mem_append_left _ hb)) h1, RpOs.keep k ds xs f2 (fun b hb => e b (List.mem_append_right _ hb)) h2⟩
  | [], _ :: _, _, _, h => by simp [RpOs] at h
  | _ :: _, [], _, _, h => by simp [RpOs] at h
end
mutual
/-- what is owned is a list -/
theorem RpO.dom : ∀ (d : D) (x : V) (f : List Addr), RpO K H x d f → ∀ a ∈ f, ∃ o, H a = some o ∧ Wr o
  | .v _, _, _, h, a, ha => by rw [RpO] at h; rw [h.2] at ha; cases ha
  | .tup ds, _, f, h, a, ha => by
    rw [RpO] at h
    obtain ⟨_, xs, _, _, h2⟩ := h
    exact RpOs.dom ds xs f h2 a ha
  | .lst ds, _, f, h, a, ha => by
    rw [RpO] at h
    obtain ⟨b, xs, g, _, h1, e2, h2⟩ := h
    subst e2
    rcases List.mem_cons.mp ha with e | ha
    · exact ⟨_, by rw [e]; exact h1, .lst⟩
    · exact RpOs.dom ds xs g h2 a ha
  | .fro ds, _, _, h, _, _ => by rw [RpO] at h; exact h.elim
  | .dic ks ds, _, f, h, a, ha => by
    rw [RpO] at h
    obtain ⟨b, o, xs, g, _, h1, h2, e2, h3⟩ := h
    subst e2
    rcases List.mem_cons.mp ha with e | ha
    · exact ⟨_, by rw [e]; exact h1, h2.wr⟩
    · exact RpOs.dom ds xs g h3 a ha
  | .obj c ns ds, _, f, h, a, ha => by
    rw [RpO] at h
    obtain ⟨b, C, dx, fs, g, _, _, h1, _, e2, h3⟩ := h
    subst e2
    rcases List.mem_cons.mp ha with e | ha
    · exact ⟨_, by rw [e]; exact h1, .ins⟩
    · exact RpOs.dom ds _ g h3 a ha
theorem RpOs.dom : ∀ (ds : List D) (xs : List V) (f : List Addr), RpOs K H xs ds f → ∀ a ∈ f, ∃ o, H a = some o ∧ Wr o
  | [], [], _, h, a, ha => by rw [RpOs] at h; rw [h] at ha; cases ha
  | d :: ds, x :: xs, f, h, a, ha => by
    rw [RpOs] at h
    obtain ⟨f1, f2, e0, h1, h2⟩ := h
    subst e0
    rcases List.mem_append.mp ha with ha | ha
    · exact RpO.dom d x f1 h1 a ha
    · exact RpOs.dom ds xs f2 h2 a ha
  | [], _ :: _, _, h, _, _ => by simp [RpOs] at h
  | _ :: _, [], _, h, _, _ => by simp [RpOs] at h
end
theorem RpVs.length : ∀ {ds : List D} {xs : List V}, RpVs K H xs ds → xs.length = ds.length
  | [], [], _ => rfl
  | d :: ds, x :: xs, h => by rw [RpVs] at h; rw [List.length_cons, List.length_cons, RpVs.length h.2]
  | [], _ :: _, h => by simp [RpVs] at h
  | _ :: _, [], h => by simp [RpVs] at h
theorem RpVs.get : ∀ {ds : List D} {xs : List V} {i : Nat} {d : D}, RpVs K H xs ds → ds[i]? = some d → ∃ x, xs[i]? = some x ∧ RpV K H x d
  | [], [], _, _, _, h => by simp at h
  | d :: ds, x :: xs, 0, _, h, e => by
    rw [RpVs] at h
    simp at e
    exact ⟨x, rfl, e ▸ h.1⟩
  | d :: ds, x :: xs, i + 1, _, h, e => by
    rw [RpVs] at h
    simpa using RpVs.get (i := i) h.2 (by simpa using e)
  | [], _ :: _, _, _, h, _ => by simp [RpVs] at h
  | _ :: _, [], _, _, h, _ => by simp [RpVs] at h
theorem RpVs.get' : ∀ {ds : List D} {xs : List V} {i : Nat} {x : V}, RpVs K H xs ds → xs[i]? = some x → ∃ d, ds[i]? = some d ∧ RpV K H x d
  | [], [], _, _, _, h => by simp at h
  | d :: ds, x :: xs, 0, _, h, e => by
    rw [RpVs] at h
    simp at e
    exact ⟨d, rfl, e ▸ h.1⟩
  | d :: ds, x :: xs, i + 1, _, h, e => by
    rw [RpVs] at h
    simpa using RpVs.get' (i := i) h.2 (by simpa using e)
  | [], _ :: _, _, _, h, _ => by simp [RpVs] at h
  | _ :: _, [], _, _, h, _ => by simp [RpVs] at h
theorem RpVs.append : ∀ {ds es : List D} {xs ys : List V}, RpVs K H xs ds → RpVs K H ys es → RpVs K H (xs ++ ys) (ds ++ es)
  | [], _, [], _, _, h => h
  | d :: ds, _, x :: xs, _, h, h' => by
    rw [RpVs] at h
    rw [List.cons_append, List.cons_append, RpVs]
    exact ⟨h.1, RpVs.append h.2 h'⟩
  | [], _, _ :: _, _, h, _ => by simp [RpVs] at h
  | _ :: _, _, [], _, h, _ => by simp [RpVs] at h
theorem RpVs.take : ∀ {ds : List D} {xs : List V} (n : Nat), RpVs K H xs ds → RpVs K H (xs.take n) (ds.take n)
  | _, _, 0, _ => by rw [List.take_zero, List.take_zero, RpVs]; trivial
  | [], [], _ + 1, _ => by rw [List.take_nil, List.take_nil, RpVs]; trivial
  | d :: ds, x :: xs, n + 1, h => by
    rw [RpVs] at h
    rw [List.take_succ_cons, List.take_succ_cons, RpVs]
    exact ⟨h.1, RpVs.take n h.2⟩
  | [], _ :: _, _ + 1, h => by simp [RpVs] at h
  | _ :: _, [], _ + 1, h => by simp [RpVs] at h
theorem RpVs.drop : ∀ {ds : List D} {xs : List V} (n : Nat), RpVs K H xs ds → RpVs K H (xs.drop n) (ds.drop n)
  | _, _, 0, h => h
  | [], [], _ + 1, _ => by rw [List.drop_nil, List.drop_nil, RpVs]; trivial
  | d :: ds, x :: xs, n + 1, h => by
    rw [RpVs] at h
    rw [List.drop_succ_cons, List.drop_succ_cons]
    exact RpVs.drop n h.2
  | [], _ :: _, _ + 1, h => by simp [RpVs] at h
  | _ :: _, [], _ + 1, h => by simp [RpVs] at h
theorem RpVs.rep {x : V} {d : D} (h : RpV K H x d) : ∀ n : Nat, RpVs K H (List.replicate n x) (List.replicate n d)
  | 0 => by rw [List.replicate_zero, List.replicate_zero, RpVs]; trivial
  | n + 1 => by rw [List.replicate_succ, List.replicate_succ, RpVs]; exact ⟨h, RpVs.rep h n⟩
theorem RpVs.reps {xs : List V} {ds : List D} (h : RpVs K H xs ds) : ∀ n : Nat, RpVs K H (List.replicate n xs).flatten (List.replicate n ds).flatten
  | 0 => by rw [List.replicate_zero, List.replicate_zero, List.flatten_nil, List.flatten_nil, RpVs]; trivial
  | n + 1 => by rw [List.replicate_succ, List.replicate_succ, List.flatten_cons, List.flatten_cons]; exact RpVs.append h (RpVs.reps h n)
/-- several owned in a row -/
theorem RpOs.append : ∀ {ds es : List D} {xs ys : List V} {f g : List Addr}, RpOs K H xs ds f → RpOs K H ys es g → RpOs K H (xs ++ ys) (ds ++ es) (f ++ g)
  | [], _, [], _, _, _, h, h' => by
    rw [RpOs] at h
    subst h
    exact h'
  | d :: ds, _, x :: xs, _, _, _, h, h' => by
    rw [RpOs] at h
    obtain ⟨f1, f2, e0, h1, h2⟩ := h
    subst e0
    rw [List.cons_append, List.cons_append, RpOs]
    exact ⟨f1, _, (List.append_assoc ..), h1, RpOs.append h2 h'⟩
  | [], _, _ :: _, _, _, _, h, _ => by simp [RpOs] at h
  | _ :: _, _, [], _, _, _, h, _ => by simp [RpOs] at h
theorem RpOs.one {x : V} {d : D} {f : List Addr} (h : RpO K H x d f) : RpOs K H [x] [d] f := by
  rw [RpOs]
  exact ⟨f, [], (List.append_nil _).symm, h, by rw [RpOs]⟩
theorem RpOs.len {ds : List D} {xs : List V} {f : List Addr} (h : RpOs K H xs ds f) : xs.length = ds.length := (RpOs.view _ _ _ h).length
/-- parted at a place -/
theorem RpOs.split : ∀ {ds : List D} {xs : List V} {f : List Addr} {i : Nat} {d : D}, RpOs K H xs ds f → ds[i]? = some d →
    ∃ fa fi fb x, f = fa ++ (fi ++ fb) ∧ xs[i]? = some x ∧ RpO K H x d fi ∧ RpOs K H (xs.take i) (ds.take i) fa ∧ RpOs K H (xs.drop (i + 1)) (ds.drop (i + 1)) fb
  | [], [], _, _, _, _, h => by simp at h
  | d :: ds, x :: xs, _, 0, _, h, e => by
    rw [RpOs] at h
    obtain ⟨f1, f2, e0, h1, h2⟩ := h
    have e' : d = _ := Option.some.inj e
    subst e'
    exact ⟨[], f1, f2, x, e0, rfl, h1, by rw [List.take_zero, List.take_zero, RpOs], h2⟩
  | d :: ds, x :: xs, _, i + 1, _, h, e => by
    rw [RpOs] at h
    obtain ⟨f1, f2, e0, h1, h2⟩ := h
    subst e0
    obtain ⟨fa, fi, fb, y, e1, e2, h3, h4, h5⟩ := RpOs.split (i := i) h2 (by simpa using e)
    subst e1
    refine ⟨f1 ++ fa, fi, fb, y, (List.append_assoc ..).symm, by simpa using e2, h3, ?_, h5⟩
    rw [List.take_succ_cons, List.take_succ_cons, RpOs]
    exact ⟨f1, fa, rfl, h1, h4⟩
  | [], _ :: _, _, _, _, h, _ => by simp [RpOs] at h
  | _ :: _, [], _, _, _, h, _ => by simp [RpOs] at h
end
end Gw

set_option maxHeartbeats 4000000
/-! GxB: slots, frames, places. -/
namespace Gw
open PySem PySem.Spec PyProof.Rows L2

/-- what is known of a slot: nothing, what it owns, what it only reads, what it was lent and gives back -/
inductive Sl where
  | no
  | own (d : D)
  | fz (d : D)
  | io (d : D)
  deriving Inhabited
abbrev En := List Sl
def Sl.d : Sl → Option D
  | .no => none
  | .own d => some d
  | .fz d => some d
  | .io d => some d
/-- what can be written -/
def Sl.od : Sl → Option D
  | .own d => some d
  | .io d => some d
  | _ => none
def Sl.re : Sl → D → Sl
  | .io _, d => .io d
  | _, d => .own d
/-- what stands beneath a frame: the heap, what the lent slots hold -/
structure Bz where
  hp : Hp
  pin : Nat → Option V
/-- more beneath -/
def Ub (B B' : Bz) : Prop := Same B.hp B'.hp ∧ B'.pin = B.pin
theorem Ub.refl (B : Bz) : Ub B B := ⟨Same.refl _, rfl⟩
theorem Ub.trans {B B1 B2 : Bz} (a : Ub B B1) (b : Ub B1 B2) : Ub B B2 := ⟨a.1.trans b.1, b.2.trans a.2⟩
def lk (e : En) (i : Nat) : Option D := (e[i]?).bind Sl.d

/-- the heap without the addresses O -/
def off (H : Hp) (O : List Addr) : Hp := fun a => if a ∈ O then none else H a
theorem off_in {H : Hp} {O : List Addr} {a : Addr} (h : a ∈ O) : off H O a = none := by unfold off; rw [if_pos h]
theorem off_out {H : Hp} {O : List Addr} {a : Addr} (h : a ∉ O) : off H O a = H a := by unfold off; rw [if_neg h]
theorem off_some {H : Hp} {O : List Addr} {a : Addr} {o : HO} (h : off H O a = some o) : H a = some o ∧ a ∉ O := by
  by_cases ha : a ∈ O
  · rw [off_in ha] at h; cases h
  · rw [off_out ha] at h; exact ⟨h, ha⟩
theorem off_same {H H' : Hp} {O O' : List Addr} (h : ∀ a o, H a = some o → a ∉ O → H' a = some o ∧ a ∉ O') : Same (off H O) (off H' O') := fun a o e => by
  obtain ⟨e1, e2⟩ := off_some e
  obtain ⟨e3, e4⟩ := h a o e1 e2
  rw [off_out e4]; exact e3
theorem off_sub (H : Hp) (O : List Addr) : Same (off H O) H := fun a o e => (off_some e).1

section
variable (K : Kb)
def SlR (Z : Hp) (P : Option V) (H : Hp) : Sl → Option V → List Addr → Prop
  | .no, _, f => f = []
  | .own d, some x, f => RpO K H x d f
  | .fz d, some x, f => RpV K Z x d ∧ f = []
  | .io d, some x, f => P = some x ∧ RpO K H x d f
  | _, none, _ => False
def SlRs (Z : Hp) : (Nat → Option V) → Hp → En → L2.St → List Addr → Prop
  | _, _, [], [], f => f = []
  | P, H, s :: e, x :: σ, f => ∃ f1 f2, f = f1 ++ f2 ∧ SlR K Z (P 0) H s x f1 ∧ SlRs Z (fun i => P (i + 1)) H e σ f2
  | _, _, _, _, _ => False
/-- the frame: its slots, the values in hand, all that is owned apart, B beneath -/
def Fr (B : Bz) (env : En) (tv : List V) (td : List D) (σ : L2.St) (H : Hp) : Prop :=
  ∃ f g, SlRs K (off H (f ++ g)) B.pin H env σ f ∧ RpOs K H tv td g ∧ (f ++ g).Nodup ∧ Same B.hp (off H (f ++ g))
/-- the slots as they are seen -/
def Vw (H : Hp) (env : En) (σ : L2.St) : Prop := env.length = σ.length ∧ ∀ i d, lk env i = some d → ∃ x, σ[i]? = some (some x) ∧ RpV K H x d
end

section
variable {K : Kb} {Z Z' H H' : Hp} {B B' : Bz} {P : Nat → Option V} {P0 : Option V} {env : En} {σ : L2.St} {f g : List Addr} {tv : List V} {td : List D}
theorem SlR.keep {s : Sl} {x : Option V} (k : Kt H H') (z : Same Z Z') (e : ∀ a ∈ f, ∀ o, H a = some o → H' a = some o) (h : SlR K Z P0 H s x f) : SlR K Z' P0 H' s x f := by
  cases s with
  | no => exact h
  | io d =>
    cases x with
    | none => exact h
    | some x => exact ⟨h.1, RpO.keep k d x f e h.2⟩
  | own d =>
    cases x with
    | none => exact h
    | some x => exact RpO.keep k d x f e h
  | fz d =>
    cases x with
    | none => exact h
    | some x => exact ⟨RpV.mono z d x h.1, h.2⟩
theorem SlRs.keep (k : Kt H H') (z : Same Z Z') : ∀ {P : Nat → Option V} {env : En} {σ : L2.St} {f : List Addr}, (∀ a ∈ f, ∀ o, H a = some o → H' a = some o) → SlRs K Z P H env σ f → SlRs K Z' P H' env σ f
  | _, [], [], _, _, h => h
  | _, s :: env, x :: σ, f, e, h => by
    obtain ⟨f1, f2, e0, h1, h2⟩ := h
    subst e0
    exact ⟨f1, f2, rfl, h1.keep k z fun a ha => e a (List.mem_append_left _ ha), SlRs.keep k z (fun a ha => e a (List.mem_append_right _ ha)) h2⟩
  | _, [], _ :: _, _, _, h => h.elim
  | _, _ :: _, [], _, _, h => h.elim
theorem SlR.dom {s : Sl} {x : Option V} (h : SlR K Z P0 H s x f) : ∀ a ∈ f, ∃ o, H a = some o ∧ Wr o := by
  cases s with
  | no => intro a ha; rw [show f = [] from h] at ha; cases ha
  | io d =>
    cases x with
    | none => exact h.elim
    | some x => exact RpO.dom d x f h.2
  | own d =>
    cases x with
    | none => exact h.elim
    | some x => exact RpO.dom d x f h
  | fz d =>
    cases x with
    | none => exact h.elim
    | some x => intro a ha; rw [h.2] at ha; cases ha
theorem SlRs.dom : ∀ {P : Nat → Option V} {env : En} {σ : L2.St} {f : List Addr}, SlRs K Z P H env σ f → ∀ a ∈ f, ∃ o, H a = some o ∧ Wr o
  | _, [], [], f, h, a, ha => by rw [show f = [] from h] at ha; cases ha
  | _, s :: env, x :: σ, f, h, a, ha => by
    obtain ⟨f1, f2, e0, h1, h2⟩ := h
    subst e0
    rcases List.mem_append.mp ha with ha | ha
    · exact h1.dom a ha
    · exact SlRs.dom h2 a ha
  | _, [], _ :: _, _, h, _, _ => h.elim
  | _, _ :: _, [], _, h, _, _ => h.elim
theorem SlRs.len : ∀ {P : Nat → Option V} {env : En} {σ : L2.St} {f : List Addr}, SlRs K Z P H env σ f → env.length = σ.length
  | _, [], [], _, _ => rfl
  | _, _ :: env, _ :: σ, _, ⟨_, _, _, _, h⟩ => by rw [List.length_cons, List.length_cons, SlRs.len h]
  | _, [], _ :: _, _, h => h.elim
  | _, _ :: _, [], _, h => h.elim
/-- one slot, and the others, kept, with another one in its place -/
theorem SlRs.at : ∀ {P : Nat → Option V} {env : En} {σ : L2.St} {f : List Addr} {i : Nat} {s : Sl}, SlRs K Z P H env σ f → env[i]? = some s →
    ∃ fa fi fb x, f = fa ++ (fi ++ fb) ∧ σ[i]? = some x ∧ SlR K Z (P i) H s x fi ∧ ∀ (Z' H' : Hp) (s' : Sl) (x' : Option V) (f' : List Addr), Kt H H' → Same Z Z' → (∀ a ∈ fa ++ fb, ∀ o, H a = some o → H' a = some o) →
      SlR K Z' (P i) H' s' x' f' → SlRs K Z' P H' (env.set i s') (σ.set i x') (fa ++ (f' ++ fb))
  | _, [], [], _, _, _, _, e => by simp at e
  | _, s :: env, x :: σ, f, 0, s0, h, e => by
    obtain ⟨f1, f2, e0, h1, h2⟩ := h
    have e' : s = s0 := Option.some.inj e
    subst e'
    exact ⟨[], f1, f2, x, e0, rfl, h1, fun Z' H' s' x' f' kt z kp h' => ⟨f', f2, rfl, h', SlRs.keep kt z (fun a ha => kp a (by simpa using ha)) h2⟩⟩
  | _, s :: env, x :: σ, f, i + 1, s0, h, e => by
    obtain ⟨f1, f2, e0, h1, h2⟩ := h
    obtain ⟨fa, fi, fb, y, e1, e2, h3, h4⟩ := SlRs.at (i := i) h2 (by simpa using e)
    subst e0; subst e1
    exact ⟨f1 ++ fa, fi, fb, y, (List.append_assoc ..).symm, by simpa using e2, h3, fun Z' H' s' x' f' kt z kp h' => ⟨f1, _, List.append_assoc .., h1.keep kt z (fun a ha => kp a (by simp [ha])),
      h4 Z' H' s' x' f' kt z (fun a ha => kp a (by
        rcases List.mem_append.mp ha with ha | ha
        · simp [ha]
        · simp [ha])) h'⟩⟩
  | _, [], _ :: _, _, _, _, h, _ => h.elim
  | _, _ :: _, [], _, _, _, h, _ => h.elim
theorem set_id {σ : L2.St} {i : Nat} {x : Option V} (e : σ[i]? = some x) : σ.set i x = σ := by
  apply List.ext_getElem?
  intro j
  by_cases hj : j = i
  · subst hj
    have hl : j < σ.length := (List.getElem?_eq_some_iff.mp e).1
    rw [List.getElem?_set_self hl, e]
  · rw [List.getElem?_set_ne (Ne.symm hj)]
theorem SlRs.vw (z : Same Z H) : ∀ {P : Nat → Option V} {env : En} {σ : L2.St} {f : List Addr}, SlRs K Z P H env σ f → Vw K H env σ := fun {P env σ f} h => ⟨h.len, fun i d e => by
  unfold lk at e
  cases hs : env[i]? with
  | none => rw [hs] at e; cases e
  | some s =>
    rw [hs] at e
    have e : s.d = some d := e
    obtain ⟨fa, fi, fb, x, _, e2, h3, _⟩ := h.at hs
    cases s with
    | no => cases e
    | io d' =>
      cases e
      cases x with
      | none => exact h3.elim
      | some x => exact ⟨x, e2, RpO.view _ _ _ h3.2⟩
    | own d' =>
      cases e
      cases x with
      | none => exact h3.elim
      | some x => exact ⟨x, e2, RpO.view _ _ _ h3⟩
    | fz d' =>
      cases e
      cases x with
      | none => exact h3.elim
      | some x => exact ⟨x, e2, RpV.mono z _ _ h3.1⟩⟩
theorem Vw.mono (e : Same H H') (h : Vw K H env σ) : Vw K H' env σ := ⟨h.1, fun i d hd => by
  obtain ⟨x, e1, e2⟩ := h.2 i d hd
  exact ⟨x, e1, RpV.mono e _ _ e2⟩⟩
theorem Fr.vw (h : Fr K B env tv td σ H) : Vw K H env σ := by
  obtain ⟨f, g, h1, _⟩ := h
  exact h1.vw (off_sub _ _)
theorem Fr.len (h : Fr K B env tv td σ H) : env.length = σ.length := by
  obtain ⟨f, g, h1, _⟩ := h
  exact h1.len
/-- the heap has only grown -/
theorem Fr.mono (h : Fr K B env tv td σ H) (e : Same H H') : Fr K B env tv td σ H' := by
  obtain ⟨f, g, h1, h2, h3, h4⟩ := h
  have z : Same (off H (f ++ g)) (off H' (f ++ g)) := off_same fun a o e1 e2 => ⟨e a o e1, e2⟩
  exact ⟨f, g, h1.keep (Kt.of e) z (fun a _ o q => e a o q), RpOs.keep (Kt.of e) _ _ _ (fun a _ o q => e a o q) h2, h3, h4.trans z⟩
theorem nodup_mid {α : Type} {a b c : List α} (h : (a ++ (b ++ c)).Nodup) : (a ++ c).Nodup :=
  h.sublist (List.Sublist.append (List.Sublist.refl _) (List.sublist_append_right _ _))
/-- something new is taken in hand -/
theorem Fr.push {x : V} {d : D} {f' : List Addr} (h : Fr K B env tv td σ H) (e : Same H H') (r : RpO K H' x d f') (n : f'.Nodup) (nw : ∀ a ∈ f', H a = none) : Fr K B env (x :: tv) (d :: td) σ H' := by
  obtain ⟨f, g, h1, h2, h3, h4⟩ := h
  have out : ∀ a o, H a = some o → a ∉ f' := fun a o q hf => by rw [nw a hf] at q; cases q
  have z : Same (off H (f ++ g)) (off H' (f ++ (f' ++ g))) := off_same fun a o e1 e2 => ⟨e a o e1, fun hm => by
    simp only [List.mem_append] at hm e2
    rcases hm with hm | hm | hm
    · exact e2 (.inl hm)
    · exact out a o e1 hm
    · exact e2 (.inr hm)⟩
  have r2 := RpOs.keep (H' := H') (Kt.of e) _ _ _ (fun a _ o q => e a o q) h2
  refine ⟨f, f' ++ g, h1.keep (Kt.of e) z (fun a _ o q => e a o q), by rw [RpOs]; exact ⟨f', g, rfl, r, r2⟩, ?_, h4.trans z⟩
  have d1 : ∀ a ∈ f, a ∉ f' := fun a ha => let ⟨_, q, _⟩ := h1.dom a ha; out a _ q
  have d2 : ∀ a ∈ g, a ∉ f' := fun a ha => let ⟨_, q, _⟩ := RpOs.dom _ _ _ h2 a ha; out a _ q
  rw [List.nodup_append] at h3 ⊢
  obtain ⟨n1, n2, n3⟩ := h3
  refine ⟨n1, ?_, fun a ha b hb => ?_⟩
  · rw [List.nodup_append]
    exact ⟨n, n2, fun a ha b hb q => d2 b hb (q ▸ ha)⟩
  · rcases List.mem_append.mp hb with hb | hb
    · exact fun q => d1 a ha (q ▸ hb)
    · exact n3 a ha b hb
/-- what is in hand is put into a slot -/
theorem Fr.store {x : V} {d : D} {i : Nat} (h : Fr K B env (x :: tv) (d :: td) σ H) (hi : i < env.length) : Fr K B (env.set i (.own d)) tv td (σ.set i (some x)) H := by
  obtain ⟨f, g, h1, h2, h3, h4⟩ := h
  rw [RpOs] at h2
  obtain ⟨g1, g2, e0, r, r2⟩ := h2
  subst e0
  obtain ⟨fa, fi, fb, y, e1, _, _, put⟩ := h1.at (List.getElem?_eq_getElem hi)
  subst e1
  have sub : ∀ a, a ∈ (fa ++ (g1 ++ fb)) ++ g2 → a ∈ fa ++ (fi ++ fb) ++ (g1 ++ g2) := fun a ha => by
    simp only [List.mem_append] at ha ⊢
    rcases ha with (ha | ha | ha) | ha
    · exact .inl (.inl ha)
    · exact .inr (.inl ha)
    · exact .inl (.inr (.inr ha))
    · exact .inr (.inr ha)
  have z : Same (off H (fa ++ (fi ++ fb) ++ (g1 ++ g2))) (off H ((fa ++ (g1 ++ fb)) ++ g2)) := off_same fun a o e1 e2 => ⟨e1, fun hm => e2 (sub a hm)⟩
  refine ⟨fa ++ (g1 ++ fb), g2, put _ H (.own d) (some x) g1 (Kt.refl _) z (fun _ _ _ q => q) r, r2, ?_, h4.trans z⟩
  have p : ((fa ++ (fi ++ fb)) ++ (g1 ++ g2)).Nodup := h3
  have p2 : ((fa ++ fb) ++ (g1 ++ g2)).Nodup := p.sublist (List.Sublist.append (List.Sublist.append (List.Sublist.refl _) (List.sublist_append_right _ _)) (List.Sublist.refl _))
  refine List.Perm.nodup ?_ p2
  have q1 : List.Perm ((fa ++ fb) ++ (g1 ++ g2)) (fa ++ ((fb ++ g1) ++ g2)) := by simp [List.append_assoc]
  refine q1.trans ?_
  rw [List.append_assoc fa]
  exact List.Perm.append_left fa (List.Perm.append_right g2 List.perm_append_comm)
/-- what is in hand is let go -/
theorem Fr.drop {x : V} {d : D} (h : Fr K B env (x :: tv) (d :: td) σ H) : Fr K B env tv td σ H := by
  obtain ⟨f, g, h1, h2, h3, h4⟩ := h
  rw [RpOs] at h2
  obtain ⟨g1, g2, e0, r, r2⟩ := h2
  subst e0
  have z : Same (off H (f ++ (g1 ++ g2))) (off H (f ++ g2)) := off_same fun a o e1 e2 => ⟨e1, fun hm => e2 (by
    simp only [List.mem_append] at hm ⊢
    rcases hm with hm | hm
    · exact .inl hm
    · exact .inr (.inr hm))⟩
  exact ⟨f, g2, h1.keep (Kt.refl _) z (fun _ _ _ q => q), r2, nodup_mid h3, h4.trans z⟩
theorem Fr.top {x : V} {d : D} (h : Fr K B env (x :: tv) (d :: td) σ H) : RpV K H x d := by
  obtain ⟨f, g, h1, h2, h3, h4⟩ := h
  rw [RpOs] at h2
  obtain ⟨g1, g2, _, r, _⟩ := h2
  exact RpO.view _ _ _ r
/-- a slot is forgotten -/
theorem Fr.kill (h : Fr K B env tv td σ H) (i : Nat) : Fr K B (env.set i .no) tv td σ H := by
  by_cases hi : i < env.length
  · obtain ⟨f, g, h1, h2, h3, h4⟩ := h
    obtain ⟨fa, fi, fb, y, e1, e2, _, put⟩ := h1.at (List.getElem?_eq_getElem hi)
    subst e1
    have z : Same (off H (fa ++ (fi ++ fb) ++ g)) (off H ((fa ++ ([] ++ fb)) ++ g)) := off_same fun a o e1 e2 => ⟨e1, fun hm => e2 (by
      simp only [List.mem_append, List.nil_append] at hm ⊢
      rcases hm with (hm | hm) | hm
      · exact .inl (.inl hm)
      · exact .inl (.inr (.inr hm))
      · exact .inr hm)⟩
    have q := put _ H .no y [] (Kt.refl _) z (fun _ _ _ q => q) rfl
    rw [set_id e2] at q
    refine ⟨fa ++ ([] ++ fb), g, q, h2, ?_, h4.trans z⟩
    exact h3.sublist (List.Sublist.append (List.Sublist.append (List.Sublist.refl _) (List.sublist_append_right _ _)) (List.Sublist.refl _))
  · rw [List.set_eq_of_length_le (by omega)]
    exact h
def kills : List Nat → En → En
  | [], e => e
  | i :: is, e => kills is (e.set i .no)
theorem Fr.kills (is : List Nat) : ∀ {env : En}, Fr K B env tv td σ H → Fr K B (Gw.kills is env) tv td σ H := by
  induction is with
  | nil => exact fun h => h
  | cons i is ih => exact fun h => ih (h.kill i)
/-- owned, then only read: seen in the rest of the heap -/
theorem sqt_off {O : List Addr} (ol : ∀ a ∈ O, ∃ o, H a = some o ∧ Wr o) {a : Addr} {xs : List V} (h : SqT K.K H a xs) : SqT K.K (off H O) a xs := by
  have no : ∀ {u}, H a = some u → ¬ Wr u → a ∉ O := fun {u} e ne hm => by
    obtain ⟨o, q, w⟩ := ol a hm
    rw [e] at q
    cases q
    exact ne w
  rcases h with (h | ⟨o, h⟩) | h
  · exact .inl (.inl (by rw [off_out (no h fun w => nomatch w)]; exact h))
  · exact .inl (.inr ⟨o, by rw [off_out (no h fun w => nomatch w)]; exact h⟩)
  · exact .inr h
theorem DicR.off {O : List Addr} {a : Addr} {o : HO} {ks : List D} {xs : List V} (ol : ∀ a ∈ O, ∃ o, H a = some o ∧ Wr o) (h : DicR K H a o ks xs) : DicR K (off H O) a o ks xs := by
  rcases h with h | ⟨E, e1, e2, e3, e4⟩
  · exact .inl h
  · exact .inr ⟨E, e1, e2, e3, fun e he => sqt_off ol (e4 e he)⟩
mutual
theorem RpO.seen {O : List Addr} (ol : ∀ a ∈ O, ∃ o, H a = some o ∧ Wr o) : ∀ (d : D) (x : V) (f : List Addr), (∀ a ∈ f, a ∉ O) → RpO K H x d f → RpV K (off H O) x d
  | .v y, x, f, _, h => by rw [RpO] at h; rw [RpV]; exact h.1
  | .tup ds, x, f, hf, h => by
    rw [RpO] at h; rw [RpV]
    obtain ⟨a, xs, e1, h1, h2⟩ := h
    exact ⟨a, xs, e1, sqt_off ol h1, RpOs.seen ol ds xs f hf h2⟩
  | .lst ds, x, f, hf, h => by
    rw [RpO] at h; rw [RpV]
    obtain ⟨a, xs, g, e1, h1, e2, h2⟩ := h
    subst e2
    exact ⟨a, xs, e1, by rw [off_out (hf a List.mem_cons_self)]; exact h1, RpOs.seen ol ds xs g (fun b hb => hf b (List.mem_cons_of_mem _ hb)) h2⟩
  | .fro ds, x, f, hf, h => by rw [RpO] at h; exact h.elim
  | .dic ks ds, x, f, hf, h => by
    rw [RpO] at h; rw [RpV]
    obtain ⟨a, o, xs, g, e1, h1, h2, e2, h3⟩ := h
    subst e2
    exact ⟨a, o, xs, e1, .inl (by rw [off_out (hf a List.mem_cons_self)]; exact h1), h2.off ol, RpOs.seen ol ds xs g (fun b hb => hf b (List.mem_cons_of_mem _ hb)) h3⟩
  | .obj c ns ds, x, f, hf, h => by
    rw [RpO] at h; rw [RpV]
    obtain ⟨a, C, dx, fs, g, e1, h0, h1, h2, e2, h3⟩ := h
    subst e2
    exact ⟨a, C, dx, fs, e1, h0, by rw [off_out (hf a List.mem_cons_self)]; exact h1, h2, RpOs.seen ol ds _ g (fun b hb => hf b (List.mem_cons_of_mem _ hb)) h3⟩
theorem RpOs.seen {O : List Addr} (ol : ∀ a ∈ O, ∃ o, H a = some o ∧ Wr o) : ∀ (ds : List D) (xs : List V) (f : List Addr), (∀ a ∈ f, a ∉ O) → RpOs K H xs ds f → RpVs K (off H O) xs ds
  | [], [], _, _, _ => by rw [RpVs]; trivial
  | d :: ds, x :: xs, f, hf, h => by
    rw [RpOs] at h; rw [RpVs]
    obtain ⟨f1, f2, e0, h1, h2⟩ := h
    subst e0
    exact ⟨RpO.seen ol d x f1 (fun a ha => hf a (List.mem_append_left _ ha)) h1, RpOs.seen ol ds xs f2 (fun a ha => hf a (List.mem_append_right _ ha)) h2⟩
  | [], _ :: _, _, _, h => by simp [RpOs] at h
  | _ :: _, [], _, _, h => by simp [RpOs] at h
end
/-- a slot's list is only read from now on -/
def frz1 (e : En) (i : Nat) : En := match e[i]? with
  | some (.own d) => e.set i (.fz d)
  | _ => e
theorem Fr.frz (h : Fr K B env tv td σ H) (i : Nat) : Fr K B (frz1 env i) tv td σ H := by
  unfold frz1
  cases hs : env[i]? with
  | none => exact h
  | some s =>
    cases s with
    | no => exact h
    | fz d => exact h
    | io d => exact h
    | own d =>
      obtain ⟨f, g, h1, h2, h3, h4⟩ := h
      obtain ⟨fa, fi, fb, y, e1, e2, h5, put⟩ := h1.at hs
      subst e1
      cases y with
      | none => exact h5.elim
      | some x =>
        have h5 : RpO K H x d fi := h5
        have z : Same (off H (fa ++ (fi ++ fb) ++ g)) (off H ((fa ++ ([] ++ fb)) ++ g)) := off_same fun a o e1 e2 => ⟨e1, fun hm => e2 (by
          simp only [List.mem_append, List.nil_append] at hm ⊢
          rcases hm with (hm | hm) | hm
          · exact .inl (.inl hm)
          · exact .inl (.inr (.inr hm))
          · exact .inr hm)⟩
        have n2 : ((fa ++ ([] ++ fb)) ++ g).Nodup := h3.sublist (List.Sublist.append (List.Sublist.append (List.Sublist.refl _) (List.sublist_append_right _ _)) (List.Sublist.refl _))
        have ap : ∀ a ∈ fi, a ∉ (fa ++ ([] ++ fb)) ++ g := fun a ha hm => by
          rw [List.nodup_append, List.nodup_append, List.nodup_append] at h3
          obtain ⟨⟨_, ⟨_, _, q1⟩, q2⟩, _, q3⟩ := h3
          simp only [List.mem_append, List.nil_append] at hm q2 q3
          rcases hm with (hm | hm) | hm
          · exact q2 a hm a (.inl ha) rfl
          · exact q1 a ha a hm rfl
          · exact q3 a (.inr (.inl ha)) a hm rfl
        have ol : ∀ a ∈ (fa ++ ([] ++ fb)) ++ g, ∃ o, H a = some o ∧ Wr o := fun a ha => by
          simp only [List.mem_append, List.nil_append] at ha
          rcases ha with (ha | ha) | ha
          · exact h1.dom a (List.mem_append_left _ ha)
          · exact h1.dom a (List.mem_append_right _ (List.mem_append_right _ ha))
          · exact RpOs.dom _ _ _ h2 a ha
        have w := RpO.seen (K := K) ol d x fi ap h5
        have q := put _ H (.fz d) (some x) [] (Kt.refl _) z (fun _ _ _ q => q) ⟨w, rfl⟩
        rw [set_id e2] at q
        exact ⟨fa ++ ([] ++ fb), g, q, h2, n2, h4.trans z⟩
/-- a slot's value is taken in hand -/
theorem Fr.take {d : D} {i : Nat} (h : Fr K B env tv td σ H) (hs : env[i]? = some (.own d)) : ∃ x, σ[i]? = some (some x) ∧ Fr K B (env.set i .no) (x :: tv) (d :: td) σ H := by
  obtain ⟨f, g, h1, h2, h3, h4⟩ := h
  obtain ⟨fa, fi, fb, y, e1, e2, h5, put⟩ := h1.at hs
  subst e1
  have hi : i < env.length := (List.getElem?_eq_some_iff.mp hs).1
  cases y with
  | none => exact h5.elim
  | some x =>
    have h5 : RpO K H x d fi := h5
    have sub : ∀ a, a ∈ (fa ++ ([] ++ fb)) ++ (fi ++ g) → a ∈ fa ++ (fi ++ fb) ++ g := fun a hm => by
      simp only [List.mem_append, List.nil_append] at hm ⊢
      rcases hm with (hm | hm) | (hm | hm)
      · exact .inl (.inl hm)
      · exact .inl (.inr (.inr hm))
      · exact .inl (.inr (.inl hm))
      · exact .inr hm
    have z : Same (off H (fa ++ (fi ++ fb) ++ g)) (off H ((fa ++ ([] ++ fb)) ++ (fi ++ g))) := off_same fun a o e1 e2 => ⟨e1, fun hm => e2 (sub a hm)⟩
    have q := put _ H .no (some x) [] (Kt.refl _) z (fun _ _ _ q => q) rfl
    rw [set_id e2] at q
    refine ⟨x, e2, fa ++ ([] ++ fb), fi ++ g, q, by rw [RpOs]; exact ⟨fi, g, rfl, h5, h2⟩, ?_, h4.trans z⟩
    refine List.Perm.nodup ?_ h3
    have : List.Perm (fa ++ (fi ++ fb) ++ g) (fa ++ ((fi ++ fb) ++ g)) := by rw [List.append_assoc]
    refine this.trans ?_
    rw [List.append_assoc fa]
    refine List.Perm.append_left fa ?_
    rw [List.nil_append, ← List.append_assoc fb]
    exact List.Perm.append_right g List.perm_append_comm

/-! ### a place within what a slot owns -/
/-- a step of a way to a place: a list's item, an object's field -/
inductive Pt where
  | ix (k : Nat)
  | fd (f : Str)
def fIx : List Str → Str → Option Nat
  | [], _ => none
  | n :: ns, f => if n = f then some 0 else (fIx ns f).map (· + 1)
def D.at : D → List Pt → Option D
  | d, [] => some d
  | .lst ds, .ix k :: π => (ds[k]?).bind fun d => d.at π
  | .obj _ ns ds, .fd f :: π => (fIx ns f).bind fun k => (ds[k]?).bind fun d => d.at π
  | _, _ :: _ => none
def D.put : D → List Pt → D → D
  | _, [], e => e
  | .lst ds, .ix k :: π, e => .lst (ds.modify k fun d => d.put π e)
  | .obj c ns ds, .fd f :: π, e => (match fIx ns f with
    | some k => .obj c ns (ds.modify k fun d => d.put π e)
    | none => .obj c ns ds)
  | d, _ :: _, _ => d
theorem at_nil {d : D} : d.at [] = some d := by unfold D.at; rfl
theorem put_nil {d e : D} : d.put [] e = e := by unfold D.put; rfl
theorem put_fd {c : Str} {ns : List Str} {ds : List D} {f : Str} {π : List Pt} {e : D} {k : Nat} (hk : fIx ns f = some k) : (D.obj c ns ds).put (.fd f :: π) e = .obj c ns (ds.modify k fun d => d.put π e) := by
  rw [D.put, hk]
/-- the value that stands at a place -/
def NodeV (K : Kb) (H : Hp) : V → D → List Pt → V → Prop
  | x, _, [], y => y = x
  | x, .lst ds, .ix k :: π, y => ∃ a xs x' d', x = .ref a ∧ H a = some (.lst xs) ∧ xs[k]? = some x' ∧ ds[k]? = some d' ∧ NodeV K H x' d' π y
  | x, .obj _ ns ds, .fd f :: π, y => ∃ a C dx fs k x' d', x = .ref a ∧ H a = some (.ins C dx fs) ∧ fIx ns f = some k ∧ (fs.map (·.2))[k]? = some x' ∧ ds[k]? = some d' ∧ NodeV K H x' d' π y
  | _, _, _ :: _, _ => False
theorem nodeV_nil {x : V} {d : D} : NodeV K H x d [] x := by unfold NodeV; rfl
theorem nodeV_eq {x y : V} {d : D} (h : NodeV K H x d [] y) : y = x := by unfold NodeV at h; exact h
theorem NodeV.mono (e : Same H H') : ∀ {π : List Pt} {x : V} {d : D} {y : V}, NodeV K H x d π y → NodeV K H' x d π y
  | [], _, _, _, h => by rw [nodeV_eq h]; exact nodeV_nil
  | .ix k :: π, x, .lst ds, y, ⟨a, xs, x', d', e1, h1, h2, h3, h4⟩ => ⟨a, xs, x', d', e1, e _ _ h1, h2, h3, NodeV.mono e h4⟩
  | .fd f :: π, x, .obj c ns ds, y, ⟨a, C, dx, fs, k, x', d', e1, h1, h2, h3, h4, h5⟩ => ⟨a, C, dx, fs, k, x', d', e1, e _ _ h1, h2, h3, h4, NodeV.mono e h5⟩
  | .fd _ :: _, _, .lst _, _, h => h.elim
  | .ix _ :: _, _, .obj _ _ _, _, h => h.elim
  | p :: _, _, .v _, _, h => by cases p <;> exact False.elim h
  | p :: _, _, .tup _, _, h => by cases p <;> exact False.elim h
  | p :: _, _, .fro _, _, h => by cases p <;> exact False.elim h
  | p :: _, _, .dic _ _, _, h => by cases p <;> exact False.elim h
theorem modify_split {α : Type} {l : List α} {k : Nat} {a : α} (F : α → α) (h : l[k]? = some a) : l.modify k F = l.take k ++ (F a :: l.drop (k + 1)) := by
  obtain ⟨hk, e⟩ := List.getElem?_eq_some_iff.mp h
  rw [List.modify_eq_take_cons_drop hk, e]
/-- one of several owned in a row is put otherwise -/
theorem RpOs.mod {ds : List D} {xs : List V} {g : List Addr} {k : Nat} {d' : D} {x' : V} (h6 : RpOs K H xs ds g) (h2 : xs[k]? = some x') (h3 : ds[k]? = some d') :
    ∃ ga gi gb, g = ga ++ (gi ++ gb) ∧ RpO K H x' d' gi ∧ ∀ (H' : Hp) (e' : D) (g' : List Addr), Kt H H' → (∀ a ∈ ga ++ gb, ∀ o, H a = some o → H' a = some o) → RpO K H' x' e' g' → ∀ F : D → D, F d' = e' → RpOs K H' xs (ds.modify k F) (ga ++ (g' ++ gb)) := by
  obtain ⟨ga, gi, gb, z, eg, ez, r1, r2, r3⟩ := RpOs.split h6 h3
  rw [h2] at ez; cases ez
  refine ⟨ga, gi, gb, eg, r1, fun H' e' g' kt kp r F hF => ?_⟩
  rw [modify_split _ h3, hF]
  have ex : xs.take k ++ (x' :: xs.drop (k + 1)) = xs := by
    obtain ⟨hk, ek⟩ := List.getElem?_eq_some_iff.mp h2
    rw [← ek, ← List.drop_eq_getElem_cons hk, List.take_append_drop]
  rw [← ex]
  refine RpOs.append (RpOs.keep kt _ _ _ (fun b hb o e => kp b (List.mem_append_left _ hb) o e) r2) ?_
  rw [RpOs]
  exact ⟨_, gb, rfl, r, RpOs.keep kt _ _ _ (fun b hb o e => kp b (List.mem_append_right _ hb) o e) r3⟩
/-- parted at the place: what is owned there, and what stands when another one is put there -/
theorem RpO.node : ∀ {π : List Pt} {d : D} {x y : V} {f : List Addr} {e : D}, RpO K H x d f → NodeV K H x d π y → d.at π = some e →
    ∃ fa fe fb, f = fa ++ (fe ++ fb) ∧ RpO K H y e fe ∧ ∀ (H' : Hp) (e' : D) (fe' : List Addr), Kt H H' → (∀ a ∈ fa ++ fb, ∀ o, H a = some o → H' a = some o) → RpO K H' y e' fe' → RpO K H' x (d.put π e') (fa ++ (fe' ++ fb))
  | [], d, x, y, f, e, h, hn, he => by
    have ey := nodeV_eq hn
    subst ey
    rw [at_nil] at he
    cases he
    refine ⟨[], f, [], by simp, h, fun H' e' fe' _ _ r => ?_⟩
    rw [put_nil]
    simpa using r
  | .ix k :: π, .lst ds, x, y, f, e, h, hn, he => by
    obtain ⟨a, xs, x', d', e1, h1, h2, h3, h4⟩ := hn
    subst e1
    rw [RpO] at h
    obtain ⟨a2, xs2, g, ea, h5, ef, h6⟩ := h
    cases ea
    rw [h1] at h5; cases h5
    subst ef
    obtain ⟨ga, gi, gb, eg, r1, mod⟩ := RpOs.mod h6 h2 h3
    subst eg
    have he' : d'.at π = some e := by
      have : (ds[k]?).bind (fun d => d.at π) = some e := he
      rw [h3] at this; exact this
    obtain ⟨fa, fe, fb, e7, r7, put⟩ := RpO.node r1 h4 he'
    subst e7
    refine ⟨a :: (ga ++ fa), fe, fb ++ gb, by simp [List.append_assoc], r7, fun H' e' fe' kt kp r => ?_⟩
    have q := put H' e' fe' kt (fun b hb o e => kp b (by
      simp only [List.mem_append, List.mem_cons] at hb ⊢
      rcases hb with hb | hb
      · exact .inl (.inr (.inr hb))
      · exact .inr (.inl hb)) o e) r
    show RpO K H' (.ref a) (.lst (ds.modify k fun d => d.put π e')) _
    rw [RpO]
    refine ⟨a, xs, ga ++ ((fa ++ (fe' ++ fb)) ++ gb), rfl, kp a (by simp) _ h1, by simp [List.append_assoc], ?_⟩
    exact mod H' _ _ kt (fun b hb o e => kp b (by
      simp only [List.mem_append, List.mem_cons] at hb ⊢
      rcases hb with hb | hb
      · exact .inl (.inr (.inl hb))
      · exact .inr (.inr hb)) o e) q _ rfl
  | .fd fl :: π, .obj c ns ds, x, y, f, e, h, hn, he => by
    obtain ⟨a, C, dx, fs, k, x', d', e1, h1, hk, h2, h3, h4⟩ := hn
    subst e1
    rw [RpO] at h
    obtain ⟨a2, C2, dx2, fs2, g, ea, h0, h5, en, ef, h6⟩ := h
    cases ea
    rw [h1] at h5; cases h5
    subst ef
    obtain ⟨ga, gi, gb, eg, r1, mod⟩ := RpOs.mod h6 h2 h3
    subst eg
    have he' : d'.at π = some e := by
      have : (fIx ns fl).bind (fun k => (ds[k]?).bind fun d => d.at π) = some e := he
      rw [hk] at this
      have : (ds[k]?).bind (fun d => d.at π) = some e := this
      rw [h3] at this; exact this
    obtain ⟨fa, fe, fb, e7, r7, put⟩ := RpO.node r1 h4 he'
    subst e7
    refine ⟨a :: (ga ++ fa), fe, fb ++ gb, by simp [List.append_assoc], r7, fun H' e' fe' kt kp r => ?_⟩
    have q := put H' e' fe' kt (fun b hb o e => kp b (by
      simp only [List.mem_append, List.mem_cons] at hb ⊢
      rcases hb with hb | hb
      · exact .inl (.inr (.inr hb))
      · exact .inr (.inl hb)) o e) r
    have ep : (D.obj c ns ds).put (.fd fl :: π) e' = .obj c ns (ds.modify k fun d => d.put π e') := put_fd hk
    rw [ep, RpO]
    refine ⟨a, C, dx, fs, ga ++ ((fa ++ (fe' ++ fb)) ++ gb), rfl, h0, kp a (by simp) _ h1, en, by simp [List.append_assoc], ?_⟩
    exact mod H' _ _ kt (fun b hb o e => kp b (by
      simp only [List.mem_append, List.mem_cons] at hb ⊢
      rcases hb with hb | hb
      · exact .inl (.inr (.inl hb))
      · exact .inr (.inr hb)) o e) q _ rfl
  | .fd _ :: _, .lst _, _, _, _, _, _, hn, _ => hn.elim
  | .ix _ :: _, .obj _ _ _, _, _, _, _, _, hn, _ => hn.elim
  | p :: _, .v _, _, _, _, _, _, hn, _ => by cases p <;> exact False.elim hn
  | p :: _, .tup _, _, _, _, _, _, hn, _ => by cases p <;> exact False.elim hn
  | p :: _, .fro _, _, _, _, _, _, hn, _ => by cases p <;> exact False.elim hn
  | p :: _, .dic _ _, _, _, _, _, _, hn, _ => by cases p <;> exact False.elim hn
theorem SlR.re {s : Sl} {d : D} {x : V} {f : List Addr} (h : SlR K Z P0 H s (some x) f) (ho : s.od = some d) : RpO K H x d f ∧ ∀ (Z' H' : Hp) (d' : D) (f' : List Addr), RpO K H' x d' f' → SlR K Z' P0 H' (s.re d') (some x) f' := by
  cases s with
  | no => cases ho
  | fz d => cases ho
  | own d2 => cases ho; exact ⟨h, fun _ _ _ _ r => r⟩
  | io d2 => cases ho; exact ⟨h.2, fun _ _ _ _ r => ⟨h.1, r⟩⟩
/-- the counts of what is apart -/
theorem Fr.lend {i : Nat} {s : Sl} {d e : D} {π : List Pt} {x y : V} (h : Fr K B env tv td σ H) (hs : env[i]? = some s) (ho : s.od = some d) (hx : σ[i]? = some (some x)) (hn : NodeV K H x d π y) (hd : d.at π = some e) :
    ∃ fe g, RpO K H y e fe ∧ RpOs K H tv td g ∧ (fe ++ g).Nodup ∧
      ∀ (H' : Hp) (e' : D) (tv' : List V) (td' : List D) (fe' g' : List Addr), Kt H H' → Same (off H (fe ++ g)) (off H' (fe' ++ g')) → RpO K H' y e' fe' → RpOs K H' tv' td' g' → (fe' ++ g').Nodup → (∀ a ∈ fe' ++ g', a ∈ fe ++ g ∨ H a = none) →
        Fr K B (env.set i (s.re (d.put π e'))) tv' td' σ H' := by
  obtain ⟨f, g, h1, h2, h3, h4⟩ := h
  obtain ⟨fa, fi, fb, y0, e1, e2, h5, put⟩ := h1.at hs
  subst e1
  rw [hx] at e2; cases e2
  obtain ⟨h5, re⟩ := h5.re ho
  obtain ⟨ga, ge, gb, e6, r6, put6⟩ := RpO.node h5 hn hd
  subst e6
  have n2 : (ge ++ g).Nodup := by
    refine h3.sublist (List.Sublist.append ?_ (List.Sublist.refl _))
    refine List.Sublist.trans ?_ (List.sublist_append_right _ _)
    refine List.Sublist.trans ?_ (List.sublist_append_left _ _)
    refine List.Sublist.trans ?_ (List.sublist_append_right _ _)
    exact List.sublist_append_left _ _
  refine ⟨ge, g, r6, h2, n2, fun H' e' tv' td' fe' g' kt sm r1 r2 n3 sub => ?_⟩
  -- the others stand apart
  have dom : ∀ a ∈ fa ++ (ga ++ (gb ++ fb)), ∃ o, H a = some o := fun a ha => by
    have := h1.dom a (by
      simp only [List.mem_append] at ha ⊢
      rcases ha with ha | ha | ha | ha
      · exact .inl ha
      · exact .inr (.inl (.inl ha))
      · exact .inr (.inl (.inr (.inr ha)))
      · exact .inr (.inr ha))
    exact ⟨this.choose, this.choose_spec.1⟩
  have p1 : ((fa ++ (ga ++ (gb ++ fb))) ++ (ge ++ g)).Nodup := by
    refine List.Perm.nodup ?_ h3
    refine List.perm_iff_count.mpr fun z => ?_
    simp only [List.count_append]
    omega
  have apart : ∀ a ∈ fa ++ (ga ++ (gb ++ fb)), a ∉ ge ++ g := fun a ha hm => (List.nodup_append.mp p1).2.2 a ha a hm rfl
  have apart' : ∀ a ∈ fa ++ (ga ++ (gb ++ fb)), a ∉ fe' ++ g' := fun a ha hm => by
    rcases sub a hm with q | q
    · exact apart a ha q
    · obtain ⟨o, z⟩ := dom a ha
      rw [q] at z; cases z
  have kp : ∀ a ∈ fa ++ (ga ++ (gb ++ fb)), ∀ o, H a = some o → H' a = some o := fun a ha o e => (off_some (sm a o (by rw [off_out (apart a ha)]; exact e))).1
  have whole := put6 H' e' fe' kt (fun a ha o e => kp a (by
    simp only [List.mem_append] at ha ⊢
    rcases ha with ha | ha
    · exact .inr (.inl ha)
    · exact .inr (.inr (.inl ha))) o e) r1
  have z : Same (off H ((fa ++ ((ga ++ (ge ++ gb)) ++ fb)) ++ g)) (off H' ((fa ++ ((ga ++ (fe' ++ gb)) ++ fb)) ++ g')) := off_same fun b o e1 e2 => by
    have nb : b ∉ ge ++ g := fun hm => e2 (by
      simp only [List.mem_append] at hm ⊢
      rcases hm with hm | hm
      · exact .inl (.inr (.inl (.inr (.inl hm))))
      · exact .inr hm)
    obtain ⟨q1, q2⟩ := off_some (sm b o (by rw [off_out nb]; exact e1))
    refine ⟨q1, fun hm => ?_⟩
    simp only [List.mem_append] at hm q2 e2
    rcases hm with (hm | ((hm | (hm | hm)) | hm)) | hm
    · exact e2 (.inl (.inl hm))
    · exact e2 (.inl (.inr (.inl (.inl hm))))
    · exact q2 (.inl hm)
    · exact e2 (.inl (.inr (.inl (.inr (.inr hm)))))
    · exact e2 (.inl (.inr (.inr hm)))
    · exact q2 (.inr hm)
  have q := put _ H' (s.re (d.put π e')) (some x) _ kt z (fun b hb o e => kp b (by
    simp only [List.mem_append] at hb ⊢
    rcases hb with hb | hb
    · exact .inl hb
    · exact .inr (.inr (.inr hb))) o e) (re _ H' _ _ whole)
  rw [set_id hx] at q
  refine ⟨_, g', q, r2, ?_, h4.trans z⟩
  have p2 : ((fa ++ (ga ++ (gb ++ fb))) ++ (fe' ++ g')).Nodup := by
    rw [List.nodup_append] at p1 ⊢
    exact ⟨p1.1, n3, fun b hb c hc q => apart' b hb (q ▸ hc)⟩
  refine List.Perm.nodup ?_ p2
  refine List.perm_iff_count.mpr fun z => ?_
  simp only [List.count_append]
  omega
/-- THE WRITE: the thing at a place of a slot is written: what it holds then was owned by it, or in hand -/
theorem Fr.write {i : Nat} {s : Sl} {d e e' : D} {π : List Pt} {tv' : List V} {td' : List D} {x : V} {a : Addr} {o o' : HO} (h : Fr K B env tv td σ H) (hs : env[i]? = some s) (ho : s.od = some d) (hx : σ[i]? = some (some x))
    (hn : NodeV K H x d π (.ref a)) (hd : d.at π = some e) (ha : H a = some o) (hw : Wr o)
    (give : ∀ fe g, RpO K H (.ref a) e fe → RpOs K H tv td g → (fe ++ g).Nodup → ∃ fc fc' g', fe = a :: fc ∧ (∀ H', Kt H H' → (∀ b ∈ fc', ∀ o, H b = some o → H' b = some o) → H' a = some o' → RpO K H' (.ref a) e' (a :: fc')) ∧ RpOs K H tv' td' g' ∧ (fc' ++ g').Nodup ∧ ∀ b ∈ fc' ++ g', b ∈ fc ++ g) :
    Fr K B (env.set i (s.re (d.put π e'))) tv' td' σ (upd H a o') := by
  obtain ⟨fe, g, r1, r2, n, back⟩ := h.lend hs ho hx hn hd
  obtain ⟨fc, fc', g', rfl, mk, r3, n3, sub⟩ := give fe g r1 r2 n
  have an : a ∉ fc ++ g := by
    rw [List.cons_append, List.nodup_cons] at n
    exact n.1
  have an' : a ∉ fc' ++ g' := fun hm => an (sub a hm)
  have kt : Kt H (upd H a o') := Kt.upd ha hw
  have ne : ∀ b, b ≠ a → ∀ o, H b = some o → upd H a o' b = some o := fun b hb o e => by rw [upd_ne hb]; exact e
  refine back (upd H a o') e' tv' td' (a :: fc') g' kt ?_ (mk _ kt (fun b hb o e => ne b (fun q => an' (by rw [← q]; exact List.mem_append_left _ hb)) o e) upd_same) (RpOs.keep kt _ _ _ (fun b hb o e => ne b (fun q => an' (by rw [← q]; exact List.mem_append_right _ hb)) o e) r3) ?_ (fun b hb => ?_)
  · refine off_same fun b o e1 e2 => ?_
    rw [List.cons_append, List.mem_cons, not_or] at e2
    refine ⟨ne b e2.1 o e1, fun hm => ?_⟩
    rw [List.cons_append, List.mem_cons] at hm
    rcases hm with hm | hm
    · exact e2.1 hm
    · exact e2.2 (sub b hm)
  · rw [List.cons_append, List.nodup_cons]
    exact ⟨an', n3⟩
  · rw [List.cons_append, List.mem_cons] at hb
    rw [List.cons_append, List.mem_cons]
    rcases hb with hb | hb
    · exact .inl (.inl hb)
    · exact .inl (.inr (sub b hb))
end
end Gw

set_option maxHeartbeats 4000000
/-! GxC: expressions: what a reading does, over data. -/
namespace Gw
open PySem PySem.Spec PyProof.Rows L2

/-- what a place of the program stands on -/
abbrev _root_.L2.Cx.G (X : L2.Cx) : Kb := ⟨X.K, X.mg, X.prog, X.w⟩
structure Exn where
  name : Str
  num : Option D := none
inductive Ev (α : Type) where
  | ok (a : α)
  | exc (x : Exn)
  | stuck
@[simp] def Ev.bind {α β : Type} (e : Ev α) (f : α → Ev β) : Ev β := match e with
  | .ok a => f a
  | .exc x => .exc x
  | .stuck => .stuck
def XR (K : Kb) (mg : Str → Option Value) (H : Hp) (e : Exn) (cls : Value) (dd : Option Addr) : Prop :=
  mg e.name = some cls ∧ match e.num with
    | none => dd = none
    | some d => ∃ p v, dd = some p ∧ H p = some (.xd [("number", v)]) ∧ RpV K H v d
theorem XR.mono {K : Kb} {mg : Str → Option Value} {H H' : Hp} {e : Exn} {cls : Value} {dd : Option Addr} (s : Same H H') (h : XR K mg H e cls dd) : XR K mg H' e cls dd := by
  obtain ⟨h1, h2⟩ := h
  refine ⟨h1, ?_⟩
  cases hn : e.num with
  | none => rw [hn] at h2; exact h2
  | some d =>
    rw [hn] at h2
    obtain ⟨p, v, e1, e2, e3⟩ := h2
    exact ⟨p, v, e1, s _ _ e2, RpV.mono s _ _ e3⟩

section
variable (K : Kb) (mg : Str → Option Value) (W : WX)
/-- from the heap H at the slots σ: t comes to what ev says -/
structure Do (σ : L2.St) (H : Hp) {α β : Type} (t : Hp → (α → Hp → Prop) → Prop) (ev : Ev β) (R : Hp → α → β → Prop) : Prop where
  ok : ∀ d, ev = .ok d → ∀ Q : α → Hp → Prop, (∀ x H', Same H H' → R H' x d → Q x H') → t H Q
  ex : ∀ e, ev = .exc e → ∀ Q : α → Hp → Prop, (∀ cls dd H', Same H H' → XR K mg H' e cls dd → W cls dd σ H') → t H Q
def SR {α β : Type} (t : L2.St → Hp → (α → Hp → Prop) → Prop) (p : En → Ev β) (R : Hp → Hp → α → β → Prop) : Prop :=
  ∀ env σ H, Vw K H env σ → Do K mg W σ H (t σ) (p env) (R H)
end
/-- seen | its own, and new -/
def RO (K : Kb) (H0 H : Hp) (x : V) (d : D) : Prop := ∃ f, RpO K H x d f ∧ f.Nodup ∧ ∀ a ∈ f, H0 a = none
def ROs (K : Kb) (H0 H : Hp) (x : List V) (d : List D) : Prop := ∃ f, RpOs K H x d f ∧ f.Nodup ∧ ∀ a ∈ f, H0 a = none
def RB (_ : Hp) (b c : Bool) : Prop := b = c

section
variable {K : Kb} {mg : Str → Option Value} {W : WX} {σ : L2.St} {H H0 H' : Hp} {α β γ δ : Type}
theorem fresh_back {a : Addr} (s : Same H0 H) (h : H a = none) : H0 a = none := s.free h
theorem RO.back {x : V} {d : D} (s : Same H0 H) (h : RO K H H' x d) : RO K H0 H' x d := by
  obtain ⟨f, h1, h2, h3⟩ := h
  exact ⟨f, h1, h2, fun a ha => s.free (h3 a ha)⟩
theorem RO.view {x : V} {d : D} (h : RO K H0 H x d) : RpV K H x d := by
  obtain ⟨f, h1, _⟩ := h
  exact RpO.view _ _ _ h1
theorem RO.imm {x : V} {d : D} (i : imm d = true) (h : RpV K H x d) : RO K H0 H x d := ⟨[], RpV.imm d x i h, List.nodup_nil, fun a ha => nomatch ha⟩
theorem RO.atom {x : V} : RO K H0 H x (.v x) := ⟨[], by rw [RpO]; exact ⟨rfl, rfl⟩, List.nodup_nil, fun a ha => nomatch ha⟩

theorem Do.bind {t : Hp → (α → Hp → Prop) → Prop} {u : α → Hp → (γ → Hp → Prop) → Prop} {ev : Ev β} {q : β → Ev δ} {R : Hp → α → β → Prop} {R' : Hp → γ → δ → Prop}
    (h : Do K mg W σ H t ev R) (hu : ∀ x d H1, ev = .ok d → Same H H1 → R H1 x d → Do K mg W σ H1 (u x) (q d) R') : Do K mg W σ H (fun H Q => t H fun x H1 => u x H1 Q) (ev.bind q) R' := by
  refine ⟨fun d e Q hQ => ?_, fun e he Q hQ => ?_⟩
  · cases ev with
    | ok b => exact h.ok b rfl _ fun x H1 s r => (hu x b H1 rfl s r).ok d e Q fun y H2 s2 r2 => hQ y H2 (s.trans s2) r2
    | exc x => cases e
    | stuck => cases e
  · cases ev with
    | ok b => exact h.ok b rfl _ fun x H1 s r => (hu x b H1 rfl s r).ex e he Q fun cls dd H2 s2 r2 => hQ cls dd H2 (s.trans s2) r2
    | exc y => exact h.ex e (by cases he; rfl) _ hQ
    | stuck => cases he
/-- it is there at once -/
theorem Do.now {t : Hp → (α → Hp → Prop) → Prop} {d : β} {R : Hp → α → β → Prop} {x : α} (h : ∀ Q : α → Hp → Prop, Q x H → t H Q) (r : R H x d) : Do K mg W σ H t (.ok d) R :=
  ⟨fun d' e Q hQ => h Q (by cases e; exact hQ x H (Same.refl H) r), fun e he => nomatch he⟩
theorem Do.stuck {t : Hp → (α → Hp → Prop) → Prop} {R : Hp → α → β → Prop} : Do K mg W σ H t .stuck R := ⟨(fun _ e => nomatch e), (fun _ e => nomatch e)⟩
theorem Do.imp {t : Hp → (α → Hp → Prop) → Prop} {ev : Ev β} {R R' : Hp → α → β → Prop} (h : Do K mg W σ H t ev R) (hr : ∀ H' x d, Same H H' → R H' x d → R' H' x d) : Do K mg W σ H t ev R' :=
  ⟨fun d e Q hQ => h.ok d e Q fun x H' s r => hQ x H' s (hr H' x d s r), h.ex⟩
/-- a new list, a new tuple of what is only read -/
theorem Do.newL {t : Hp → (V → Hp → Prop) → Prop} {xs : List V} {ds : List D} (r : RpVs K H xs ds) (i : imms ds = true) (h : ∀ Q : V → Hp → Prop, (∀ p, H p = none → Q (.ref p) (upd H p (.lst xs))) → t H Q) :
    Do K mg W σ H t (.ok (.lst ds)) (RO K H) :=
  ⟨fun d' e Q hQ => by
    cases e
    refine h Q fun p np => hQ _ _ (same_new np) ⟨[p], ?_, (List.nodup_cons.mpr ⟨List.not_mem_nil, List.nodup_nil⟩), fun a ha => by rw [List.mem_singleton.mp ha]; exact np⟩
    rw [RpO]
    exact ⟨p, xs, [], rfl, upd_same, rfl, RpOs.keep (Kt.of (same_new np)) _ _ _ (fun a ha => nomatch ha) (RpVs.imms ds xs i r)⟩, fun e he => nomatch he⟩
theorem Do.newT {t : Hp → (V → Hp → Prop) → Prop} {xs : List V} {ds : List D} (r : RpVs K H xs ds) (i : imms ds = true) (h : ∀ Q : V → Hp → Prop, (∀ p, H p = none → Q (.ref p) (upd H p (.tup xs))) → t H Q) :
    Do K mg W σ H t (.ok (.tup ds)) (RO K H) :=
  ⟨fun d' e Q hQ => by
    cases e
    refine h Q fun p np => hQ _ _ (same_new np) ⟨[], ?_, List.nodup_nil, fun a ha => nomatch ha⟩
    rw [RpO]
    exact ⟨p, xs, rfl, .inl (.inl upd_same), RpOs.keep (Kt.of (same_new np)) _ _ _ (fun a ha => nomatch ha) (RpVs.imms ds xs i r)⟩, fun e he => nomatch he⟩
end

/-! ### the judgements -/
abbrev PX := En → Ev D
section
variable (X : Cx) (W : WX)
structure JV (e : Expr) (te : TE) (p : PX) : Prop where
  pe : PE X e te
  sv : SR X.G X.mg W te p fun _ => RpV X.G
structure JO (e : Expr) (te : TE) (p : PX) : Prop where
  pe : PE X e te
  so : SR X.G X.mg W te p (RO X.G)
structure JT (e : Expr) (tt : TT) (q : En → Ev Bool) : Prop where
  pt : PT X e tt
  st : SR X.G X.mg W tt q fun _ => RB
structure JW (e : Expr) (tt : TT) (q : En → Ev Bool) : Prop where
  pw : PW X e tt
  st : SR X.G X.mg W tt q fun _ => RB
structure JA (es : List Expr) (ta : TA) (p : En → Ev (List D)) : Prop where
  pa : PA X es ta
  sa : SR X.G X.mg W ta p fun _ => RpVs X.G
structure JB (es : List Expr) (ta : TA) (p : En → Ev (List D)) : Prop where
  pa : PA X es ta
  sa : SR X.G X.mg W ta p (ROs X.G)
end
def pV (i : Nat) : PX := fun e => match lk e i with
  | some d => .ok d
  | none => .stuck
def pC (x : V) : PX := fun _ => .ok (.v x)
def p1 (g : D → Ev D) (a : PX) : PX := fun e => (a e).bind g
def p2 (g : D → D → Ev D) (a b : PX) : PX := fun e => (a e).bind fun x => (b e).bind fun y => g x y
def pImm (a : PX) : PX := fun e => (a e).bind fun d => if imm d then .ok d else .stuck

section
variable {X : Cx} {W : WX} {a b c : Expr} {ta tb tc : TE} {pa pb pc : PX} {pos : Pos}
theorem JO.v (h : JO X W a ta pa) : JV X W a ta pa := ⟨h.pe, fun env σ H hv => (h.so env σ H hv).imp fun _ _ _ _ r => r.view⟩
theorem JV.imm (h : JV X W a ta pa) : JO X W a ta (pImm pa) := ⟨h.pe, fun env σ H hv => by
  have q := (h.sv env σ H hv).bind (u := fun x H Q => Q x H) (q := fun d => if Gw.imm d then .ok d else .stuck) (R' := RO X.G H) fun x d H1 e s r => by
    cases hi : Gw.imm d with
    | true => exact Do.now (x := x) (fun Q h => h) (RO.imm hi r)
    | false => exact Do.stuck
  exact q⟩
theorem jv_var {i : Nat} {x : Str} (h : PE X (.Name x pos) (tVar i)) : JV X W (.Name x pos) (tVar i) (pV i) := ⟨h, fun env σ H hv => by
  unfold pV
  cases e : lk env i with
  | none => exact Do.stuck
  | some d =>
    obtain ⟨x, e1, r⟩ := hv.2 i d e
    exact Do.now (x := x) (fun Q h => ⟨x, e1, h⟩) r⟩
theorem jo_c {x : V} (h : PE X a (tC x)) : JO X W a (tC x) (pC x) := ⟨h, fun env σ H hv => Do.now (x := x) (fun Q h => h) RO.atom⟩
theorem jo_int {i : Int} {j} : JO X W (.Constant (.int i) j pos) (tC (.int i)) (pC (.int i)) := jo_c pe_int
theorem jo_bl {i : Bool} {j} : JO X W (.Constant (.bool i) j pos) (tC (.bl i)) (pC (.bl i)) := jo_c pe_bl
theorem jo_non {j} : JO X W (.Constant .none j pos) (tC .non) (pC .non) := jo_c pe_non
theorem jo_str {x : Str} {j} : JO X W (.Constant (.str x) j pos) (tC (.str x)) (pC (.str x)) := jo_c pe_str

/-- a two-place operation by values -/
def OpD (X : Cx) (W : WX) (r : R2) (g : D → D → Ev D) : Prop := ∀ σ H x y d e, RpV X.G H x d → RpV X.G H y e → Do X.G X.mg W σ H (r x y) (g d e) (RO X.G H)
def OpDV (X : Cx) (W : WX) (r : R2) (g : D → D → Ev D) : Prop := ∀ σ H x y d e, RpV X.G H x d → RpV X.G H y e → Do X.G X.mg W σ H (r x y) (g d e) (RpV X.G)
def UnD (X : Cx) (W : WX) (r : V → Hp → VK → Prop) (g : D → Ev D) : Prop := ∀ σ H x d, RpV X.G H x d → Do X.G X.mg W σ H (r x) (g d) (RO X.G H)
theorem so_op {r : R2} {g : D → D → Ev D} (hr : OpD X W r g) (ha : SR X.G X.mg W ta pa fun _ => RpV X.G) (hb : SR X.G X.mg W tb pb fun _ => RpV X.G) : SR X.G X.mg W (tOp r ta tb) (p2 g pa pb) (RO X.G) := fun env σ H hv =>
  (ha env σ H hv).bind fun x d H1 e1 s1 r1 => (hb env σ H1 (hv.mono s1)).bind fun y e H2 e2 s2 r2 =>
    (hr σ H2 x y d e (RpV.mono s2 _ _ r1) r2).imp fun _ _ _ _ q => q.back (s1.trans s2)
theorem sv_op {r : R2} {g : D → D → Ev D} (hr : OpDV X W r g) (ha : SR X.G X.mg W ta pa fun _ => RpV X.G) (hb : SR X.G X.mg W tb pb fun _ => RpV X.G) : SR X.G X.mg W (tOp r ta tb) (p2 g pa pb) (fun _ => RpV X.G) := fun env σ H hv =>
  (ha env σ H hv).bind fun x d H1 e1 s1 r1 => (hb env σ H1 (hv.mono s1)).bind fun y e H2 e2 s2 r2 => hr σ H2 x y d e (RpV.mono s2 _ _ r1) r2
theorem so_un {r : V → Hp → VK → Prop} {g : D → Ev D} (hr : UnD X W r g) (ha : SR X.G X.mg W ta pa fun _ => RpV X.G) : SR X.G X.mg W (tUn r ta) (p1 g pa) (RO X.G) := fun env σ H hv =>
  (ha env σ H hv).bind fun x d H1 e1 s1 r1 => (hr σ H1 x d r1).imp fun _ _ _ _ q => q.back s1
theorem RpV.atom {K : Kb} {H : Hp} {x y : V} (h : RpV K H x (.v y)) : x = y := by rw [RpV] at h; exact h
theorem OpR.or {f : Value → Value → Sem Value} {r r' : R2} (h : OpR X f r) (h' : OpR X f r') : OpR X f (fun x y H Q => r x y H Q ∨ r' x y H Q) := by
  intro pins s σ H x y v u Q I rx ry q
  rcases q with q | q
  · exact h pins s σ H x y v u Q I rx ry q
  · exact h' pins s σ H x y v u Q I rx ry q
theorem CallR.or {f : Value} {r r' : List V → Hp → VK → Prop} (h : CallR X f r) (h' : CallR X f r') : CallR X f (fun xs H Q => r xs H Q ∨ r' xs H Q) := by
  intro pins s σ H xs us Q I rx q
  rcases q with q | q
  · exact h pins s σ H xs us Q I rx q
  · exact h' pins s σ H xs us Q I rx q

/-! ### + -/
def dAdd : D → D → Ev D
  | .v (.int i), .v (.int j) => .ok (.i (i + j))
  | .v (.str x), .v (.str y) => if x.length + y.length ≤ sizeLine then .ok (.s (x ++ y)) else .stuck
  | .tup xs, .tup ys => if xs.length + ys.length ≤ sizeLine ∧ imms xs = true ∧ imms ys = true then .ok (.tup (xs ++ ys)) else .stuck
  | .lst xs, .lst ys => if xs.length + ys.length ≤ sizeLine ∧ imms xs = true ∧ imms ys = true then .ok (.lst (xs ++ ys)) else .stuck
  | _, _ => .stuck
def rAddU (K : PySem.W.Frag) : R2 := fun x y H Q => rI0 (fun i j => .int (i + j)) x y H Q ∨ (∃ i j, x = .str i ∧ y = .str j ∧ i.length + j.length ≤ sizeLine ∧ Q (.str (i ++ j)) H) ∨ rCatA K x y H Q ∨ rCat x y H Q
theorem op_addU : OpR X (binaryOp .Add) (rAddU X.K) := OpR.or op_add (OpR.or op_add_str (OpR.or op_catA op_cat))
theorem imms_append {xs ys : List D} : imms (xs ++ ys) = (imms xs && imms ys) := by
  induction xs with
  | nil => rw [List.nil_append, imms, Bool.true_and]
  | cons x xs ih => rw [List.cons_append, imms, imms, ih, Bool.and_assoc]
theorem od_add : OpD X W (rAddU X.K) dAdd := fun σ H x y d e r1 r2 => by
  unfold dAdd
  split
  · rw [r1.atom, r2.atom]
    exact Do.now (fun Q h => .inl ⟨_, _, rfl, rfl, h⟩) RO.atom
  · rw [r1.atom, r2.atom]
    split
    · rename_i hz
      exact Do.now (fun Q h => .inr (.inl ⟨_, _, rfl, rfl, hz, h⟩)) RO.atom
    · exact Do.stuck
  · split
    · rename_i xs ys hz
      obtain ⟨hz, i1, i2⟩ := hz
      rw [RpV] at r1 r2
      obtain ⟨a, us, rfl, s1, q1⟩ := r1
      obtain ⟨b, ws, rfl, s2, q2⟩ := r2
      have l1 := q1.length
      have l2 := q2.length
      have im : imms (xs ++ ys) = true := by rw [imms_append, i1, i2]; rfl
      refine ⟨fun d' e Q hQ => ?_, fun e he => nomatch he⟩
      cases e
      refine .inr (.inr (.inl ⟨a, b, us, ws, rfl, rfl, s1, s2, by omega, fun e => ?_, fun _ e => ?_, fun _ _ p np => ?_⟩))
      · have : xs = [] := List.eq_nil_of_length_eq_zero (by rw [← l1, e]; rfl)
        subst this
        exact hQ _ _ (Same.refl _) (RO.imm (by rw [imm]; exact im) (by rw [RpV]; exact ⟨b, ws, rfl, s2, q2⟩))
      · have : ys = [] := List.eq_nil_of_length_eq_zero (by rw [← l2, e]; rfl)
        subst this
        exact hQ _ _ (Same.refl _) (RO.imm (by rw [imm]; exact im) (by rw [RpV, List.append_nil]; exact ⟨a, us, rfl, s1, q1⟩))
      · exact hQ _ _ (same_new np) (RO.imm (by rw [imm]; exact im) (by rw [RpV]; exact ⟨p, _, rfl, .inl (.inl upd_same), (q1.append q2).mono (same_new np)⟩))
    · exact Do.stuck
  · split
    · rename_i xs ys hz
      obtain ⟨hz, i1, i2⟩ := hz
      rw [RpV] at r1 r2
      obtain ⟨a, us, rfl, s1, q1⟩ := r1
      obtain ⟨b, ws, rfl, s2, q2⟩ := r2
      have l1 := q1.length
      have l2 := q2.length
      exact Do.newL (q1.append q2) (by rw [imms_append, i1, i2]; rfl) fun Q h => .inr (.inr (.inr ⟨a, b, us, ws, rfl, rfl, s1, s2, by omega, h⟩))
    · exact Do.stuck
  · exact Do.stuck
theorem jo_add (ha : JV X W a ta pa) (hb : JV X W b tb pb) : JO X W (.BinOp a .Add b pos) (tOp (rAddU X.K) ta tb) (p2 dAdd pa pb) := ⟨pe_op op_addU ha.pe hb.pe, so_op od_add ha.sv hb.sv⟩

/-! ### ints -/
def dInt2 (C : Int → Int → Prop) [∀ i j, Decidable (C i j)] (g : Int → Int → V) : D → D → Ev D
  | .v (.int i), .v (.int j) => if C i j then .ok (.v (g i j)) else .stuck
  | _, _ => .stuck
theorem od_int2 {C : Int → Int → Prop} [∀ i j, Decidable (C i j)] {g : Int → Int → V} : OpD X W (rI C g) (dInt2 C g) := fun σ H x y d e r1 r2 => by
  unfold dInt2
  split
  · rw [r1.atom, r2.atom]
    split
    · rename_i hc
      exact Do.now (fun Q h => ⟨_, _, rfl, rfl, hc, h⟩) RO.atom
    · exact Do.stuck
  · exact Do.stuck
def dInt0 (g : Int → Int → V) : D → D → Ev D
  | .v (.int i), .v (.int j) => .ok (.v (g i j))
  | _, _ => .stuck
theorem od_int0 {g : Int → Int → V} : OpD X W (rI0 g) (dInt0 g) := fun σ H x y d e r1 r2 => by
  unfold dInt0
  split
  · rw [r1.atom, r2.atom]
    exact Do.now (fun Q h => ⟨_, _, rfl, rfl, h⟩) RO.atom
  · exact Do.stuck
abbrev dSub := dInt0 fun i j => .int (i - j)
theorem jo_sub (ha : JV X W a ta pa) (hb : JV X W b tb pb) : JO X W (.BinOp a .Sub b pos) (tOp (rI0 fun i j => .int (i - j)) ta tb) (p2 dSub pa pb) := ⟨pe_op op_sub ha.pe hb.pe, so_op od_int0 ha.sv hb.sv⟩
abbrev dMod := dInt2 (fun _ j => 0 < j) fun i j => .int (i % j)
theorem jo_mod (ha : JV X W a ta pa) (hb : JV X W b tb pb) : JO X W (.BinOp a .Mod b pos) (tOp (rI (fun _ j => 0 < j) fun i j => .int (i % j)) ta tb) (p2 dMod pa pb) := ⟨pe_op op_mod ha.pe hb.pe, so_op od_int2 ha.sv hb.sv⟩
instance (i j : Int) : Decidable (CDiv i j) := by unfold CDiv; infer_instance
instance (i j : Int) : Decidable (CMul i j) := by unfold CMul; infer_instance
instance (i j : Int) : Decidable (CPow i j) := by unfold CPow; infer_instance
abbrev dDiv := dInt2 CDiv fun i j => .int (i / j)
theorem jo_div (ha : JV X W a ta pa) (hb : JV X W b tb pb) : JO X W (.BinOp a .FloorDiv b pos) (tOp (rI CDiv fun i j => .int (i / j)) ta tb) (p2 dDiv pa pb) := ⟨pe_op op_fdiv ha.pe hb.pe, so_op od_int2 ha.sv hb.sv⟩
abbrev dPow := dInt2 CPow fun i j => .int (i ^ j.toNat)
theorem jo_pow (ha : JV X W a ta pa) (hb : JV X W b tb pb) : JO X W (.BinOp a .Pow b pos) (tOp (rI CPow fun i j => .int (i ^ j.toNat)) ta tb) (p2 dPow pa pb) := ⟨pe_op op_pow ha.pe hb.pe, so_op od_int2 ha.sv hb.sv⟩
/-- * of ints, a list or a tuple * an int -/
def dMul : D → D → Ev D
  | .v (.int i), .v (.int j) => if CMul i j then .ok (.i (i * j)) else .stuck
  | .lst xs, .v (.int k) => if (-(2 ^ 63) ≤ k ∧ k < 2 ^ 63) ∧ xs.length * k.toNat ≤ sizeLine ∧ imms xs = true then .ok (.lst (List.replicate k.toNat xs).flatten) else .stuck
  | .tup xs, .v (.int k) => if xs ≠ [] ∧ (2 ≤ k ∧ k ≤ 1000) ∧ xs.length ≤ 1000 ∧ imms xs = true then .ok (.tup (List.replicate k.toNat xs).flatten) else .stuck
  | _, _ => .stuck
theorem imms_reps {xs : List D} (h : imms xs = true) : ∀ n : Nat, imms (List.replicate n xs).flatten = true
  | 0 => by rw [List.replicate_zero, List.flatten_nil, imms]
  | n + 1 => by rw [List.replicate_succ, List.flatten_cons, imms_append, h, imms_reps h n]; rfl
def rMulU (K : PySem.W.Frag) : R2 := fun x y H Q => rI CMul (fun i j => .int (i * j)) x y H Q ∨ rRep x y H Q ∨ rRepT K x y H Q
theorem op_mulU : OpR X (binaryOp .Mult) (rMulU X.K) := OpR.or op_mul (OpR.or op_rep op_repT)
theorem od_mul : OpD X W (rMulU X.K) dMul := fun σ H x y d e r1 r2 => by
  unfold dMul
  split
  · rw [r1.atom, r2.atom]
    split
    · rename_i hc
      exact Do.now (fun Q h => .inl ⟨_, _, rfl, rfl, hc, h⟩) RO.atom
    · exact Do.stuck
  · split
    · rename_i xs k hc
      obtain ⟨⟨h1, h2⟩, h3, h4⟩ := hc
      rw [r2.atom]
      rw [RpV] at r1
      obtain ⟨a, us, rfl, s1, q1⟩ := r1
      have l1 := q1.length
      exact Do.newL (q1.reps k.toNat) (imms_reps h4 _) fun Q h => .inr (.inl ⟨a, k, us, rfl, rfl, s1, h1, h2, by rw [l1]; exact h3, h⟩)
    · exact Do.stuck
  · split
    · rename_i xs k hc
      obtain ⟨h0, ⟨h1, h2⟩, h3, h4⟩ := hc
      rw [r2.atom]
      rw [RpV] at r1
      obtain ⟨a, us, rfl, s1, q1⟩ := r1
      have l1 := q1.length
      exact Do.newT (q1.reps k.toNat) (imms_reps h4 _) fun Q h => .inr (.inr ⟨a, k, us, rfl, rfl, s1, fun z => h0 (List.eq_nil_of_length_eq_zero (by rw [← l1, z]; rfl)), h1, h2, by rw [l1]; exact h3, h⟩)
    · exact Do.stuck
  · exact Do.stuck
theorem jo_mul (ha : JV X W a ta pa) (hb : JV X W b tb pb) : JO X W (.BinOp a .Mult b pos) (tOp (rMulU X.K) ta tb) (p2 dMul pa pb) := ⟨pe_op op_mulU ha.pe hb.pe, so_op od_mul ha.sv hb.sv⟩
def dNeg : D → Ev D
  | .v (.int i) => .ok (.i (-i))
  | _ => .stuck
theorem ud_neg : UnD X W (rU fun i => .int (-i)) dNeg := fun σ H x d r => by
  unfold dNeg
  split
  · rw [r.atom]
    exact Do.now (fun Q h => ⟨_, rfl, h⟩) RO.atom
  · exact Do.stuck
theorem jo_neg (ha : JV X W a ta pa) : JO X W (.UnaryOp .USub a pos) (tUn (rU fun i => .int (-i)) ta) (p1 dNeg pa) := ⟨pe_un un_neg ha.pe, so_un ud_neg ha.sv⟩

/-! ### comparisons -/
abbrev dLt := dInt0 fun i j => .bl (decide (i < j))
abbrev dLe := dInt0 fun i j => .bl (decide (i ≤ j))
abbrev dGt := dInt0 fun i j => .bl (decide (j < i))
abbrev dGe := dInt0 fun i j => .bl (decide (j ≤ i))
mutual
/-- == -/
def deq : D → D → Bool
  | .v .non, .v .non => true
  | .v (.bl a), .v (.bl b) => a == b
  | .v (.bl a), .v (.int j) => (if a then 1 else 0) == j
  | .v (.int i), .v (.bl b) => i == (if b then 1 else 0)
  | .v (.int i), .v (.int j) => i == j
  | .v (.str x), .v (.str y) => x == y
  | .tup a, .tup b => deqs a b
  | .lst a, .lst b => deqs a b
  | .lst a, .fro b => deqs a b
  | .fro a, .lst b => deqs a b
  | .fro a, .fro b => deqs a b
  | _, _ => false
def deqs : List D → List D → Bool
  | [], [] => true
  | a :: as, b :: bs => deq a b && deqs as bs
  | _, _ => false
end
def aok : V → Bool
  | .non => true
  | .bl _ => true
  | .int _ => true
  | .str x => PyData.strOk x
  | _ => false
mutual
/-- what can be compared, n deep -/
def dok : Nat → D → Bool
  | _, .v x => aok x
  | n + 1, .tup ds => doks n ds
  | n + 1, .lst ds => doks n ds
  | n + 1, .fro ds => doks n ds
  | _, .dic _ _ => false
  | _, .obj _ _ _ => false
  | 0, _ => false
def doks : Nat → List D → Bool
  | _, [] => true
  | n, d :: ds => dok n d && doks n ds
end
mutual
def py : D → PyData
  | .v .non => .none
  | .v (.bl b) => .bool b
  | .v (.int i) => .int i
  | .v (.str x) => .str x
  | .v _ => .none
  | .tup ds => .tuple (pys ds)
  | .lst ds => .list (pys ds)
  | .fro ds => .list (pys ds)
  | .dic _ _ => .none
  | .obj _ _ _ => .none
def pys : List D → List PyData
  | [] => []
  | d :: ds => py d :: pys ds
end
end
end Gw

set_option maxHeartbeats 4000000
/-! GxD: equality, tests, calls of built-ins, displays, calls of defs. -/
namespace Gw
open PySem PySem.Spec PyProof.Rows L2
section
variable {K : Kb} {H : Hp}
mutual
theorem py_ok : ∀ (n : Nat) (d : D) (x : V), dok n d = true → RpV K H x d → Dp K.K H x (py d) ∧ (py d).canLay0 = true ∧ (py d).depth ≤ n
  | n, .v y, x, i, h => by
    rw [RpV] at h
    subst h
    have i : aok x = true := by cases n <;> exact i
    cases x with
    | non => exact ⟨.non, rfl, Nat.zero_le _⟩
    | bl b => exact ⟨.bl b, rfl, Nat.zero_le _⟩
    | int j => exact ⟨.int j, rfl, Nat.zero_le _⟩
    | str z => exact ⟨.str z, i, Nat.zero_le _⟩
    | _ => exact absurd i Bool.false_ne_true
  | n + 1, .tup ds, x, i, h => by
    rw [RpV] at h
    obtain ⟨a, xs, e1, h1, h2⟩ := h
    subst e1
    obtain ⟨q1, q2, q3⟩ := pys_ok n ds xs i h2
    exact ⟨.tup h1 q1, q2, Nat.succ_le_succ q3⟩
  | n + 1, .lst ds, x, i, h => by
    rw [RpV] at h
    obtain ⟨a, xs, e1, h1, h2⟩ := h
    subst e1
    obtain ⟨q1, q2, q3⟩ := pys_ok n ds xs i h2
    exact ⟨.lst (SqL.of h1) q1, q2, Nat.succ_le_succ q3⟩
  | n + 1, .fro ds, x, i, h => by
    rw [RpV] at h
    obtain ⟨a, xs, e1, h1, h2⟩ := h
    subst e1
    obtain ⟨q1, q2, q3⟩ := pys_ok n ds xs i h2
    exact ⟨.lst h1 q1, q2, Nat.succ_le_succ q3⟩
  | 0, .tup _, _, i, _ => absurd i Bool.false_ne_true
  | 0, .lst _, _, i, _ => absurd i Bool.false_ne_true
  | 0, .fro _, _, i, _ => absurd i Bool.false_ne_true
  | n, .dic _ _, _, i, _ => by cases n <;> exact absurd i Bool.false_ne_true
  | n, .obj _ _ _, _, i, _ => by cases n <;> exact absurd i Bool.false_ne_true
theorem pys_ok : ∀ (n : Nat) (ds : List D) (xs : List V), doks n ds = true → RpVs K H xs ds → DpAll K.K H xs (pys ds) ∧ PyData.canLayAll0 (pys ds) = true ∧ PyData.depthAll (pys ds) ≤ n
  | n, [], [], _, _ => ⟨.nil, rfl, Nat.zero_le _⟩
  | n, d :: ds, x :: xs, i, h => by
    rw [RpVs] at h
    rw [doks, Bool.and_eq_true] at i
    obtain ⟨q1, q2, q3⟩ := py_ok n d x i.1 h.1
    obtain ⟨r1, r2, r3⟩ := pys_ok n ds xs i.2 h.2
    refine ⟨.cons q1 r1, ?_, ?_⟩
    · rw [pys, PyData.canLayAll0, q2, r2]; rfl
    · rw [pys, PyData.depthAll]; exact Nat.max_le.mpr ⟨q3, r3⟩
  | _, [], _ :: _, _, h => by simp [RpVs] at h
  | _, _ :: _, [], _, h => by simp [RpVs] at h
end
theorem py_shaped {n : Nat} {d : D} (hn : n ≤ 64) {x : V} (i : dok n d = true) (h : RpV K H x d) : SeqAt.shaped (py d) = true := by
  obtain ⟨_, q2, q3⟩ := py_ok n d x i h
  unfold SeqAt.shaped
  rw [q2, decide_eq_true (Nat.le_trans q3 hn)]; rfl
end
mutual
theorem deq_py : ∀ (n m : Nat) (d e : D), dok n d = true → dok m e = true → PyData.eqv (py d) (py e) = deq d e
  | n, m, .v x, .v y, i, j => by
    have i : aok x = true := by cases n <;> exact i
    have j : aok y = true := by cases m <;> exact j
    cases x <;> cases y <;> first | rfl | exact absurd i Bool.false_ne_true | exact absurd j Bool.false_ne_true
  | n, _, .v x, .tup _, i, _ => by
    have i : aok x = true := by cases n <;> exact i
    cases x <;> first | rfl | exact absurd i Bool.false_ne_true
  | n, _, .v x, .lst _, i, _ => by
    have i : aok x = true := by cases n <;> exact i
    cases x <;> first | rfl | exact absurd i Bool.false_ne_true
  | n, _, .v x, .fro _, i, _ => by
    have i : aok x = true := by cases n <;> exact i
    cases x <;> first | rfl | exact absurd i Bool.false_ne_true
  | _, m, .tup _, .v y, _, j => by
    have j : aok y = true := by cases m <;> exact j
    cases y <;> first | rfl | exact absurd j Bool.false_ne_true
  | _, m, .lst _, .v y, _, j => by
    have j : aok y = true := by cases m <;> exact j
    cases y <;> first | rfl | exact absurd j Bool.false_ne_true
  | _, m, .fro _, .v y, _, j => by
    have j : aok y = true := by cases m <;> exact j
    cases y <;> first | rfl | exact absurd j Bool.false_ne_true
  | n + 1, m + 1, .tup a, .tup b, i, j => deqs_py n m a b i j
  | n + 1, m + 1, .lst a, .lst b, i, j => deqs_py n m a b i j
  | n + 1, m + 1, .lst a, .fro b, i, j => deqs_py n m a b i j
  | n + 1, m + 1, .fro a, .lst b, i, j => deqs_py n m a b i j
  | n + 1, m + 1, .fro a, .fro b, i, j => deqs_py n m a b i j
  | _, _, .tup _, .lst _, _, _ => rfl
  | _, _, .tup _, .fro _, _, _ => rfl
  | _, _, .lst _, .tup _, _, _ => rfl
  | _, _, .fro _, .tup _, _, _ => rfl
  | 0, _, .tup _, .tup _, i, _ => absurd i Bool.false_ne_true
  | 0, _, .lst _, .lst _, i, _ => absurd i Bool.false_ne_true
  | 0, _, .lst _, .fro _, i, _ => absurd i Bool.false_ne_true
  | 0, _, .fro _, .lst _, i, _ => absurd i Bool.false_ne_true
  | 0, _, .fro _, .fro _, i, _ => absurd i Bool.false_ne_true
  | n, _, .dic _ _, _, i, _ => by cases n <;> exact absurd i Bool.false_ne_true
  | n, _, .obj _ _ _, _, i, _ => by cases n <;> exact absurd i Bool.false_ne_true
  | _, m, .v _, .dic _ _, _, j => by cases m <;> exact absurd j Bool.false_ne_true
  | _, m, .v _, .obj _ _ _, _, j => by cases m <;> exact absurd j Bool.false_ne_true
  | _, m, .tup _, .dic _ _, _, j => by cases m <;> exact absurd j Bool.false_ne_true
  | _, m, .tup _, .obj _ _ _, _, j => by cases m <;> exact absurd j Bool.false_ne_true
  | _, m, .lst _, .dic _ _, _, j => by cases m <;> exact absurd j Bool.false_ne_true
  | _, m, .lst _, .obj _ _ _, _, j => by cases m <;> exact absurd j Bool.false_ne_true
  | _, m, .fro _, .dic _ _, _, j => by cases m <;> exact absurd j Bool.false_ne_true
  | _, m, .fro _, .obj _ _ _, _, j => by cases m <;> exact absurd j Bool.false_ne_true
  | _, 0, .tup _, .tup _, _, j => absurd j Bool.false_ne_true
  | _, 0, .lst _, .lst _, _, j => absurd j Bool.false_ne_true
  | _, 0, .lst _, .fro _, _, j => absurd j Bool.false_ne_true
  | _, 0, .fro _, .lst _, _, j => absurd j Bool.false_ne_true
  | _, 0, .fro _, .fro _, _, j => absurd j Bool.false_ne_true
theorem deqs_py : ∀ (n m : Nat) (d e : List D), doks n d = true → doks m e = true → PyData.eqvAll (pys d) (pys e) = deqs d e
  | _, _, [], [], _, _ => rfl
  | n, m, d :: ds, e :: es, i, j => by
    rw [doks, Bool.and_eq_true] at i j
    rw [pys, pys, PyData.eqvAll, deqs, deq_py n m d e i.1 j.1, deqs_py n m ds es i.2 j.2]
  | _, _, [], _ :: _, _, _ => rfl
  | _, _, _ :: _, [], _, _ => rfl
end

section
variable {X : Cx} {W : WX} {a b c : Expr} {ta tb tc : TE} {tt tu : TT} {pa pb pc : PX} {qa qb : En → Ev Bool} {pos : Pos}
/-! ### ==, != -/
def dEq (neg : Bool) (d e : D) : Ev D := if dok 64 d && dok 64 e then .ok (.b (if neg then !deq d e else deq d e)) else .stuck
theorem od_eq : OpD X W (rEqD X.K) (dEq false) := fun σ H x y d e r1 r2 => by
  unfold dEq
  split
  · rename_i h
    rw [Bool.and_eq_true] at h
    refine Do.now (fun Q q => ⟨py d, py e, (py_ok _ d x h.1 r1).1, (py_ok _ e y h.2 r2).1, py_shaped (Nat.le_refl _) h.1 r1, py_shaped (Nat.le_refl _) h.2 r2, ?_⟩) RO.atom
    rw [deq_py _ _ d e h.1 h.2]
    exact q
  · exact Do.stuck
theorem od_ne : OpD X W (rNeD X.K) (dEq true) := fun σ H x y d e r1 r2 => by
  unfold dEq
  split
  · rename_i h
    rw [Bool.and_eq_true] at h
    refine Do.now (fun Q q => ⟨py d, py e, (py_ok _ d x h.1 r1).1, (py_ok _ e y h.2 r2).1, py_shaped (Nat.le_refl _) h.1 r1, py_shaped (Nat.le_refl _) h.2 r2, ?_⟩) RO.atom
    rw [deq_py _ _ d e h.1 h.2]
    exact q
  · exact Do.stuck
theorem hu_64 {A : Around} {k : Nat} (hr : Room k A) : A.units + 64 < cLine := by have := hr.un; omega
theorem hu_65 {A : Around} {k : Nat} (hr : Room k A) : A.units + 65 < cLine := by have := hr.un; omega

/-- a comparison: as a value | as a test, by its operation -/
theorem jo_cmp {op : CmpOp} {r : R2} {g : D → D → Ev D} (ho : OpR X (compareOp op) r) (od : OpD X W r g) (ha : JV X W a ta pa) (hb : JV X W b tb pb) (hm : behindInMarks op b = false) :
    JO X W (.Compare a [op] [b] pos) (tOp r ta tb) (p2 g pa pb) := ⟨pe_cmpR ho ha.pe hb.pe hm, so_op od ha.sv hb.sv⟩
/-- a value as a Bool -/
def dBool : D → Ev Bool
  | .v (.bl c) => .ok c
  | _ => .stuck
def qB (p : PX) : En → Ev Bool := fun e => (p e).bind dBool
theorem st_B {te : TE} {p : PX} (h : SR X.G X.mg W te p fun _ => RpV X.G) : SR X.G X.mg W (tTest te) (qB p) fun _ => RB := fun env σ H hv =>
  (h env σ H hv).bind fun x d H1 e s r => by
    unfold dBool
    split
    · rw [r.atom]
      exact Do.now (fun Q q => ⟨_, rfl, q⟩) rfl
    · exact Do.stuck
theorem jt_cmp {op : CmpOp} {r : R2} {g : D → D → Ev D} (ho : OpR X (compareOp op) r) (od : OpD X W r g) (ha : JV X W a ta pa) (hb : JV X W b tb pb) (hm : behindInMarks op b = false) :
    JT X W (.Compare a [op] [b] pos) (tTest (tOp r ta tb)) (qB (p2 g pa pb)) := ⟨pt_cmpR ho ha.pe hb.pe hm, st_B (JO.v ⟨pe_cmpR (pos := pos) ho ha.pe hb.pe hm, so_op od ha.sv hb.sv⟩).sv⟩
abbrev Nm (op : CmpOp) : Prop := op ≠ .In ∧ op ≠ .NotIn
/-- is None, is not None -/
def dIsN (neg : Bool) : D → D → Ev D
  | d, .v .non => match d with
    | .v x => .ok (.b (if neg then !decide (x = .non) else decide (x = .non)))
    | _ => .ok (.b neg)
  | _, _ => .stuck
def rIsN (neg : Bool) : R2 := fun x y H Q => y = .non ∧ Q (.bl (if neg then !decide (x = .non) else decide (x = .non))) H
theorem ref_non {K : Kb} {H : Hp} {x : V} {d : D} (hd : ∀ y, d ≠ .v y) (h : RpV K H x d) : decide (x = V.non) = false := by
  cases d with
  | v y => exact absurd rfl (hd y)
  | tup ds => rw [RpV] at h; obtain ⟨a, xs, rfl, _⟩ := h; rfl
  | lst ds => rw [RpV] at h; obtain ⟨a, xs, rfl, _⟩ := h; rfl
  | fro ds => rw [RpV] at h; obtain ⟨a, xs, rfl, _⟩ := h; rfl
  | dic ks ds => rw [RpV] at h; obtain ⟨a, o, xs, rfl, _⟩ := h; rfl
  | obj c ns ds => rw [RpV] at h; obtain ⟨a, C, dx, fs, rfl, _⟩ := h; rfl
theorem od_isN {neg : Bool} : OpD X W (rIsN neg) (dIsN neg) := fun σ H x y d e r1 r2 => by
  unfold dIsN
  split
  · have hy := r2.atom
    split
    · rw [r1.atom]
      exact Do.now (fun Q q => ⟨hy, q⟩) RO.atom
    · rename_i hd
      have e := ref_non (fun y => hd y) r1
      refine Do.now (fun Q q => ⟨hy, ?_⟩) RO.atom
      rw [e]
      cases neg <;> exact q
  · exact Do.stuck
theorem op_isN' : OpR X (compareOp .Is) (rIsN false) := op_isN
theorem op_notN' : OpR X (compareOp .IsNot) (rIsN true) := op_notN
/-- is True, is not True -/
def dIsB (neg : Bool) : D → D → Ev D
  | .v (.bl a), .v (.bl b) => .ok (.b (if neg then !decide (a = b) else decide (a = b)))
  | _, _ => .stuck
theorem od_isB : OpD X W rIsB (dIsB false) := fun σ H x y d e r1 r2 => by
  unfold dIsB
  split
  · rw [r1.atom, r2.atom]
    exact Do.now (fun Q q => ⟨_, _, rfl, rfl, q⟩) RO.atom
  · exact Do.stuck
theorem od_notB : OpD X W rNotB (dIsB true) := fun σ H x y d e r1 r2 => by
  unfold dIsB
  split
  · rw [r1.atom, r2.atom]
    exact Do.now (fun Q q => ⟨_, _, rfl, rfl, q⟩) RO.atom
  · exact Do.stuck

/-! ### in -/
def D.items : D → Option (List D)
  | .tup ds => some ds
  | .lst ds => some ds
  | .fro ds => some ds
  | _ => none
def flatD : D → Bool
  | .v x => flatV x
  | _ => false
def dIn (neg : Bool) : D → D → Ev D
  | d, .lst ds => if dok 64 d && doks 63 ds then .ok (.b (if neg then !ds.any (fun z => deq z d) else ds.any fun z => deq z d)) else .stuck
  | d, .fro ds => if dok 64 d && doks 63 ds then .ok (.b (if neg then !ds.any (fun z => deq z d) else ds.any fun z => deq z d)) else .stuck
  | .v x, .tup ds => if flatV x && ds.all flatD then .ok (.b (if neg then !ds.any (fun z => deq z (.v x)) else ds.any fun z => deq z (.v x))) else .stuck
  | _, _ => .stuck
def rInU (K : PySem.W.Frag) : R2 := fun x y H Q => rInD K x y H Q ∨ rIn K false x y H Q
def rNotInU (K : PySem.W.Frag) : R2 := fun x y H Q => rNotInD K x y H Q ∨ rIn K true x y H Q
theorem op_inU (hu : X.A.units + 65 < cLine) : OpR X (compareOp .In) (rInU X.K) := OpR.or (op_inD hu) op_in_seq
theorem op_notInU (hu : X.A.units + 65 < cLine) : OpR X (compareOp .NotIn) (rNotInU X.K) := OpR.or (op_notInD hu) op_notIn_seq
theorem any_py {n m : Nat} {d : D} (hd : dok m d = true) : ∀ {ds : List D}, doks n ds = true → ((pys ds).any fun z => PyData.eqv z (py d)) = ds.any fun z => deq z d
  | [], _ => rfl
  | e :: es, h => by
    rw [doks, Bool.and_eq_true] at h
    rw [pys, List.any_cons, List.any_cons, deq_py n m e d h.1 hd, any_py hd h.2]
theorem flat_eq {x y : V} (hx : flatV x = true) (hy : flatV y = true) : eqV y x = deq (.v y) (.v x) := by
  cases x <;> cases y <;> first | rfl | exact absurd hx Bool.false_ne_true | exact absurd hy Bool.false_ne_true
theorem flats {K : Kb} {H : Hp} {x : V} (hx : flatV x = true) : ∀ {ds : List D} {xs : List V}, RpVs K H xs ds → ds.all flatD = true → xs.all flatV = true ∧ inV x xs = ds.any fun z => deq z (.v x)
  | [], [], _, _ => ⟨rfl, rfl⟩
  | d :: ds, y :: xs, h, i => by
    rw [RpVs] at h
    rw [List.all_cons, Bool.and_eq_true] at i
    obtain ⟨q1, q2⟩ := flats hx h.2 i.2
    cases d with
    | v z =>
      have e := h.1.atom
      subst e
      have hz : flatV y = true := i.1
      refine ⟨by rw [List.all_cons, hz, q1]; rfl, ?_⟩
      show (eqV y x || inV x xs) = (deq (.v y) (.v x) || _)
      rw [q2, flat_eq hx hz]
    | _ => exact absurd i.1 Bool.false_ne_true
  | [], _ :: _, h, _ => by simp [RpVs] at h
  | _ :: _, [], h, _ => by simp [RpVs] at h
theorem od_in : OpD X W (rInU X.K) (dIn false) := fun σ H x y d e r1 r2 => by
  unfold dIn
  split
  · split
    · rename_i ds h
      rw [Bool.and_eq_true] at h
      have hl : dok 64 (.lst ds) = true := h.2
      refine Do.now (fun Q q => .inl ⟨py d, pys ds, (py_ok _ d x h.1 r1).1, (py_ok 64 (.lst ds) y hl r2).1, py_shaped (Nat.le_refl _) h.1 r1, py_shaped (n := 64) (d := .lst ds) (Nat.le_refl _) hl r2, ?_⟩) RO.atom
      rw [any_py h.1 h.2]
      exact q
    · exact Do.stuck
  · split
    · rename_i ds h
      rw [Bool.and_eq_true] at h
      have hl : dok 64 (.fro ds) = true := h.2
      refine Do.now (fun Q q => .inl ⟨py d, pys ds, (py_ok _ d x h.1 r1).1, (py_ok 64 (.fro ds) y hl r2).1, py_shaped (Nat.le_refl _) h.1 r1, py_shaped (n := 64) (d := .fro ds) (Nat.le_refl _) hl r2, ?_⟩) RO.atom
      rw [any_py h.1 h.2]
      exact q
    · exact Do.stuck
  · split
    · rename_i x' ds h
      rw [Bool.and_eq_true] at h
      have ex := r1.atom
      subst ex
      rw [RpV] at r2
      obtain ⟨a, ys, rfl, s2, q2⟩ := r2
      obtain ⟨f1, f2⟩ := flats h.1 q2 h.2
      refine Do.now (fun Q q => .inr ⟨a, ys, rfl, .inr s2, h.1, f1, ?_⟩) RO.atom
      rw [f2]
      exact q
    · exact Do.stuck
  · exact Do.stuck
theorem od_notIn : OpD X W (rNotInU X.K) (dIn true) := fun σ H x y d e r1 r2 => by
  unfold dIn
  split
  · split
    · rename_i ds h
      rw [Bool.and_eq_true] at h
      have hl : dok 64 (.lst ds) = true := h.2
      refine Do.now (fun Q q => .inl ⟨py d, pys ds, (py_ok _ d x h.1 r1).1, (py_ok 64 (.lst ds) y hl r2).1, py_shaped (Nat.le_refl _) h.1 r1, py_shaped (n := 64) (d := .lst ds) (Nat.le_refl _) hl r2, ?_⟩) RO.atom
      rw [any_py h.1 h.2]
      exact q
    · exact Do.stuck
  · split
    · rename_i ds h
      rw [Bool.and_eq_true] at h
      have hl : dok 64 (.fro ds) = true := h.2
      refine Do.now (fun Q q => .inl ⟨py d, pys ds, (py_ok _ d x h.1 r1).1, (py_ok 64 (.fro ds) y hl r2).1, py_shaped (Nat.le_refl _) h.1 r1, py_shaped (n := 64) (d := .fro ds) (Nat.le_refl _) hl r2, ?_⟩) RO.atom
      rw [any_py h.1 h.2]
      exact q
    · exact Do.stuck
  · split
    · rename_i x' ds h
      rw [Bool.and_eq_true] at h
      have ex := r1.atom
      subst ex
      rw [RpV] at r2
      obtain ⟨a, ys, rfl, s2, q2⟩ := r2
      obtain ⟨f1, f2⟩ := flats h.1 q2 h.2
      refine Do.now (fun Q q => .inr ⟨a, ys, rfl, .inr s2, h.1, f1, ?_⟩) RO.atom
      rw [f2]
      exact q
    · exact Do.stuck
  · exact Do.stuck

/-! ### tests -/
def qAnd (a b : En → Ev Bool) : En → Ev Bool := fun e => (a e).bind fun c => if c = true then b e else .ok false
def qOr (a b : En → Ev Bool) : En → Ev Bool := fun e => (a e).bind fun c => if c = true then .ok true else b e
def qNot (a : En → Ev Bool) : En → Ev Bool := fun e => (a e).bind fun c => .ok (!c)
variable {rest : List Expr}
theorem JW.t (h : JW X W a tt qa) : JT X W a tt qa := ⟨h.pw.pt, h.st⟩
theorem jw_and1 (ha : JT X W a tt qa) : JW X W (.BoolOp .And [a] pos) tt qa := ⟨pw_and1 ha.pt, ha.st⟩
theorem jw_or1 (ha : JT X W a tt qa) : JW X W (.BoolOp .Or [a] pos) tt qa := ⟨pw_or1 ha.pt, ha.st⟩
theorem jw_and (ha : JT X W a tt qa) (hb : JW X W (.BoolOp .And (b :: rest) pos) tu qb) : JW X W (.BoolOp .And (a :: b :: rest) pos) (tAnd tt tu) (qAnd qa qb) := ⟨pw_and ha.pt hb.pw, fun env σ H hv =>
  (ha.st env σ H hv).bind fun x d H1 e s r => by
    cases (show x = d from r)
    cases x with
    | true => exact hb.st env σ H1 (hv.mono s)
    | false => exact Do.now (fun Q q => q) rfl⟩
theorem jw_or (ha : JT X W a tt qa) (hb : JW X W (.BoolOp .Or (b :: rest) pos) tu qb) : JW X W (.BoolOp .Or (a :: b :: rest) pos) (tOr tt tu) (qOr qa qb) := ⟨pw_or ha.pt hb.pw, fun env σ H hv =>
  (ha.st env σ H hv).bind fun x d H1 e s r => by
    cases (show x = d from r)
    cases x with
    | false => exact hb.st env σ H1 (hv.mono s)
    | true => exact Do.now (fun Q q => q) rfl⟩
theorem jt_not (ha : JT X W a tt qa) : JT X W (.UnaryOp .Not a pos) (tNot tt) (qNot qa) := ⟨pt_not ha.pt, fun env σ H hv =>
  (ha.st env σ H hv).bind fun x d H1 e s r => by
    cases (show x = d from r)
    exact Do.now (fun Q q => q) rfl⟩
/-- a value's truth -/
def dTruth : D → Ev Bool
  | .v .non => .ok false
  | .v (.bl c) => .ok c
  | .v (.int i) => .ok (i != 0)
  | .v (.str y) => if y.length ≤ sizeLine then .ok ((y.length : Int) != 0) else .stuck
  | .tup ds => .ok (!ds.isEmpty)
  | .lst ds => .ok (!ds.isEmpty)
  | .fro ds => .ok (!ds.isEmpty)
  | _ => .stuck
theorem empty_of {K : Kb} {H : Hp} {ds : List D} {xs : List V} (h : RpVs K H xs ds) : xs.isEmpty = ds.isEmpty := by
  have := h.length
  cases ds <;> cases xs <;> first | rfl | (simp at this)
theorem jt_truth (ha : JV X W a ta pa) (he : ∀ whole, isTrue a X.env whole = (do let v ← whole; standAt a.pos; holding [v] (truthy v)) := by intro _; rfl) :
    JT X W a (fun σ H Q => ta σ H fun x H1 => ∃ k, TruV X.K x H1 k ∧ Q k H1) (fun e => (pa e).bind dTruth) := ⟨pt_truth ha.pe he, fun env σ H hv =>
  (ha.sv env σ H hv).bind fun x d H1 e s r => by
    unfold dTruth
    split
    · rw [r.atom]; exact Do.now (fun Q q => ⟨_, rfl, q⟩) rfl
    · rw [r.atom]; exact Do.now (fun Q q => ⟨_, rfl, q⟩) rfl
    · rw [r.atom]; exact Do.now (fun Q q => ⟨_, rfl, q⟩) rfl
    · rw [r.atom]
      split
      · rename_i hz
        exact Do.now (fun Q q => ⟨_, ⟨hz, rfl⟩, q⟩) rfl
      · exact Do.stuck
    · rw [RpV] at r
      obtain ⟨p, xs, rfl, s1, q1⟩ := r
      exact Do.now (fun Q q => ⟨_, .inr (.inl ⟨xs, s1, rfl⟩), q⟩) (by rw [empty_of q1]; rfl)
    · rw [RpV] at r
      obtain ⟨p, xs, rfl, s1, q1⟩ := r
      exact Do.now (fun Q q => ⟨_, .inl ⟨xs, SqL.of s1, rfl⟩, q⟩) (by rw [empty_of q1]; rfl)
    · rw [RpV] at r
      obtain ⟨p, xs, rfl, s1, q1⟩ := r
      exact Do.now (fun Q q => ⟨_, .inl ⟨xs, s1, rfl⟩, q⟩) (by rw [empty_of q1]; rfl)
    · exact Do.stuck⟩
/-! ### and, or, not as values (bools) -/
def bAnd (d : D) (r : Ev D) : Ev D := match d with
  | .v (.bl c) => if c = true then r else .ok (.b false)
  | _ => .stuck
def bOr (d : D) (r : Ev D) : Ev D := match d with
  | .v (.bl c) => if c = true then .ok (.b true) else r
  | _ => .stuck
def bNot (d : D) : Ev D := match d with
  | .v (.bl c) => .ok (.b !c)
  | _ => .stuck
def pAnd (a b : PX) : PX := fun e => (a e).bind fun d => bAnd d (b e)
def pOr (a b : PX) : PX := fun e => (a e).bind fun d => bOr d (b e)
def pNot (a : PX) : PX := fun e => (a e).bind bNot
theorem jo_one {op} (ha : JO X W a ta pa) : JO X W (.BoolOp op [a] pos) ta pa := ⟨pe_one ha.pe, ha.so⟩
theorem jo_and (ha : JV X W a ta pa) (hb : JO X W (.BoolOp .And (b :: rest) pos) tb pb) : JO X W (.BoolOp .And (a :: b :: rest) pos) (tAndV ta tb) (pAnd pa pb) := ⟨pe_and ha.pe hb.pe, fun env σ H hv => by
  refine (ha.sv env σ H hv).bind (u := fun x H1 (Q : VK) => ∃ c : Bool, x = V.bl c ∧ if c = true then tb σ H1 Q else Q (V.bl false) H1) (q := fun d => bAnd d (pb env)) (R' := RO X.G H) fun x d H1 e s r => ?_
  show Do _ _ _ _ _ _ (bAnd d (pb env)) _
  unfold bAnd
  split
  · rename_i c
    rw [r.atom]
    cases c with
    | true =>
      have q := (hb.so env σ H1 (hv.mono s)).imp (R' := RO X.G H) fun _ _ _ _ q => q.back s
      exact ⟨fun d e Q hQ => ⟨true, rfl, q.ok d e Q hQ⟩, fun d e Q hQ => ⟨true, rfl, q.ex d e Q hQ⟩⟩
    | false => exact Do.now (x := V.bl false) (fun Q q => ⟨false, rfl, q⟩) RO.atom
  · exact Do.stuck⟩
theorem jo_or (ha : JV X W a ta pa) (hb : JO X W (.BoolOp .Or (b :: rest) pos) tb pb) : JO X W (.BoolOp .Or (a :: b :: rest) pos) (tOrV ta tb) (pOr pa pb) := ⟨pe_or ha.pe hb.pe, fun env σ H hv => by
  refine (ha.sv env σ H hv).bind (u := fun x H1 (Q : VK) => ∃ c : Bool, x = V.bl c ∧ if c = true then Q (V.bl true) H1 else tb σ H1 Q) (q := fun d => bOr d (pb env)) (R' := RO X.G H) fun x d H1 e s r => ?_
  show Do _ _ _ _ _ _ (bOr d (pb env)) _
  unfold bOr
  split
  · rename_i c
    rw [r.atom]
    cases c with
    | false =>
      have q := (hb.so env σ H1 (hv.mono s)).imp (R' := RO X.G H) fun _ _ _ _ q => q.back s
      exact ⟨fun d e Q hQ => ⟨false, rfl, q.ok d e Q hQ⟩, fun d e Q hQ => ⟨false, rfl, q.ex d e Q hQ⟩⟩
    | true => exact Do.now (x := V.bl true) (fun Q q => ⟨true, rfl, q⟩) RO.atom
  · exact Do.stuck⟩
theorem jo_not (ha : JV X W a ta pa) : JO X W (.UnaryOp .Not a pos) (tNotV ta) (pNot pa) := ⟨pe_not ha.pe, fun env σ H hv => by
  refine (ha.sv env σ H hv).bind (u := fun x H1 (Q : VK) => ∃ c : Bool, x = V.bl c ∧ Q (V.bl (!c)) H1) (q := bNot) (R' := RO X.G H) fun x d H1 e s r => ?_
  unfold bNot
  split
  · rename_i c
    rw [r.atom]
    exact Do.now (x := V.bl (!c)) (fun Q q => ⟨c, rfl, q⟩) RO.atom
  · exact Do.stuck⟩
/-- a if t else b -/
def pIf (t : En → Ev Bool) (a b : PX) : PX := fun e => (t e).bind fun c => if c = true then a e else b e
theorem jo_if (hc : JT X W c tt qa) (ha : JO X W a ta pa) (hb : JO X W b tb pb) : JO X W (.IfExp c a b pos) (tIf tt ta tb) (pIf qa pa pb) := ⟨pe_ifExp hc.pt ha.pe hb.pe, fun env σ H hv =>
  (hc.st env σ H hv).bind fun x d H1 e s r => by
    cases (show x = d from r)
    cases x with
    | true => exact (ha.so env σ H1 (hv.mono s)).imp fun _ _ _ _ q => q.back s
    | false => exact (hb.so env σ H1 (hv.mono s)).imp fun _ _ _ _ q => q.back s⟩
theorem jv_if (hc : JT X W c tt qa) (ha : JV X W a ta pa) (hb : JV X W b tb pb) : JV X W (.IfExp c a b pos) (tIf tt ta tb) (pIf qa pa pb) := ⟨pe_ifExp hc.pt ha.pe hb.pe, fun env σ H hv =>
  (hc.st env σ H hv).bind fun x d H1 e s r => by
    cases (show x = d from r)
    cases x with
    | true => exact ha.sv env σ H1 (hv.mono s)
    | false => exact hb.sv env σ H1 (hv.mono s)⟩
end
end Gw

set_option maxHeartbeats 4000000
/-! GxE: subscripts, slices, displays, calls. -/
namespace Gw
open PySem PySem.Spec PyProof.Rows L2
section
variable {X : Cx} {W : WX} {a b c e : Expr} {es : List Expr} {ta tb tc : TE} {tes : TA} {pa pb pc : PX} {ps : En → Ev (List D)} {pos : Pos}
/-! ### a[b] -/
def dAt (ds : List D) (k : Int) : Ev D := match atI ds k with
  | some d => .ok d
  | none => .stuck
def dIx : D → D → Ev D
  | .tup ds, .v (.int k) => dAt ds k
  | .lst ds, .v (.int k) => dAt ds k
  | .fro ds, .v (.int k) => dAt ds k
  | .v (.str z), .v (.int k) => if z.length ≤ sizeLine then (match atI z.cps.toList k with
      | some c => .ok (.s ⟨#[c]⟩)
      | none => .stuck) else .stuck
  | _, _ => .stuck
theorem RpVs.atI {K : Kb} {H : Hp} {ds : List D} {xs : List V} {k : Int} {d : D} (h : RpVs K H xs ds) (e : L2.atI ds k = some d) : ∃ x, L2.atI xs k = some x ∧ RpV K H x d := by
  unfold L2.atI at e ⊢
  rw [h.length]
  cases hk : ixN ds.length k with
  | none => rw [hk] at e; cases e
  | some j =>
    rw [hk] at e
    exact h.get (show ds[j]? = some d from e)
theorem od_ix : OpDV X W (rIx X.K) dIx := fun σ H x y d e r1 r2 => by
  unfold dIx
  split
  · rw [r2.atom, ]
    rw [RpV] at r1
    obtain ⟨p, xs, rfl, s1, q1⟩ := r1
    unfold dAt
    split
    · rename_i d hd
      obtain ⟨z, hz, rz⟩ := q1.atI hd
      exact Do.now (fun Q q => .inr (.inl ⟨p, xs, _, z, rfl, rfl, s1, hz, q⟩)) rz
    · exact Do.stuck
  · rw [r2.atom]
    rw [RpV] at r1
    obtain ⟨p, xs, rfl, s1, q1⟩ := r1
    unfold dAt
    split
    · rename_i d hd
      obtain ⟨z, hz, rz⟩ := q1.atI hd
      exact Do.now (fun Q q => .inl ⟨p, xs, _, z, rfl, rfl, SqL.of s1, hz, q⟩) rz
    · exact Do.stuck
  · rw [r2.atom]
    rw [RpV] at r1
    obtain ⟨p, xs, rfl, s1, q1⟩ := r1
    unfold dAt
    split
    · rename_i d hd
      obtain ⟨z, hz, rz⟩ := q1.atI hd
      exact Do.now (fun Q q => .inl ⟨p, xs, _, z, rfl, rfl, s1, hz, q⟩) rz
    · exact Do.stuck
  · rw [r1.atom, r2.atom]
    split
    · rename_i hz
      split
      · rename_i c hc
        exact Do.now (x := V.str ⟨#[c]⟩) (fun Q q => .inr (.inr ⟨_, _, c, rfl, rfl, hz, hc, q⟩)) (by rw [RpV])
      · exact Do.stuck
    · exact Do.stuck
  · exact Do.stuck
theorem jv_ix (ha : JV X W a ta pa) (hb : JV X W b tb pb) (hs : PlainIx b) : JV X W (.Subscript a b pos) (tOp (rIx X.K) ta tb) (p2 dIx pa pb) := ⟨pe_ix ix_seq ha.pe hb.pe hs, sv_op od_ix ha.sv hb.sv⟩

/-! ### a[lo:hi] -/
structure JP (X : Cx) (W : WX) (o : Option Expr) (tl : TO) (p : En → Ev (Option Int)) : Prop where
  po : PO X o tl
  sp : SR X.G X.mg W tl p fun _ _ a b => a = b
def dInt : D → Ev (Option Int)
  | .v (.int i) => .ok (some i)
  | _ => .stuck
theorem jp_none : JP X W none tNoPart (fun _ => .ok none) := ⟨po_none, fun env σ H hv => Do.now (fun Q q => q) rfl⟩
theorem jp_some (ha : JV X W a ta pa) : JP X W (some a) (tPart ta) (fun e => (pa e).bind dInt) := ⟨po_some ha.pe, fun env σ H hv =>
  (ha.sv env σ H hv).bind fun x d H1 e s r => by
    unfold dInt
    split
    · rw [r.atom]
      exact Do.now (fun Q q => ⟨_, rfl, q⟩) rfl
    · exact Do.stuck⟩
def cutL {α : Type} (xs : List α) (lo hi : Option Int) : List α := (xs.drop (HT.sIx xs.length 0 lo)).take (HT.sIx xs.length xs.length hi - HT.sIx xs.length 0 lo)
theorem RpVs.cut {K : Kb} {H : Hp} {ds : List D} {xs : List V} (h : RpVs K H xs ds) (lo hi : Option Int) : RpVs K H (cutV xs lo hi) (cutL ds lo hi) := by
  unfold cutV cutL
  rw [h.length]
  exact (h.drop _).take _
theorem imms_take : ∀ {ds : List D} (n : Nat), imms ds = true → imms (ds.take n) = true
  | _, 0, _ => by rw [List.take_zero, imms]
  | [], _ + 1, _ => by rw [List.take_nil, imms]
  | d :: ds, n + 1, h => by
    rw [imms, Bool.and_eq_true] at h
    rw [List.take_succ_cons, imms, h.1, imms_take n h.2]; rfl
theorem imms_drop : ∀ {ds : List D} (n : Nat), imms ds = true → imms (ds.drop n) = true
  | _, 0, h => h
  | [], _ + 1, _ => by rw [List.drop_nil, imms]
  | d :: ds, n + 1, h => by
    rw [imms, Bool.and_eq_true] at h
    rw [List.drop_succ_cons]
    exact imms_drop n h.2
theorem imms_cut {ds : List D} {lo hi : Option Int} (h : imms ds = true) : imms (cutL ds lo hi) = true := imms_take _ (imms_drop _ h)
def dSl (d : D) (lo hi : Option Int) : Ev D := match d with
  | .tup ds => if imms ds = true then .ok (.tup (cutL ds lo hi)) else .stuck
  | .lst ds => if imms ds = true then .ok (.lst (cutL ds lo hi)) else .stuck
  | .fro ds => if imms ds = true then .ok (.lst (cutL ds lo hi)) else .stuck
  | _ => .stuck
def rSlU (K : PySem.W.Frag) : V → Option Int → Option Int → Hp → VK → Prop := fun x lo hi H Q => rSlL K x lo hi H Q ∨ rSlA K x lo hi H Q
theorem sl_U : L2.SlR X (rSlU X.K) := by
  intro pins s σ H x v vl vu lo hi sl Q I rx hs pl pu h
  rcases h with h | h
  · exact sl_list pins s σ H x v vl vu lo hi sl Q I rx hs pl pu h
  · exact sl_tupA pins s σ H x v vl vu lo hi sl Q I rx hs pl pu h
def pSl (a : PX) (l u : En → Ev (Option Int)) : PX := fun e => (a e).bind fun d => (l e).bind fun lo => (u e).bind fun hi => dSl d lo hi
theorem jo_slice {lo hi : Option Expr} {tl th : TO} {pl ph : En → Ev (Option Int)} {p2 : Pos} (ha : JV X W a ta pa) (hl : JP X W lo tl pl) (hh : JP X W hi th ph) :
    JO X W (.Subscript a (.Slice lo hi none p2) pos) (tSl (rSlU X.K) ta tl th) (pSl pa pl ph) := ⟨pe_slice sl_U ha.pe hl.po hh.po, fun env σ H hv =>
  (ha.sv env σ H hv).bind fun x d H1 e1 s1 r1 => (hl.sp env σ H1 (hv.mono s1)).bind fun l l' H2 e2 s2 r2 => (hh.sp env σ H2 ((hv.mono s1).mono s2)).bind fun u u' H3 e3 s3 r3 => by
    cases (show l = l' from r2)
    cases (show u = u' from r3)
    have r := RpV.mono s3 _ _ (RpV.mono s2 _ _ r1)
    have sb := (s1.trans s2).trans s3
    unfold dSl
    split
    · rw [RpV] at r
      obtain ⟨p, xs, rfl, q1, q2⟩ := r
      split
      · rename_i im
        have im2 : imm (.tup (cutL _ l u)) = true := imms_cut im
        have hc := q2.cut l u
        refine ⟨fun d' e Q hQ => .inr ⟨p, xs, rfl, q1, fun hw => ?_, fun hw p2 np => ?_⟩, fun e he => nomatch he⟩
        · cases e
          refine hQ _ _ (Same.refl _) (RO.imm im2 ?_)
          have hx : cutV xs l u = xs := by
            unfold cutV
            rw [hw.1, hw.2]
            simp
          rw [hx] at hc
          rw [RpV]
          exact ⟨p, xs, rfl, q1, hc⟩
        · cases e
          refine hQ _ _ (same_new np) (RO.imm im2 ?_)
          rw [RpV]
          exact ⟨p2, _, rfl, .inl (.inl upd_same), hc.mono (same_new np)⟩
      · exact Do.stuck
    · rw [RpV] at r
      obtain ⟨p, xs, rfl, q1, q2⟩ := r
      split
      · rename_i im
        exact (Do.newL (q2.cut l u) (imms_cut im) fun Q h => .inl ⟨p, xs, rfl, SqL.of q1, h⟩).imp fun _ _ _ _ q => q.back sb
      · exact Do.stuck
    · rw [RpV] at r
      obtain ⟨p, xs, rfl, q1, q2⟩ := r
      split
      · rename_i im
        exact (Do.newL (q2.cut l u) (imms_cut im) fun Q h => .inl ⟨p, xs, rfl, q1, h⟩).imp fun _ _ _ _ q => q.back sb
      · exact Do.stuck
    · exact Do.stuck⟩

/-! ### argument lists: seen | owned -/
structure JAs (X : Cx) (W : WX) (es : List Expr) (ta : TA) (p : En → Ev (List D)) : Prop where
  pa : PA X es ta
  sa : SR X.G X.mg W ta p fun _ => RpVs X.G
  len : ∀ env ds, p env = .ok ds → ds.length = es.length
structure JBs (X : Cx) (W : WX) (es : List Expr) (ta : TA) (p : En → Ev (List D)) : Prop where
  pa : PA X es ta
  sa : SR X.G X.mg W ta p (ROs X.G)
  len : ∀ env ds, p env = .ok ds → ds.length = es.length
def aNil : En → Ev (List D) := fun _ => .ok []
def aCons (a : PX) (r : En → Ev (List D)) : En → Ev (List D) := fun e => (a e).bind fun d => (r e).bind fun ds => .ok (d :: ds)
theorem aCons_len {p : PX} {r : En → Ev (List D)} {n : Nat} (h : ∀ env ds, r env = .ok ds → ds.length = n) : ∀ env ds, aCons p r env = .ok ds → ds.length = n + 1 := fun env ds e => by
  unfold aCons at e
  cases h1 : p env with
  | ok d =>
    rw [h1] at e
    cases h2 : r env with
    | ok es =>
      simp only [Ev.bind, h2] at e
      cases e
      rw [List.length_cons, h env _ h2]
    | exc x => simp only [Ev.bind, h2] at e; cases e
    | stuck => simp only [Ev.bind, h2] at e; cases e
  | exc x => rw [h1] at e; cases e
  | stuck => rw [h1] at e; cases e
theorem ja_nil : JAs X W [] tNil aNil := ⟨pa_nil, fun env σ H hv => Do.now (x := []) (fun Q q => q) (show RpVs X.G H [] [] from by rw [RpVs]; trivial), fun _ _ e => by cases e; rfl⟩
theorem ja_cons (ha : JV X W a ta pa) (hr : JAs X W es tes ps) (hs : starEach (a :: es) X.env = (false, eval a X.env) :: starEach es X.env := by rfl) : JAs X W (a :: es) (tCons ta tes) (aCons pa ps) :=
  ⟨pa_cons ha.pe hr.pa hs, fun env σ H hv => (ha.sv env σ H hv).bind fun x d H1 e1 s1 r1 => (hr.sa env σ H1 (hv.mono s1)).bind fun xs ds H2 e2 s2 r2 =>
    Do.now (x := x :: xs) (fun Q q => q) (show RpVs X.G H2 (x :: xs) (d :: ds) from by rw [RpVs]; exact ⟨RpV.mono s2 _ _ r1, r2⟩), aCons_len hr.len⟩
theorem jb_nil : JBs X W [] tNil aNil := ⟨pa_nil, fun env σ H hv => Do.now (x := []) (fun Q q => q) ⟨[], by rw [RpOs], List.nodup_nil, fun a ha => nomatch ha⟩, fun _ _ e => by cases e; rfl⟩
theorem jb_cons (ha : JO X W a ta pa) (hr : JBs X W es tes ps) (hs : starEach (a :: es) X.env = (false, eval a X.env) :: starEach es X.env := by rfl) : JBs X W (a :: es) (tCons ta tes) (aCons pa ps) :=
  ⟨pa_cons ha.pe hr.pa hs, fun env σ H hv => (ha.so env σ H hv).bind fun x d H1 e1 s1 r1 => (hr.sa env σ H1 (hv.mono s1)).bind fun xs ds H2 e2 s2 r2 => by
    obtain ⟨f1, o1, n1, w1⟩ := r1
    obtain ⟨f2, o2, n2, w2⟩ := r2
    refine Do.now (x := x :: xs) (fun Q q => q) ⟨f1 ++ f2, ?_, ?_, fun b hb => ?_⟩
    · rw [RpOs]
      exact ⟨f1, f2, rfl, RpO.keep (Kt.of s2) _ _ _ (fun b hb o q => s2 _ _ q) o1, o2⟩
    · rw [List.nodup_append]
      refine ⟨n1, n2, fun b hb c hc q => ?_⟩
      obtain ⟨ys, z, _⟩ := RpO.dom _ _ _ o1 b hb
      rw [w2 b (q ▸ hc)] at z
      cases z
    · rcases List.mem_append.mp hb with hb | hb
      · exact w1 b hb
      · exact s1.free (w2 b hb), aCons_len hr.len⟩
/-! ### displays -/
def pTup (ps : En → Ev (List D)) : PX := fun e => (ps e).bind fun ds => .ok (.tup ds)
def pLst (ps : En → Ev (List D)) : PX := fun e => (ps e).bind fun ds => .ok (.lst ds)
theorem small_line {n : Nat} (h : n ≤ 1000) : n ≤ sizeLine := Nat.le_trans h (by decide)
theorem jo_tup {k} (h : JBs X W es tes ps) (hz : es.length ≤ 1000 := by decide) : JO X W (.Tuple es k pos) (tTup tes) (pTup ps) := ⟨pe_tup h.pa, fun env σ H hv =>
  (h.sa env σ H hv).bind (u := fun (xs : List V) H1 (Q : VK) => xs.length ≤ sizeLine ∧ ∀ p, H1 p = none → Q (.ref p) (upd H1 p (.tup xs))) (q := fun ds => Ev.ok (D.tup ds)) (R' := RO X.G H) fun xs ds H1 e s r => by
    obtain ⟨f, o, n, w⟩ := r
    have l : xs.length ≤ sizeLine := by rw [o.len, h.len env ds e]; exact small_line hz
    refine ⟨fun d' e Q hQ => ⟨l, fun p np => ?_⟩, fun e he => (by cases he)⟩
    cases e
    refine hQ _ _ (same_new np) ⟨f, ?_, n, w⟩
    rw [RpO]
    exact ⟨p, xs, rfl, .inl (.inl upd_same), RpOs.keep (Kt.of (same_new np)) _ _ _ (fun b hb o q => same_new np _ _ q) o⟩⟩
theorem jv_tup {k} (h : JAs X W es tes ps) (hz : es.length ≤ 1000 := by decide) : JV X W (.Tuple es k pos) (tTup tes) (pTup ps) := ⟨pe_tup h.pa, fun env σ H hv =>
  (h.sa env σ H hv).bind (u := fun (xs : List V) H1 (Q : VK) => xs.length ≤ sizeLine ∧ ∀ p, H1 p = none → Q (.ref p) (upd H1 p (.tup xs))) (q := fun ds => Ev.ok (D.tup ds)) (R' := RpV X.G) fun xs ds H1 e s r => by
    have l : xs.length ≤ sizeLine := by rw [r.length, h.len env ds e]; exact small_line hz
    refine ⟨fun d' e Q hQ => ⟨l, fun p np => ?_⟩, fun e he => (by cases he)⟩
    cases e
    refine hQ _ _ (same_new np) ?_
    rw [RpV]
    exact ⟨p, xs, rfl, .inl (.inl upd_same), RpVs.mono (same_new np) _ _ r⟩⟩
theorem jo_lst (h : JBs X W es tes ps) (hz : es.length ≤ 1000 := by decide) : JO X W (.List es pos) (tLst tes) (pLst ps) := ⟨pe_lst h.pa, fun env σ H hv =>
  (h.sa env σ H hv).bind (u := fun (xs : List V) H1 (Q : VK) => xs.length ≤ sizeLine ∧ ∀ p, H1 p = none → Q (.ref p) (upd H1 p (.lst xs))) (q := fun ds => Ev.ok (D.lst ds)) (R' := RO X.G H) fun xs ds H1 e s r => by
    obtain ⟨f, o, n, w⟩ := r
    have l : xs.length ≤ sizeLine := by rw [o.len, h.len env ds e]; exact small_line hz
    refine ⟨fun d' e Q hQ => ⟨l, fun p np => ?_⟩, fun e he => (by cases he)⟩
    cases e
    refine hQ _ _ (same_new np) ⟨p :: f, ?_, ?_, fun b hb => ?_⟩
    · rw [RpO]
      exact ⟨p, xs, f, rfl, upd_same, rfl, RpOs.keep (Kt.of (same_new np)) _ _ _ (fun b hb o q => same_new np _ _ q) o⟩
    · rw [List.nodup_cons]
      refine ⟨fun hp => ?_, n⟩
      obtain ⟨ys, z, _⟩ := RpOs.dom _ _ _ o p hp
      rw [np] at z; cases z
    · rcases List.mem_cons.mp hb with q | hb
      · rw [q]; exact s.free np
      · exact w b hb⟩

/-! ### built-ins by name -/
def CaD (X : Cx) (W : WX) (r : List V → Hp → VK → Prop) (g : List D → Ev D) : Prop := ∀ σ H xs ds, RpVs X.G H xs ds → Do X.G X.mg W σ H (r xs) (g ds) (RO X.G H)
def pCall (G : List D → Ev D) (ps : En → Ev (List D)) : PX := fun e => (ps e).bind G
theorem so_cb {r : List V → Hp → VK → Prop} {g : List D → Ev D} (hr : CaD X W r g) (ha : SR X.G X.mg W tes ps fun _ => RpVs X.G) : SR X.G X.mg W (tCB r tes) (pCall g ps) (RO X.G) := fun env σ H hv =>
  (ha env σ H hv).bind fun xs ds H1 e1 s1 r1 => (hr σ H1 xs ds r1).imp fun _ _ _ _ q => q.back s1
theorem jo_blt {id : String} {x : Str} {r : List V → Hp → VK → Prop} {g : List D → Ev D} {p : Pos} (hc : CallR X (.builtin id) r) (hr : CaD X W r g) (hg : Gl X x) (hm : X.mg x = none) (hv : bootBuiltins x = some (.builtin id)) (ha : JAs X W (e :: es) tes ps)
    (hn : x ≠ "__name__" := by decide) (hdb : (x == ("__debug__" : Str)) = false := by decide)
    (he : starEach (e :: es) X.env = (false, eval e X.env) :: starEach es X.env := by rfl) (hpl : (backTo pos (starEach es X.env)).any (·.1) = false := by rfl) : JO X W (.Call (.Name x p) (e :: es) [] pos) (tCB r tes) (pCall g ps) :=
  ⟨pe_callB hc hg hm hv ha.pa hn hdb he hpl, so_cb hr ha.sa⟩
theorem jo_bty {T : String} {x : Str} {r : List V → Hp → VK → Prop} {g : List D → Ev D} {p : Pos} (hc : CallR X (.type T) r) (hr : CaD X W r g) (hg : Gl X x) (hm : X.mg x = none) (hv : bootBuiltins x = some (.type T)) (ha : JAs X W (e :: es) tes ps)
    (hn : x ≠ "__name__" := by decide) (hdb : (x == ("__debug__" : Str)) = false := by decide)
    (he : starEach (e :: es) X.env = (false, eval e X.env) :: starEach es X.env := by rfl) (hpl : (backTo pos (starEach es X.env)).any (·.1) = false := by rfl) : JO X W (.Call (.Name x p) (e :: es) [] pos) (tCB r tes) (pCall g ps) :=
  ⟨pe_callTy hc hg hm hv ha.pa hn hdb he hpl, so_cb hr ha.sa⟩
theorem RpVs.one {K : Kb} {H : Hp} {xs : List V} {d : D} (h : RpVs K H xs [d]) : ∃ x, xs = [x] ∧ RpV K H x d := by
  cases xs with
  | nil => simp [RpVs] at h
  | cons x r =>
    rw [RpVs] at h
    cases r with
    | nil => exact ⟨x, rfl, h.1⟩
    | cons y r => have := h.2; simp [RpVs] at this
theorem RpVs.two {K : Kb} {H : Hp} {xs : List V} {d e : D} (h : RpVs K H xs [d, e]) : ∃ x y, xs = [x, y] ∧ RpV K H x d ∧ RpV K H y e := by
  cases xs with
  | nil => simp [RpVs] at h
  | cons x r =>
    rw [RpVs] at h
    obtain ⟨y, e1, h2⟩ := RpVs.one h.2
    exact ⟨x, y, by rw [e1], h.1, h2⟩
/-- len -/
def bLen : List D → Ev D
  | [.v (.str y)] => if y.length ≤ sizeLine then .ok (.i y.length) else .stuck
  | [.tup ds] => .ok (.i ds.length)
  | [.lst ds] => .ok (.i ds.length)
  | [.fro ds] => .ok (.i ds.length)
  | _ => .stuck
def rLenU (K : PySem.W.Frag) : List V → Hp → VK → Prop := fun xs H Q => ∃ x n, xs = [x] ∧ LenV K x H n ∧ Q (.int n) H
theorem cd_len : CaD X W (rLenU X.K) bLen := fun σ H xs ds r => by
  unfold bLen
  split
  · obtain ⟨x, rfl, r1⟩ := r.one
    rw [r1.atom]
    split
    · rename_i hz
      exact Do.now (fun Q q => ⟨_, _, rfl, ⟨hz, rfl⟩, q⟩) RO.atom
    · exact Do.stuck
  · obtain ⟨x, rfl, r1⟩ := r.one
    rw [RpV] at r1
    obtain ⟨p, ys, rfl, s1, q1⟩ := r1
    rw [← q1.length]
    exact Do.now (fun Q q => ⟨_, _, rfl, .inr ⟨ys, s1, rfl⟩, q⟩) RO.atom
  · obtain ⟨x, rfl, r1⟩ := r.one
    rw [RpV] at r1
    obtain ⟨p, ys, rfl, s1, q1⟩ := r1
    rw [← q1.length]
    exact Do.now (fun Q q => ⟨_, _, rfl, .inl ⟨ys, SqL.of s1, rfl⟩, q⟩) RO.atom
  · obtain ⟨x, rfl, r1⟩ := r.one
    rw [RpV] at r1
    obtain ⟨p, ys, rfl, s1, q1⟩ := r1
    rw [← q1.length]
    exact Do.now (fun Q q => ⟨_, _, rfl, .inl ⟨ys, s1, rfl⟩, q⟩) RO.atom
  · exact Do.stuck
theorem jo_len {p : Pos} (hg : Gl X "len") (hm : X.mg "len" = none) (ha : JAs X W (e :: es) tes ps)
    (he : starEach (e :: es) X.env = (false, eval e X.env) :: starEach es X.env := by rfl) (hpl : (backTo pos (starEach es X.env)).any (·.1) = false := by rfl) : JO X W (.Call (.Name "len" p) (e :: es) [] pos) (tCB (rLenU X.K) tes) (pCall bLen ps) :=
  jo_blt call_len cd_len hg hm PySem.boot_len ha (by decide) (by decide) he hpl
/-- list(x), tuple(x) -/
def bList : List D → Ev D
  | [.tup ds] => if imms ds = true then .ok (.lst ds) else .stuck
  | [.lst ds] => if imms ds = true then .ok (.lst ds) else .stuck
  | [.fro ds] => if imms ds = true then .ok (.lst ds) else .stuck
  | _ => .stuck
def rListU (K : PySem.W.Frag) : List V → Hp → VK → Prop := fun xs H Q => ∃ p ys, xs = [.ref p] ∧ (SqL K H p ys ∨ SqT K H p ys) ∧ ∀ l, H l = none → Q (.ref l) (upd H l (.lst ys))
theorem cd_list : CaD X W (rListU X.K) bList := fun σ H xs ds r => by
  unfold bList
  split
  · obtain ⟨x, rfl, r1⟩ := r.one
    rw [RpV] at r1
    obtain ⟨p, ys, rfl, s1, q1⟩ := r1
    split
    · rename_i im
      exact Do.newL q1 im fun Q h => ⟨p, ys, rfl, .inr s1, h⟩
    · exact Do.stuck
  · obtain ⟨x, rfl, r1⟩ := r.one
    rw [RpV] at r1
    obtain ⟨p, ys, rfl, s1, q1⟩ := r1
    split
    · rename_i im
      exact Do.newL q1 im fun Q h => ⟨p, ys, rfl, .inl (SqL.of s1), h⟩
    · exact Do.stuck
  · obtain ⟨x, rfl, r1⟩ := r.one
    rw [RpV] at r1
    obtain ⟨p, ys, rfl, s1, q1⟩ := r1
    split
    · rename_i im
      exact Do.newL q1 im fun Q h => ⟨p, ys, rfl, .inl s1, h⟩
    · exact Do.stuck
  · exact Do.stuck
theorem jo_list {p : Pos} (hg : Gl X "list") (hm : X.mg "list" = none) (ha : JAs X W (e :: es) tes ps)
    (he : starEach (e :: es) X.env = (false, eval e X.env) :: starEach es X.env := by rfl) (hpl : (backTo pos (starEach es X.env)).any (·.1) = false := by rfl) : JO X W (.Call (.Name "list" p) (e :: es) [] pos) (tCB (rListU X.K) tes) (pCall bList ps) :=
  jo_bty call_list_of cd_list hg hm (by decide +kernel) ha (by decide) (by decide) he hpl
def bTuple : List D → Ev D
  | [.tup ds] => if imms ds = true then .ok (.tup ds) else .stuck
  | [.lst ds] => if imms ds = true then .ok (.tup ds) else .stuck
  | [.fro ds] => if imms ds = true then .ok (.tup ds) else .stuck
  | _ => .stuck
def rTupleU (K : PySem.W.Frag) : List V → Hp → VK → Prop := fun xs H Q => ∃ p ys, xs = [.ref p] ∧ ((SqL K H p ys ∧ ∀ l, H l = none → Q (.ref l) (upd H l (.tup ys))) ∨ (SqT K H p ys ∧ Q (.ref p) H))
theorem cd_tuple : CaD X W (rTupleU X.K) bTuple := fun σ H xs ds r => by
  unfold bTuple
  split
  · obtain ⟨x, rfl, r1⟩ := r.one
    split
    · rename_i im
      have r2 := r1
      rw [RpV] at r1
      obtain ⟨p, ys, rfl, s1, q1⟩ := r1
      exact Do.now (fun Q h => ⟨p, ys, rfl, .inr ⟨s1, h⟩⟩) (RO.imm (by rw [imm]; exact im) r2)
    · exact Do.stuck
  · obtain ⟨x, rfl, r1⟩ := r.one
    rw [RpV] at r1
    obtain ⟨p, ys, rfl, s1, q1⟩ := r1
    split
    · rename_i im
      exact Do.newT q1 im fun Q h => ⟨p, ys, rfl, .inl ⟨SqL.of s1, h⟩⟩
    · exact Do.stuck
  · obtain ⟨x, rfl, r1⟩ := r.one
    rw [RpV] at r1
    obtain ⟨p, ys, rfl, s1, q1⟩ := r1
    split
    · rename_i im
      exact Do.newT q1 im fun Q h => ⟨p, ys, rfl, .inl ⟨s1, h⟩⟩
    · exact Do.stuck
  · exact Do.stuck
theorem jo_tuple {p : Pos} (hg : Gl X "tuple") (hm : X.mg "tuple" = none) (ha : JAs X W (e :: es) tes ps)
    (he : starEach (e :: es) X.env = (false, eval e X.env) :: starEach es X.env := by rfl) (hpl : (backTo pos (starEach es X.env)).any (·.1) = false := by rfl) : JO X W (.Call (.Name "tuple" p) (e :: es) [] pos) (tCB (rTupleU X.K) tes) (pCall bTuple ps) :=
  jo_bty call_tuple_of cd_tuple hg hm (by decide +kernel) ha (by decide) (by decide) he hpl
/-- max, min of two ints -/
def bMax : List D → Ev D
  | [.v (.int i), .v (.int j)] => .ok (.i (if j > i then j else i))
  | _ => .stuck
def bMin : List D → Ev D
  | [.v (.int i), .v (.int j)] => .ok (.i (if j < i then j else i))
  | _ => .stuck
def rMax2U : List V → Hp → VK → Prop := fun xs H Q => ∃ i j, xs = [.int i, .int j] ∧ Q (.int (if j > i then j else i)) H
theorem cd_max : CaD X W rMax2U bMax := fun σ H xs ds r => by
  unfold bMax
  split
  · obtain ⟨x, y, rfl, r1, r2⟩ := r.two
    rw [r1.atom, r2.atom]
    exact Do.now (fun Q h => ⟨_, _, rfl, h⟩) RO.atom
  · exact Do.stuck
def rMin2U : List V → Hp → VK → Prop := fun xs H Q => ∃ i j, xs = [.int i, .int j] ∧ Q (.int (if j < i then j else i)) H
theorem cd_min : CaD X W rMin2U bMin := fun σ H xs ds r => by
  unfold bMin
  split
  · obtain ⟨x, y, rfl, r1, r2⟩ := r.two
    rw [r1.atom, r2.atom]
    exact Do.now (fun Q h => ⟨_, _, rfl, h⟩) RO.atom
  · exact Do.stuck
/-- isinstance(x, T) -/
def tyn : D → String
  | .v .non => "NoneType"
  | .v (.bl _) => "bool"
  | .v (.int _) => "int"
  | .v (.str _) => "str"
  | .v _ => "?"
  | .tup _ => "tuple"
  | .lst _ => "list"
  | .fro _ => "list"
  | .dic _ _ => "?"
  | .obj _ _ _ => "?"
def subT (a b : String) : Option Bool :=
  if a = "?" then none else if b ∈ ["int", "bool", "str", "tuple", "list", "dict"] then some (a == b || (a == "bool" && b == "int")) else none
def bIsi : List D → Ev D
  | [d, .v (.ty T)] => match subT (tyn d) T with
    | some c => .ok (.b c)
    | none => .stuck
  | _ => .stuck
theorem kit_sub : ∀ a ∈ ["NoneType", "bool", "int", "str", "tuple", "list"], ∀ b ∈ ["int", "bool", "str", "tuple", "list", "dict"], kitB a b = some (a == b || (a == "bool" && b == "int")) := by decide +kernel
theorem tyx {K : Kb} {H : Hp} {x : V} {d : D} (hd : tyn d ≠ "?") (r : RpV K H x d) : TyX K.K H x (.type (tyn d)) ∧ tyn d ∈ ["NoneType", "bool", "int", "str", "tuple", "list"] := by
  cases d with
  | v y =>
    rw [r.atom]
    cases y with
    | non => exact ⟨.base .non, by decide⟩
    | bl b => exact ⟨.base (.bl b), by simp [tyn]⟩
    | int b => exact ⟨.base (.int b), by simp [tyn]⟩
    | str b => exact ⟨.base (.str b), by simp [tyn]⟩
    | _ => exact absurd rfl hd
  | tup ds =>
    rw [RpV] at r
    obtain ⟨p, ys, rfl, s1, _⟩ := r
    refine ⟨?_, by simp [tyn]⟩
    rcases s1 with (s1 | ⟨o, s1⟩) | ⟨o, its, n, s1, s2, _⟩
    · exact .base (.tup s1)
    · exact .fTuple s1
    · exact .kTuple s1 s2
  | lst ds =>
    rw [RpV] at r
    obtain ⟨p, ys, rfl, s1, _⟩ := r
    exact ⟨.base (.lst s1), by simp [tyn]⟩
  | fro ds =>
    rw [RpV] at r
    obtain ⟨p, ys, rfl, s1, _⟩ := r
    refine ⟨?_, by simp [tyn]⟩
    rcases s1 with (s1 | ⟨o, s1⟩) | ⟨o, its, n, s1, s2, _⟩
    · exact .base (.lst s1)
    · exact .base (.frz s1)
    · exact .kList s1 s2
  | dic ks ds => exact absurd rfl hd
  | obj c ns ds => exact absurd rfl hd
theorem cd_isi : CaD X W (rIsi X.K) bIsi := fun σ H xs ds r => by
  unfold bIsi
  split
  · rename_i d T
    obtain ⟨x, y, rfl, r1, r2⟩ := r.two
    rw [r2.atom]
    split
    · rename_i c hc
      unfold subT at hc
      split at hc
      · cases hc
      · rename_i hd
        split at hc
        · rename_i hT
          cases hc
          obtain ⟨q1, q2⟩ := tyx hd r1
          exact Do.now (fun Q h => ⟨x, .ty T, _, _, _, rfl, .ty T, q1, kit_ty (kit_sub _ q2 _ hT), h⟩) RO.atom
        · cases hc
    · exact Do.stuck
  · exact Do.stuck
theorem jv_ty {x : Str} {T : String} (hg : Gl X x) (hm : X.mg x = none) (hv : bootBuiltins x = some (.type T)) (hn : x ≠ "__name__" := by decide) (hd : (x == ("__debug__" : Str)) = false := by decide) : JV X W (.Name x pos) (tC (.ty T)) (pC (.ty T)) :=
  (jo_c (pe_bltn (v := .ty T) hg hm hv rfl hn hd)).v

/-! ### calls of defs -/
def spF (K : Kb) (mg : Str → Option Value) (n : Nat) (G : List D → Ev D) : Sp := fun vs H Q E => vs.length = n ∧ ∃ ds, RpVs K H vs ds ∧
  ((∃ d, G ds = .ok d ∧ ∀ x H', Same H H' → RO K H H' x d → Q x H') ∨ (∃ e, G ds = .exc e ∧ ∀ cls dd H', Same H H' → XR K mg H' e cls dd → E cls dd H'))
/-- the def named x keeps G, called at k levels -/
structure Fd (P : Program) (w : World) (K : PySem.W.Frag) (mg : Str → Option Value) (base : Heap) (k : Nat) (x : Str) (n : Nat) (G : List D → Ev D) : Prop where
  ex : ∃ f fd ps, ps.length = n ∧ FnOk P w K mg base (L2.CX P w) k f fd ps (spF ⟨K, mg, P, w⟩ mg n G) ∧ mg x = some (.ref f) ∧ PySem.W.keepIn K (.ref f) = true ∧ Binds K fd ps []
theorem jo_call {k : Nat} {x : Str} {n : Nat} {G : List D → Ev D} {p : Pos} (F : Fd X.prog X.w X.K X.mg X.base k x n G) (hr : Room k X.A) (hg : Gl X x) (tk : Takes X W) (ha : JAs X W (e :: es) tes ps) (hn : (e :: es).length = n := by rfl)
    (hdb : (x == ("__debug__" : Str)) = false := by decide)
    (he : starEach (e :: es) X.env = (false, eval e X.env) :: starEach es X.env := by rfl) (hpl : (backTo pos (starEach es X.env)).any (·.1) = false := by rfl) :
    JO X W (.Call (.Name x p) (e :: es) [] pos) (tCallS (spF X.G X.mg n G) (WE W) tes) (pCall G ps) := by
  obtain ⟨f, fd, pl, hl, FO, hm, hk, hb⟩ := F.ex
  refine ⟨pe_callS FO hr hg hm hk hb (passAt tk) ha.pa hdb he hpl, fun env σ H hv => ?_⟩
  refine (ha.sa env σ H hv).bind (u := fun vs H1 (Q : VK) => spF X.G X.mg n G vs H1 Q (WE W σ)) fun xs ds H1 e1 s1 r1 => ?_
  have l : xs.length = n := by rw [r1.length, ha.len env ds e1]; exact hn
  exact ⟨fun d e Q hQ => ⟨l, ds, r1, .inl ⟨d, e, fun x H' s r => hQ x H' s (r.back s1)⟩⟩, fun d e Q hQ => ⟨l, ds, r1, .inr ⟨d, e, fun cls dd H' s r => hQ cls dd H' s r⟩⟩⟩
end
end Gw

set_option maxHeartbeats 4000000
/-! GxF: expressions that change, statements, loops, defs. -/
namespace Gw
open PySem PySem.Spec PyProof.Rows L2

inductive Eg (α : Type) where
  | ok (d : α) (e : En)
  | exc (x : Exn) (e : En)
  | stuck
inductive Ou where
  | nx (e : En)
  | rt (d : D) (e : En)
  | bk (e : En)
  | ct (e : En)
  | exc (x : Exn) (e : En)
  | stuck
section
variable (K : Kb) (mg : Str → Option Value) (W : WX)
structure Gd (B : Bz) (tv : List V) (td : List D) (σ : L2.St) (H : Hp) (t : Hp → VK → Prop) (o : Eg D) : Prop where
  ok : ∀ d e, o = .ok d e → ∀ Q : VK, (∀ x H', Fr K B e (x :: tv) (d :: td) σ H' → Q x H') → t H Q
  ex : ∀ y e, o = .exc y e → ∀ Q : VK, (∀ cls dd H', Fr K B e tv td σ H' → XR K mg H' y cls dd → W cls dd σ H') → t H Q
/-- several in a row: the first lies deepest -/
structure Gs (B : Bz) (tv : List V) (td : List D) (σ : L2.St) (H : Hp) (t : Hp → (List V → Hp → Prop) → Prop) (o : Eg (List D)) : Prop where
  ok : ∀ ds e, o = .ok ds e → ∀ Q : List V → Hp → Prop, (∀ xs H', Fr K B e (xs.reverse ++ tv) (ds.reverse ++ td) σ H' → xs.length = ds.length → Q xs H') → t H Q
  ex : ∀ y e, o = .exc y e → ∀ Q : List V → Hp → Prop, (∀ cls dd H', Fr K B e tv td σ H' → XR K mg H' y cls dd → W cls dd σ H') → t H Q
structure Ss (B : Bz) (t : TS) (σ : L2.St) (H : Hp) (o : Ou) : Prop where
  nx : ∀ e, o = .nx e → ∀ D : Ends, (∀ σ' H', Fr K B e [] [] σ' H' → D.nx σ' H') → t D σ H
  rt : ∀ d e, o = .rt d e → ∀ D : Ends, (∀ x σ' H', Fr K B e [x] [d] σ' H' → D.rt x H') → t D σ H
  bk : ∀ e, o = .bk e → ∀ D : Ends, (∀ σ' H', Fr K B e [] [] σ' H' → D.bk σ' H') → t D σ H
  ct : ∀ e, o = .ct e → ∀ D : Ends, (∀ σ' H', Fr K B e [] [] σ' H' → D.ct σ' H') → t D σ H
  ex : ∀ y e, o = .exc y e → ∀ D : Ends, (∀ cls dd σ' H', Fr K B e [] [] σ' H' → XR K mg H' y cls dd → W cls dd σ' H') → t D σ H
end
structure JG (X : Cx) (W : WX) (e : Expr) (te : TE) (g : En → Eg D) : Prop where
  pe : PE X e te
  sg : ∀ B env tv td σ H, Fr X.G B env tv td σ H → Gd X.G X.mg W B tv td σ H (te σ) (g env)
structure JGs (X : Cx) (W : WX) (es : List Expr) (ta : TA) (g : En → Eg (List D)) : Prop where
  pa : PA X es ta
  sg : ∀ B env tv td σ H, Fr X.G B env tv td σ H → Gs X.G X.mg W B tv td σ H (ta σ) (g env)
structure JS (X : Cx) (W : WX) (st : Stmt) (t : TS) (s : En → Ou) : Prop where
  ps : PS X st t
  ss : ∀ B env σ H, Fr X.G B env [] [] σ H → Ss X.G X.mg W B t σ H (s env)
structure JSs (X : Cx) (W : WX) (st : List Stmt) (t : TS) (s : En → Ou) : Prop where
  ps : PSs X st t
  ss : ∀ B env σ H, Fr X.G B env [] [] σ H → Ss X.G X.mg W B t σ H (s env)
/-- what a body stands on -/
structure Bd (X : Cx) (W : WX) : Prop where
  nd : X.N.Nodup
  tk : Takes X W
  po : PassesOwn (model X.prog X.w) X.A X.env X.xe
  calm : X.calm = true

section
variable {X : Cx} {W : WX} {a b c e : Expr} {es : List Expr} {ta tb tc te : TE} {tes : TA} {pa pb pc : PX} {ps : En → Ev (List D)} {ga gb : En → Eg D} {pos : Pos} {K : Kb} {B : Bz} {H H' : Hp} {env : En} {tv : List V} {td : List D} {σ : L2.St}
/-! ### what changes nothing -/
def gL (p : PX) : En → Eg D := fun e => match p e with
  | .ok d => .ok d e
  | .exc x => .exc x e
  | .stuck => .stuck
theorem JO.g (h : JO X W a ta pa) : JG X W a ta (gL pa) := ⟨h.pe, fun B env tv td σ H hF => by
  have q := h.so env σ H hF.vw
  unfold gL
  refine ⟨fun d e he Q hQ => ?_, fun y e he Q hQ => ?_⟩
  · cases hp : pa env with
    | ok d' =>
      rw [hp] at he; cases he
      exact q.ok d hp Q fun x H' s r => by
        obtain ⟨f, o, n, w⟩ := r
        exact hQ x H' (hF.push s o n w)
    | exc x => rw [hp] at he; cases he
    | stuck => rw [hp] at he; cases he
  · cases hp : pa env with
    | ok d' => rw [hp] at he; cases he
    | exc x =>
      rw [hp] at he; cases he
      exact q.ex _ hp Q fun cls dd H' s r => hQ cls dd H' (hF.mono s) r
    | stuck => rw [hp] at he; cases he⟩
/-- a name's value, taken -/
def gTake (i : Nat) : En → Eg D := fun env => match env[i]? with
  | some (.own d) => .ok d (env.set i .no)
  | some (.fz d) => if imm d = true then .ok d env else .stuck
  | _ => .stuck
theorem jg_take {i : Nat} {x : Str} (h : PE X (.Name x pos) (tVar i)) : JG X W (.Name x pos) (tVar i) (gTake i) := ⟨h, fun B env tv td σ H hF => by
  unfold gTake
  cases hs : env[i]? with
  | none => exact ⟨fun _ _ q => (by cases q), fun _ _ q => (by cases q)⟩
  | some s =>
    cases s with
    | no => exact ⟨fun _ _ q => (by cases q), fun _ _ q => (by cases q)⟩
    | io d => exact ⟨fun _ _ q => (by cases q), fun _ _ q => (by cases q)⟩
    | own d =>
      obtain ⟨x, e, h2⟩ := hF.take hs
      exact ⟨fun d' e' q Q hQ => (by cases q; exact ⟨x, e, hQ x H h2⟩), fun _ _ q => (by cases q)⟩
    | fz d =>
      obtain ⟨x, e, r⟩ := hF.vw.2 i d (by unfold lk; rw [hs]; rfl)
      show Gd _ _ _ _ _ _ _ _ _ (if imm d = true then _ else _)
      split
      · rename_i im
        exact ⟨fun d' e' q Q hQ => (by cases q; exact ⟨x, e, hQ x H (hF.push (Same.refl _) (RpV.imm _ _ im r) List.nodup_nil fun a ha => nomatch ha)⟩), fun _ _ q => (by cases q)⟩
      · exact ⟨fun _ _ q => (by cases q), fun _ _ q => (by cases q)⟩⟩

/-! ### statements -/
def sNil : En → Ou := fun e => .nx e
def Ou.then (o : Ou) (f : En → Ou) : Ou := match o with
  | .nx e => f e
  | o => o
def sSeq (a b : En → Ou) : En → Ou := fun e => (a e).then b
variable {st : Stmt} {rest : List Stmt} {t u : TS} {s1 s2 : En → Ou}
theorem jss_nil : JSs X W [] tNext sNil := ⟨pss_nil, fun B env σ H hF => ⟨fun e q D hD => (by cases q; exact hD σ H hF), fun _ _ q => (by cases q), fun _ q => (by cases q), fun _ q => (by cases q), fun _ _ q => (by cases q)⟩⟩
theorem Ss.seq {o : Ou} {mg : Str → Option Value} (h : Ss K mg W B t σ H o) (h2 : ∀ e σ' H', o = .nx e → Fr K B e [] [] σ' H' → Ss K mg W B u σ' H' (s2 e)) : Ss K mg W B (tSeq t u) σ H (o.then s2) := by
  cases o with
  | nx e =>
    exact ⟨fun e' q D hD => h.nx e rfl _ fun σ' H' hF => (h2 e σ' H' rfl hF).nx e' q D hD, fun d e' q D hD => h.nx e rfl _ fun σ' H' hF => (h2 e σ' H' rfl hF).rt d e' q D hD,
      fun e' q D hD => h.nx e rfl _ fun σ' H' hF => (h2 e σ' H' rfl hF).bk e' q D hD, fun e' q D hD => h.nx e rfl _ fun σ' H' hF => (h2 e σ' H' rfl hF).ct e' q D hD,
      fun y e' q D hD => h.nx e rfl _ fun σ' H' hF => (h2 e σ' H' rfl hF).ex y e' q D hD⟩
  | rt d e => exact ⟨fun _ q => (by cases q), fun d' e' q D hD => h.rt d' e' q _ hD, fun _ q => (by cases q), fun _ q => (by cases q), fun _ _ q => (by cases q)⟩
  | bk e => exact ⟨fun _ q => (by cases q), fun _ _ q => (by cases q), fun e' q D hD => h.bk e' q _ hD, fun _ q => (by cases q), fun _ _ q => (by cases q)⟩
  | ct e => exact ⟨fun _ q => (by cases q), fun _ _ q => (by cases q), fun _ q => (by cases q), fun e' q D hD => h.ct e' q _ hD, fun _ _ q => (by cases q)⟩
  | exc x e => exact ⟨fun _ q => (by cases q), fun _ _ q => (by cases q), fun _ q => (by cases q), fun _ q => (by cases q), fun y e' q D hD => h.ex y e' q _ hD⟩
  | stuck => exact ⟨fun _ q => (by cases q), fun _ _ q => (by cases q), fun _ q => (by cases q), fun _ q => (by cases q), fun _ _ q => (by cases q)⟩
theorem Ss.stuck {mg : Str → Option Value} : Ss K mg W B t σ H .stuck := ⟨fun _ q => (by cases q), fun _ _ q => (by cases q), fun _ q => (by cases q), fun _ q => (by cases q), fun _ _ q => (by cases q)⟩
theorem jss_cons (h1 : JS X W st t s1) (h2 : JSs X W rest u s2) : JSs X W (st :: rest) (tSeq t u) (sSeq s1 s2) := ⟨pss_cons h1.ps h2.ps, fun B env σ H hF => (h1.ss B env σ H hF).seq fun e σ' H' _ hF' => h2.ss B e σ' H' hF'⟩
theorem jss_one (h1 : JS X W st t s1) : JSs X W [st] t s1 := ⟨pss_one h1.ps, h1.ss⟩
/-- ahead of a statement: a slot is only read from now on; behind it: slots forgotten -/
def sFrz (i : Nat) (s : En → Ou) : En → Ou := fun e => s (frz1 e i)
def sKill (ks : List Nat) (s : En → Ou) : En → Ou := fun e => match s e with
  | .nx e => .nx (kills ks e)
  | o => o
theorem JS.frz (i : Nat) (h : JS X W st t s1) : JS X W st t (sFrz i s1) := ⟨h.ps, fun B env σ H hF => h.ss B _ σ H (hF.frz i)⟩
theorem JS.kill (ks : List Nat) (h : JS X W st t s1) : JS X W st t (sKill ks s1) := ⟨h.ps, fun B env σ H hF => by
  have q := h.ss B env σ H hF
  unfold sKill
  cases ho : s1 env with
  | nx e => exact ⟨fun e' q' D hD => (by cases q'; exact q.nx e ho D fun σ' H' hF' => hD σ' H' (hF'.kills ks)), fun _ _ q => (by cases q), fun _ q => (by cases q), fun _ q => (by cases q), fun _ _ q => (by cases q)⟩
  | rt d e => rw [ho] at q; exact q
  | bk e => rw [ho] at q; exact q
  | ct e => rw [ho] at q; exact q
  | exc x e => rw [ho] at q; exact q
  | stuck => exact Ss.stuck⟩
/-- x = e -/
def setOu (i : Nat) : Eg D → Ou
  | .ok d e => if i < e.length then .nx (e.set i (.own d)) else .stuck
  | .exc x e => .exc x e
  | .stuck => .stuck
def sSet (i : Nat) (g : En → Eg D) : En → Ou := fun e => setOu i (g e)
theorem ss_set {mg : Str → Option Value} {i : Nat} {o : Eg D} (q : Gd K mg W B [] [] σ H (te σ) o) : Ss K mg W B (tAsg te (gName i)) σ H (setOu i o) := by
  cases o with
  | ok d e =>
    show Ss _ _ _ _ _ _ _ (if i < e.length then _ else _)
    split
    · rename_i hi
      exact ⟨fun e' q' D hD => (by cases q'; exact q.ok d e rfl _ fun x H' hF => hD _ _ (hF.store hi)), fun _ _ q => (by cases q), fun _ q => (by cases q), fun _ q => (by cases q), fun _ _ q => (by cases q)⟩
    · exact Ss.stuck
  | exc x e => exact ⟨fun _ q => (by cases q), fun _ _ q => (by cases q), fun _ q => (by cases q), fun _ q => (by cases q), fun y e' q' D hD => (by cases q'; exact q.ex _ _ rfl _ fun cls dd H' hF r => hD cls dd σ H' hF r)⟩
  | stuck => exact Ss.stuck
theorem js_set {i : Nat} {x : Str} {pos' : Pos} (bd : Bd X W) (hi : X.N[i]? = some x) (hx : Loc X.env.scope x) (h : JG X W a ta ga) (hs : swapsWith a (some (.Name x pos')) pos.line X.env = pure false := by rfl) (hf : X.fn x = true ∨ X.env.scope.names.lookup x = some .local := by first | exact .inl rfl | exact .inr rfl | assumption) :
    JS X W (.Assign [.Name x pos'] a pos) (tAsg ta (gName i)) (sSet i ga) := ⟨ps_set bd.nd hi hx h.pe hs hf, fun B env σ H hF => ss_set (h.sg B env [] [] σ H hF)⟩
/-- an expression alone -/
def sExpr (g : En → Eg D) : En → Ou := fun e => match g e with
  | .ok _ e => .nx e
  | .exc x e => .exc x e
  | .stuck => .stuck
theorem js_expr (h : JG X W a ta ga) (hs : swapsWith a none pos.line X.env = pure false := by rfl) : JS X W (.Expr a pos) (tDrop ta) (sExpr ga) := ⟨ps_expr h.pe hs, fun B env σ H hF => by
  have q := h.sg B env [] [] σ H hF
  unfold sExpr
  cases ho : ga env with
  | ok d e => exact ⟨fun e' q' D hD => (by cases q'; exact q.ok d e ho _ fun x H' hF => hD _ _ hF.drop), fun _ _ q => (by cases q), fun _ q => (by cases q), fun _ q => (by cases q), fun _ _ q => (by cases q)⟩
  | exc x e => exact ⟨fun _ q => (by cases q), fun _ _ q => (by cases q), fun _ q => (by cases q), fun _ q => (by cases q), fun y e' q' D hD => (by cases q'; exact q.ex _ _ ho _ fun cls dd H' hF r => hD cls dd σ H' hF r)⟩
  | stuck => exact Ss.stuck⟩
/-- return e, return -/
def sRet (g : En → Eg D) : En → Ou := fun e => match g e with
  | .ok d e => .rt d e
  | .exc x e => .exc x e
  | .stuck => .stuck
theorem js_ret (h : JG X W a ta ga) : JS X W (.Return (some a) pos) (tRet ta) (sRet ga) := ⟨ps_ret h.pe, fun B env σ H hF => by
  have q := h.sg B env [] [] σ H hF
  unfold sRet
  cases ho : ga env with
  | ok d e => exact ⟨fun _ q => (by cases q), fun d' e' q' D hD => (by cases q'; exact q.ok d e ho _ fun x H' hF => hD x σ H' hF), fun _ q => (by cases q), fun _ q => (by cases q), fun _ _ q => (by cases q)⟩
  | exc x e => exact ⟨fun _ q => (by cases q), fun _ _ q => (by cases q), fun _ q => (by cases q), fun _ q => (by cases q), fun y e' q' D hD => (by cases q'; exact q.ex _ _ ho _ fun cls dd H' hF r => hD cls dd σ H' hF r)⟩
  | stuck => exact Ss.stuck⟩
def sRetN : En → Ou := fun e => .rt .n e
theorem js_retN : JS X W (.Return none pos) tRetN sRetN := ⟨ps_retN, fun B env σ H hF => ⟨fun _ q => (by cases q), fun d' e' q' D hD => (by cases q'; exact hD .non σ H (hF.push (Same.refl _) (f' := []) (by rw [RpO]; exact ⟨rfl, rfl⟩) List.nodup_nil fun a ha => nomatch ha)), fun _ q => (by cases q), fun _ q => (by cases q), fun _ _ q => (by cases q)⟩⟩
theorem js_pass : JS X W (.Pass pos) tNext sNil := ⟨ps_pass, jss_nil.ss⟩
def sBk : En → Ou := fun e => .bk e
def sCt : En → Ou := fun e => .ct e
theorem js_break : JS X W (.Break pos) tBreak sBk := ⟨ps_break, fun B env σ H hF => ⟨fun _ q => (by cases q), fun _ _ q => (by cases q), fun e q D hD => (by cases q; exact hD σ H hF), fun _ q => (by cases q), fun _ _ q => (by cases q)⟩⟩
theorem js_continue : JS X W (.Continue pos) tCont sCt := ⟨ps_continue, fun B env σ H hF => ⟨fun _ q => (by cases q), fun _ _ q => (by cases q), fun _ q => (by cases q), fun e q D hD => (by cases q; exact hD σ H hF), fun _ _ q => (by cases q)⟩⟩
theorem js_doc {x j pos'} : JS X W (.Expr (.Constant (.str x) j pos) pos') tNext sNil := ⟨ps_doc, jss_nil.ss⟩
/-- if -/
def sIf (t : En → Ev Bool) (a b : En → Ou) : En → Ou := fun e => match t e with
  | .ok c => if c = true then a e else b e
  | .exc x => .exc x e
  | .stuck => .stuck
theorem js_if {q : En → Ev Bool} {tt : TT} {x y : List Stmt} (hc : JT X W c tt q) (ha : JSs X W x t s1) (hb : JSs X W y u s2) : JS X W (.If c x y pos) (tIfS tt t u) (sIf q s1 s2) := ⟨ps_if hc.pt ha.ps hb.ps, fun B env σ H hF => by
  have w := hc.st env σ H hF.vw
  unfold sIf
  cases ho : q env with
  | ok d =>
    have key : ∀ D : Ends, (∀ H', Fr X.G B env [] [] σ H' → if d = true then t D σ H' else u D σ H') → tIfS tt t u D σ H := fun D h => w.ok d ho _ fun x H' s r => by
      cases (show x = d from r)
      exact h H' (hF.mono s)
    cases d with
    | true => exact ⟨fun e q' D hD => key D fun H' hF' => (ha.ss B env σ H' hF').nx e q' D hD, fun d e q' D hD => key D fun H' hF' => (ha.ss B env σ H' hF').rt d e q' D hD, fun e q' D hD => key D fun H' hF' => (ha.ss B env σ H' hF').bk e q' D hD,
        fun e q' D hD => key D fun H' hF' => (ha.ss B env σ H' hF').ct e q' D hD, fun y e q' D hD => key D fun H' hF' => (ha.ss B env σ H' hF').ex y e q' D hD⟩
    | false =>
      have key : ∀ D : Ends, (∀ H', Fr X.G B env [] [] σ H' → u D σ H') → tIfS tt t u D σ H := fun D h => key D fun H' hF' => by rw [if_neg Bool.false_ne_true]; exact h H' hF'
      exact ⟨fun e q' D hD => key D fun H' hF' => (hb.ss B env σ H' hF').nx e q' D hD, fun d e q' D hD => key D fun H' hF' => (hb.ss B env σ H' hF').rt d e q' D hD, fun e q' D hD => key D fun H' hF' => (hb.ss B env σ H' hF').bk e q' D hD,
        fun e q' D hD => key D fun H' hF' => (hb.ss B env σ H' hF').ct e q' D hD, fun y e q' D hD => key D fun H' hF' => (hb.ss B env σ H' hF').ex y e q' D hD⟩
  | exc x => exact ⟨fun _ q => (by cases q), fun _ _ q => (by cases q), fun _ q => (by cases q), fun _ q => (by cases q), fun y e' q' D hD => (by cases q'; exact w.ex _ ho _ fun cls dd H' s r => hD cls dd σ H' (hF.mono s) r)⟩
  | stuck => exact Ss.stuck⟩
/-- raise X('..') -/
def sRaise (x : Str) : En → Ou := fun e => .exc ⟨x, none⟩ e
theorem js_raise {x : Str} {C : Addr} {r : Expr} (bd : Bd X W) (gC : X.mg x = some (.ref C)) (he : PMk X r fun _ H Q => Q (.ref C) none H) : JS X W (.Raise (some r) none pos) (fun _ σ H => (fun (_ : L2.St) (H : Hp) (Q : XK) => Q (.ref C) none H) σ H fun cls d H' => W cls d σ H') (sRaise x) :=
  ⟨ps_raise bd.calm bd.tk he, fun B env σ H hF => ⟨fun _ q => (by cases q), fun _ _ q => (by cases q), fun _ q => (by cases q), fun _ q => (by cases q), fun y e' q' D hD => (by cases q'; exact hD _ _ σ H hF ⟨gC, rfl⟩)⟩⟩

/-! ### what is taken to be only read: a loop's source -/
theorem Fr.froz {H1 : Hp} {x : V} {d : D} (h : Fr K B env tv td σ H) (s : Same H H1) (r : RO K H H1 x d) : ∃ B', Fr K B' env tv td σ H1 ∧ Ub B B' ∧ RpV K B'.hp x d := by
  obtain ⟨f', o, n, w⟩ := r
  obtain ⟨f, g, h1, h2, h3, h4⟩ := h
  have z : Same (off H (f ++ g)) (off H1 (f ++ g)) := off_same fun a o e1 e2 => ⟨s a o e1, e2⟩
  have ol : ∀ a ∈ f ++ g, ∃ o, H a = some o ∧ Wr o := fun a ha => by
    rcases List.mem_append.mp ha with ha | ha
    · exact h1.dom a ha
    · exact RpOs.dom _ _ _ h2 a ha
  refine ⟨⟨off H1 (f ++ g), B.pin⟩, ⟨f, g, h1.keep (Kt.of s) z (fun a _ o q => s a o q), RpOs.keep (Kt.of s) _ _ _ (fun a _ o q => s a o q) h2, h3, Same.refl _⟩, ⟨h4.trans z, rfl⟩, ?_⟩
  refine RpO.seen (fun a ha => ?_) d x f' (fun a ha hm => ?_) o
  · obtain ⟨xs, q, w⟩ := ol a ha
    exact ⟨xs, s _ _ q, w⟩
  · obtain ⟨xs, q, _⟩ := ol a hm
    rw [w a ha] at q; cases q
/-- a source: only read, whatever comes -/
structure JF (X : Cx) (W : WX) (e : Expr) (te : TE) (p : PX) : Prop where
  pe : PE X e te
  ok : ∀ B env σ H, Fr X.G B env [] [] σ H → ∀ d, p env = .ok d → ∀ Q : VK, (∀ x H' B', Fr X.G B' env [] [] σ H' → Ub B B' → RpV X.G B'.hp x d → Q x H') → te σ H Q
  ex : ∀ B env σ H, Fr X.G B env [] [] σ H → ∀ y, p env = .exc y → ∀ Q : VK, (∀ cls dd H', Fr X.G B env [] [] σ H' → XR X.G X.mg H' y cls dd → W cls dd σ H') → te σ H Q
theorem JO.f (h : JO X W a ta pa) : JF X W a ta pa := ⟨h.pe, fun B env σ H hF d e Q hQ => (h.so env σ H hF.vw).ok d e Q fun x H' s r => by
    obtain ⟨B', q1, q2, q3⟩ := hF.froz s r
    exact hQ x H' B' q1 q2 q3, fun B env σ H hF y e Q hQ => (h.so env σ H hF.vw).ex y e Q fun cls dd H' s r => hQ cls dd H' (hF.mono s) r⟩
/-- a name that is only read -/
def pFz (i : Nat) : PX := fun env => match env[i]? with
  | some (.fz d) => .ok d
  | some (.own d) => if imm d = true then .ok d else .stuck
  | _ => .stuck
theorem jf_var {i : Nat} {x : Str} (h : PE X (.Name x pos) (tVar i)) : JF X W (.Name x pos) (tVar i) (pFz i) := ⟨h, fun B env σ H hF d e Q hQ => by
    unfold pFz at e
    cases hs : env[i]? with
    | none => rw [hs] at e; cases e
    | some s =>
      rw [hs] at e
      cases s with
      | no => cases e
      | io d' => cases e
      | own d' =>
        simp only at e
        split at e
        · rename_i im
          cases e
          obtain ⟨x, e1, r⟩ := hF.vw.2 i d (by unfold lk; rw [hs]; rfl)
          obtain ⟨B', q1, q2, q3⟩ := hF.froz (Same.refl _) (RO.imm im r)
          exact ⟨x, e1, hQ x H B' q1 q2 q3⟩
        · cases e
      | fz d' =>
        cases e
        obtain ⟨f, g, h1, h2, h3, h4⟩ := hF
        obtain ⟨fa, fi, fb, y, e1, e2, h5, _⟩ := h1.at hs
        cases y with
        | none => exact h5.elim
        | some x => exact ⟨x, e2, hQ x H ⟨off H (f ++ g), B.pin⟩ ⟨f, g, h1, h2, h3, Same.refl _⟩ ⟨h4, rfl⟩ h5.1⟩, fun B env σ H hF y e Q hQ => by
    unfold pFz at e
    cases hs : env[i]? with
    | none => rw [hs] at e; cases e
    | some s =>
      rw [hs] at e
      cases s with
      | no => cases e
      | io d' => cases e
      | own d' =>
        simp only at e
        split at e <;> cases e
      | fz d' => cases e⟩
/-- put into a slot as only read -/
theorem Fr.storeZ {x : V} {d : D} (h : Fr K B env tv td σ H) (r : RpV K B.hp x d) (i : Nat) : Fr K B (env.set i (.fz d)) tv td (σ.set i (some x)) H := by
  by_cases hi : i < env.length
  · obtain ⟨f, g, h1, h2, h3, h4⟩ := h
    obtain ⟨fa, fi, fb, y, e1, e2, _, put⟩ := h1.at (List.getElem?_eq_getElem hi)
    subst e1
    have z : Same (off H (fa ++ (fi ++ fb) ++ g)) (off H ((fa ++ ([] ++ fb)) ++ g)) := off_same fun a o e1 e2 => ⟨e1, fun hm => e2 (by
      simp only [List.mem_append, List.nil_append] at hm ⊢
      rcases hm with (hm | hm) | hm
      · exact .inl (.inl hm)
      · exact .inl (.inr (.inr hm))
      · exact .inr hm)⟩
    refine ⟨fa ++ ([] ++ fb), g, put _ H (.fz d) (some x) [] (Kt.refl _) z (fun _ _ _ q => q) ⟨RpV.mono (h4.trans z) _ _ r, rfl⟩, h2, ?_, h4.trans z⟩
    exact h3.sublist (List.Sublist.append (List.Sublist.append (List.Sublist.refl _) (List.sublist_append_right _ _)) (List.Sublist.refl _))
  · rw [List.set_eq_of_length_le (by omega), List.set_eq_of_length_le (by rw [← h.len]; omega)]
    exact h

theorem Fr.under {B' : Bz} (h : Fr K B' env tv td σ H) (s : Ub B B') : Fr K B env tv td σ H := by
  obtain ⟨f, g, h1, h2, h3, h4⟩ := h
  rw [s.2] at h1
  exact ⟨f, g, h1, h2, h3, s.1.trans h4⟩
/-! ### targets -/
structure JTg (X : Cx) (tg : Expr) (g : TG) (t : D → En → Option En) : Prop where
  pg : PG X tg g
  ok : ∀ B env σ H x d, Fr X.G B env [] [] σ H → RpV X.G B.hp x d → ∀ e', t d env = some e' → ∀ Q : L2.St → Hp → Prop, (∀ σ', Fr X.G B e' [] [] σ' H → Q σ' H) → g x σ H Q
structure JTgs (X : Cx) (tgs : List Expr) (g : TGs) (t : List D → En → Option En) : Prop where
  pg : PGs X tgs g
  ok : ∀ B env σ H xs ds, Fr X.G B env [] [] σ H → RpVs X.G B.hp xs ds → ∀ e', t ds env = some e' → ∀ Q : L2.St → Hp → Prop, (∀ σ', Fr X.G B e' [] [] σ' H → Q σ' H) → g xs σ H Q
def nTg (i : Nat) : D → En → Option En := fun d e => some (e.set i (.fz d))
def nsNil : List D → En → Option En := fun ds e => match ds with
  | [] => some e
  | _ => none
def nsCons (t : D → En → Option En) (u : List D → En → Option En) : List D → En → Option En := fun ds e => match ds with
  | d :: ds => (t d e).bind fun e' => u ds e'
  | _ => none
def nTup (u : List D → En → Option En) : D → En → Option En := fun d e => match d with
  | .tup ds => u ds e
  | _ => none
theorem jt_name {i : Nat} {x : Str} (bd : X.N.Nodup) (hi : X.N[i]? = some x) (hx : Loc X.env.scope x) (hf : X.fn x = true ∨ X.env.scope.names.lookup x = some .local := by first | exact .inl rfl | exact .inr rfl | assumption) : JTg X (.Name x pos) (gName i) (nTg i) :=
  ⟨pg_name bd hi hx hf, fun B env σ H x d hF r e' q Q hQ => by cases q; exact hQ _ (hF.storeZ r i)⟩
theorem jts_nil : JTgs X [] gNil nsNil := ⟨pgs_nil, fun B env σ H xs ds hF r e' q Q hQ => by
  cases ds with
  | nil => cases q; exact ⟨List.eq_nil_of_length_eq_zero (by rw [r.length]; rfl), hQ σ hF⟩
  | cons d ds => cases q⟩
theorem jts_cons {tg : Expr} {tgs : List Expr} {g : TG} {gs : TGs} {t : D → En → Option En} {ts : List D → En → Option En} (h1 : JTg X tg g t) (h2 : JTgs X tgs gs ts)
    (hs : (assignEach (tg :: tgs) X.env).map (·.2) = assign tg X.env :: (assignEach tgs X.env).map (·.2) := by rfl) : JTgs X (tg :: tgs) (gCons g gs) (nsCons t ts) := ⟨pgs_cons h1.pg h2.pg hs, fun B env σ H xs ds hF r e' q Q hQ => by
  cases ds with
  | nil => cases q
  | cons d ds =>
    cases xs with
    | nil => simp [RpVs] at r
    | cons x xs =>
      rw [RpVs] at r
      have q : (t d env).bind (fun e' => ts ds e') = some e' := q
      cases ht : t d env with
      | none => rw [ht] at q; cases q
      | some e1 =>
        rw [ht] at q
        exact ⟨x, xs, rfl, h1.ok B env σ H x d hF r.1 e1 ht _ fun σ' hF' => h2.ok B e1 σ' H xs ds hF' r.2 e' q Q hQ⟩⟩
theorem jt_tup {es : List Expr} {k : Nat} {g : TGs} {t : List D → En → Option En} {n : Nat} (hc : X.calm = true) (h : JTgs X es g t) (hn : (assignEach es X.env).length = n := by rfl) (hst : (assignEach es X.env).findIdx? (·.1) = none := by rfl)
    (hl : ∀ ds e e', t ds e = some e' → ds.length = n) : JTg X (.Tuple es k pos) (gTup X.K n g) (nTup t) := ⟨pg_tup hc h.pg hn hst, fun B env σ H x d hF r e' q Q hQ => by
  cases d with
  | tup ds =>
    rw [RpV] at r
    obtain ⟨a, xs, rfl, s1, r1⟩ := r
    have q : t ds env = some e' := q
    obtain ⟨f, g', h1, h2, h3, h4⟩ := id hF
    exact ⟨a, xs, rfl, sqt_same (h4.trans (off_sub _ _)) s1, by rw [r1.length]; exact hl ds env e' q, h.ok B env σ H xs ds hF r1 e' q Q hQ⟩
  | v x => cases q
  | lst ds => cases q
  | fro ds => cases q
  | dic ks ds => cases q
  | obj c ns ds => cases q⟩
theorem nsNil_len : ∀ ds e e', nsNil ds e = some e' → ds.length = 0 := fun ds e e' q => by cases ds with
  | nil => rfl
  | cons d ds => cases q
theorem nsCons_len {t : D → En → Option En} {u : List D → En → Option En} {n : Nat} (h : ∀ ds e e', u ds e = some e' → ds.length = n) : ∀ ds e e', nsCons t u ds e = some e' → ds.length = n + 1 := fun ds e e' q => by
  cases ds with
  | nil => cases q
  | cons d ds =>
    have q : (t d e).bind (fun e' => u ds e') = some e' := q
    cases ht : t d e with
    | none => rw [ht] at q; cases q
    | some e1 => rw [ht] at q; rw [List.length_cons, h ds e1 e' q]
/-- a, b = e -/
def sUn (t : D → En → Option En) (p : PX) : En → Ou := fun e => match p e with
  | .ok d => (match t d e with
    | some e' => .nx e'
    | none => .stuck)
  | .exc x => .exc x e
  | .stuck => .stuck
theorem js_un {tg : Expr} {g : TG} {t : D → En → Option En} (h : JF X W a ta pa) (hg : JTg X tg g t) (hs : swapsWithSole [tg] a pos.line X.env = pure false := by rfl) (hw : swappedStores [tg] a X.env = pure none := by rfl)
    (h1 : (assignEach [tg] X.env).map (·.2) = [assign tg X.env] := by rfl) : JS X W (.Assign [tg] a pos) (tAsg ta g) (sUn t pa) := ⟨ps_asg h.pe hg.pg hs hw h1, fun B env σ H hF => by
  unfold sUn
  cases ho : pa env with
  | ok d =>
    simp only
    cases ht : t d env with
    | none => exact Ss.stuck
    | some e' =>
      exact ⟨fun e2 q D hD => (by cases q; exact h.ok B env σ H hF d ho _ fun x H' B' hF' sB r => hg.ok B' env σ H' x d hF' r _ ht _ fun σ' hF2 => hD σ' H' (hF2.under sB)), fun _ _ q => (by cases q), fun _ q => (by cases q), fun _ q => (by cases q), fun _ _ q => (by cases q)⟩
  | exc x => exact ⟨fun _ q => (by cases q), fun _ _ q => (by cases q), fun _ q => (by cases q), fun _ q => (by cases q), fun y e' q' D hD => (by cases q'; exact h.ex B env σ H hF _ ho _ fun cls dd H' hF' r => hD cls dd σ H' hF' r)⟩
  | stuck => exact Ss.stuck⟩
end
end Gw

set_option maxHeartbeats 4000000
/-! GxG: lists that change. -/
namespace PySem.AutoSeq1
theorem list_extend_list_tupleG (l : Addr) (items : Array Value) (n : Nat) (b : Addr) (dd : Option Addr) (sl : Array (Option Value)) (items2 : Array Value) (n2 : Nat) (hs0 : ¬(!items.isEmpty && Builtin.List.listTooLong (items.size + items2.size)) = true) (hs1 : items.size ≤ sizeLine) (hs2 : items.size + items2.size ≤ sizeLine + 1 := by seq_fits) :
    Meets (Builtin.«list.extend» ⟨[.ref l, .ref b], []⟩) (fun _ R s => s.heap.get? l = some { cls := .type "list", dict := none, data := .seq items n, slots := #[] } ∧ s.heap.get? b = some { cls := .type "tuple", dict := dd, data := .seq items2 n2, slots := sl } ∧ R (.ok (.ret Value.none)) { s with heap := s.heap.update l (Obj.mapSeq fun x => x ++ items2), toks := s.toks }) :=
  .of_wp fun prog w A R s h => by
    obtain ⟨hp, g, d, tk, os⟩ := s; obtain ⟨hl, hb, h⟩ := h; have f1 := idx_int; have f2 := sub_tuple_tuple; have f3 := sub_list_list; have f4 := sub_tuple_list; have f5 := sub_list_tuple;
    have hz' : (items ++ items2).size ≤ sizeLine + 1 := by rw [Array.size_append]; exact hs2
    wp_walk using (wpAny_updateSeq hl rfl (hz := hs1) (_hz' := hz')), wpAny_loadPart' hl, wpAny_loadPart' hb; exact ⟨_, rfl, h⟩
end PySem.AutoSeq1
namespace Gw
open PySem PySem.Spec PyProof.Rows L2
section
variable {X : Cx} {W : WX} {a b c e o : Expr} {es : List Expr} {ta tb tc te to : TE} {tes : TA} {pa pb pc : PX} {ps : En → Ev (List D)} {ga gb : En → Eg D} {pos apos : Pos} {K : Kb} {B : Bz} {H H' : Hp} {env : En} {tv : List V} {td : List D} {σ : L2.St}
def rExtendT (K : PySem.W.Frag) : V → List V → Hp → VK → Prop := fun x vs H Q => ∃ l b xs zs, x = .ref l ∧ vs = [.ref b] ∧ H l = some (.lst xs) ∧ SqT K H b zs ∧ xs.length + zs.length ≤ sizeLine ∧ Q .non (upd H l (.lst (xs ++ zs)))
theorem mt_extendT : MtM X "list.extend" (rExtendT X.K) := by
  intro pins s σ H x vs v us Q I rx rv h
  obtain ⟨l, b, xs, zs, rfl, rfl, hH, hB, hz, q⟩ := h
  cases rx
  obtain ⟨u, rfl, ru⟩ := rv.one
  cases ru
  obtain ⟨z, its, n, r, hl, e⟩ := I.lstM hH
  obtain ⟨its2, r2, ⟨ob, e2, c2, n2, d2⟩, z2⟩ := I.tuple hB
  obtain ⟨oc, od, dt, sl⟩ := ob
  simp only at c2 d2
  subst c2 d2
  have hl2 := r2.length
  have hsz : its.toArray.size + its2.toArray.size ≤ sizeLine := by rw [List.size_toArray, List.size_toArray]; omega
  have hlong : ¬ (!its.toArray.isEmpty && Builtin.List.listTooLong (its.toArray.size + its2.toArray.size)) = true := by
    rw [notLongL hsz, Bool.and_false]
    exact Bool.false_ne_true
  refine call_meets F.slot_list_extend ⟨_, e, rfl⟩ F.entry_list_extend (F.args_list_extend_2 _ _)
    (AutoSeq1.list_extend_list_tupleG l its.toArray n b od sl its2.toArray n2 hlong (by rw [List.size_toArray]; omega) (by omega)) ⟨e, e2, ?_⟩
  refine ⟨.non, _, I.lset (its' := its ++ its2) hH e (by simp) (r.append r2) ?_, rfl, q⟩
  rw [List.length_append]
  omega
theorem MtM.or {id : String} {r r' : V → List V → Hp → VK → Prop} (h : MtM X id r) (h' : MtM X id r') : MtM X id (fun x xs H Q => r x xs H Q ∨ r' x xs H Q) := by
  intro pins s σ H x xs v us Q I rx rs q
  rcases q with q | q
  · exact h pins s σ H x xs v us Q I rx rs q
  · exact h' pins s σ H x xs v us Q I rx rs q

theorem RpOs.unapp : ∀ {ds : List D} {xs : List V} {es : List D} {ys : List V} {f : List Addr}, xs.length = ds.length → RpOs K H (xs ++ ys) (ds ++ es) f → ∃ f1 f2, f = f1 ++ f2 ∧ RpOs K H xs ds f1 ∧ RpOs K H ys es f2
  | [], [], _, _, f, _, h => ⟨[], f, rfl, by rw [RpOs], h⟩
  | d :: ds, x :: xs, es, ys, f, l, h => by
    rw [List.cons_append, List.cons_append, RpOs] at h
    obtain ⟨f1, f2, e, h1, h2⟩ := h
    obtain ⟨g1, g2, e2, h3, h4⟩ := RpOs.unapp (by simpa using l) h2
    subst e2
    exact ⟨f1 ++ g1, g2, by rw [e, List.append_assoc], by rw [RpOs]; exact ⟨f1, g1, rfl, h1, h3⟩, h4⟩
  | [], _ :: _, _, _, _, l, _ => by simp at l
  | _ :: _, [], _, _, _, l, _ => by simp at l
theorem Fr.pushs {xs : List V} {ds : List D} {f' : List Addr} (h : Fr K B env tv td σ H) (e : Same H H') (r : RpOs K H' xs ds f') (n : f'.Nodup) (nw : ∀ a ∈ f', H a = none) : Fr K B env (xs ++ tv) (ds ++ td) σ H' := by
  obtain ⟨f, g, h1, h2, h3, h4⟩ := h
  have out : ∀ a o, H a = some o → a ∉ f' := fun a o q hf => by rw [nw a hf] at q; cases q
  have z : Same (off H (f ++ g)) (off H' (f ++ (f' ++ g))) := off_same fun a o e1 e2 => ⟨e a o e1, fun hm => by
    simp only [List.mem_append] at hm e2
    rcases hm with hm | hm | hm
    · exact e2 (.inl hm)
    · exact out a o e1 hm
    · exact e2 (.inr hm)⟩
  have r2 := RpOs.keep (H' := H') (Kt.of e) _ _ _ (fun a _ o q => e a o q) h2
  refine ⟨f, f' ++ g, h1.keep (Kt.of e) z (fun a _ o q => e a o q), RpOs.append r r2, ?_, h4.trans z⟩
  have d1 : ∀ a ∈ f, a ∉ f' := fun a ha => let ⟨_, q, _⟩ := h1.dom a ha; out a _ q
  have d2 : ∀ a ∈ g, a ∉ f' := fun a ha => let ⟨_, q, _⟩ := RpOs.dom _ _ _ h2 a ha; out a _ q
  rw [List.nodup_append] at h3 ⊢
  obtain ⟨n1, n2, n3⟩ := h3
  refine ⟨n1, ?_, fun a ha b hb => ?_⟩
  · rw [List.nodup_append]
    exact ⟨n, n2, fun a ha b hb q => d2 b hb (q ▸ ha)⟩
  · rcases List.mem_append.mp hb with hb | hb
    · exact fun q => d1 a ha (q ▸ hb)
    · exact n3 a ha b hb

/-! ### places that can be written -/
abbrev Lv := Nat × List Pt
/-- an expression that stands for a place of a slot -/
structure JL (X : Cx) (W : WX) (e : Expr) (te : TE) (p : En → Ev Lv) : Prop where
  pe : PE X e te
  sl : SR X.G X.mg W te p fun _ => fun _ _ _ => True
  at_ : ∀ env σ H, Vw X.G H env σ → ∀ l, p env = .ok l → ∀ Q : VK, (∀ x d y H', Same H H' → σ[l.1]? = some (some x) → lk env l.1 = some d → NodeV X.G H' x d l.2 y → Q y H') → te σ H Q
def lVar (i : Nat) : En → Ev Lv := fun env => match lk env i with
  | some _ => .ok (i, [])
  | none => .stuck
theorem jl_var {i : Nat} {x : Str} (h : PE X (.Name x pos) (tVar i)) : JL X W (.Name x pos) (tVar i) (lVar i) := ⟨h, fun env σ H hv => by
    unfold lVar
    cases e : lk env i with
    | none => exact Do.stuck
    | some d =>
      obtain ⟨x, e1, r⟩ := hv.2 i d e
      exact Do.now (x := x) (fun Q h => ⟨x, e1, h⟩) trivial, fun env σ H hv l e Q hQ => by
    unfold lVar at e
    cases e2 : lk env i with
    | none => rw [e2] at e; cases e
    | some d =>
      rw [e2] at e
      cases e
      obtain ⟨x, e1, r⟩ := hv.2 i d e2
      exact ⟨x, e1, hQ x d x H (Same.refl _) e1 e2 nodeV_nil⟩⟩
theorem NodeV.rep : ∀ {π : List Pt} {x : V} {d : D} {y : V} {e : D}, RpV K H x d → NodeV K H x d π y → d.at π = some e → RpV K H y e
  | [], x, d, y, e, r, h, q => by
    have ey := nodeV_eq h
    rw [at_nil] at q
    cases q
    rw [ey]; exact r
  | .ix k :: π, x, .lst ds, y, e, r, h, q => by
    obtain ⟨a, xs, x', d', e1, h1, h2, h3, h4⟩ := h
    subst e1
    rw [RpV] at r
    obtain ⟨a2, xs2, ea, h5, h6⟩ := r
    cases ea
    rw [h1] at h5; cases h5
    obtain ⟨z, ez, rz⟩ := h6.get h3
    rw [h2] at ez; cases ez
    have q : (ds[k]?).bind (fun d => d.at π) = some e := q
    rw [h3] at q
    exact NodeV.rep rz h4 q
  | .fd f :: π, x, .obj c ns ds, y, e, r, h, q => by
    obtain ⟨a, C, dx, fs, k, x', d', e1, h1, hk, h2, h3, h4⟩ := h
    subst e1
    rw [RpV] at r
    obtain ⟨a2, C2, dx2, fs2, ea, _, h5, _, h6⟩ := r
    cases ea
    rw [h1] at h5; cases h5
    obtain ⟨z, ez, rz⟩ := h6.get h3
    rw [h2] at ez; cases ez
    have q : (fIx ns f).bind (fun k => (ds[k]?).bind fun d => d.at π) = some e := q
    rw [hk] at q
    have q : (ds[k]?).bind (fun d => d.at π) = some e := q
    rw [h3] at q
    exact NodeV.rep rz h4 q
  | .fd _ :: _, _, .lst _, _, _, _, h, _ => h.elim
  | .ix _ :: _, _, .obj _ _ _, _, _, _, h, _ => h.elim
  | p :: _, _, .v _, _, _, _, h, _ => by cases p <;> exact False.elim h
  | p :: _, _, .tup _, _, _, _, h, _ => by cases p <;> exact False.elim h
  | p :: _, _, .fro _, _, _, _, h, _ => by cases p <;> exact False.elim h
  | p :: _, _, .dic _ _, _, _, _, h, _ => by cases p <;> exact False.elim h
/-- one step more: e stands at the place, there the step p leads from y to z -/
theorem NodeV.snoc : ∀ {π : List Pt} {x : V} {d : D} {y z : V} {e : D} {p : Pt}, NodeV K H x d π y → d.at π = some e → NodeV K H y e [p] z → NodeV K H x d (π ++ [p]) z
  | [], x, d, y, z, e, p, h, q, g => by
    have ey := nodeV_eq h
    rw [at_nil] at q
    cases q
    rw [← ey]; exact g
  | .ix j :: π, x, .lst es, y, z, e, p, h, q, g => by
    obtain ⟨b, ys, x', d', e1, g1, g2, g3, g4⟩ := h
    have q : (es[j]?).bind (fun d => d.at π) = some e := q
    rw [g3] at q
    exact ⟨b, ys, x', d', e1, g1, g2, g3, NodeV.snoc g4 q g⟩
  | .fd f :: π, x, .obj c ns es, y, z, e, p, h, q, g => by
    obtain ⟨b, C, dx, fs, k, x', d', e1, g1, hk, g2, g3, g4⟩ := h
    have q : (fIx ns f).bind (fun k => (es[k]?).bind fun d => d.at π) = some e := q
    rw [hk] at q
    have q : (es[k]?).bind (fun d => d.at π) = some e := q
    rw [g3] at q
    exact ⟨b, C, dx, fs, k, x', d', e1, g1, hk, g2, g3, NodeV.snoc g4 q g⟩
  | .fd _ :: _, _, .lst _, _, _, _, _, h, _, _ => h.elim
  | .ix _ :: _, _, .obj _ _ _, _, _, _, _, h, _, _ => h.elim
  | p :: _, _, .v _, _, _, _, _, h, _, _ => by cases p <;> exact False.elim h
  | p :: _, _, .tup _, _, _, _, _, h, _, _ => by cases p <;> exact False.elim h
  | p :: _, _, .fro _, _, _, _, _, h, _, _ => by cases p <;> exact False.elim h
  | p :: _, _, .dic _ _, _, _, _, _, h, _, _ => by cases p <;> exact False.elim h
/-- the data at a place -/
def atV (env : En) (l : Lv) : Option D := (lk env l.1).bind fun d => d.at l.2
def lIx (p : En → Ev Lv) (q : PX) : En → Ev Lv := fun env => (p env).bind fun l => (q env).bind fun k => match k with
  | .v (.int k) => (match atV env l with
    | some (.lst ds) => (match ixN ds.length k with
      | some j => if j < ds.length then .ok (l.1, l.2 ++ [.ix j]) else .stuck
      | none => .stuck)
    | _ => .stuck)
  | _ => .stuck
theorem jl_ix {pl : En → Ev Lv} (ha : JL X W a ta pl) (hb : JV X W b tb pb) (hs : PlainIx b) : JL X W (.Subscript a b pos) (tOp (rIx X.K) ta tb) (lIx pl pb) := by
  have key : ∀ env σ H, Vw X.G H env σ → ∀ l, lIx pl pb env = .ok l → ∀ Q : VK, (∀ x d y H', Same H H' → σ[l.1]? = some (some x) → lk env l.1 = some d → NodeV X.G H' x d l.2 y → Q y H') → tOp (rIx X.K) ta tb σ H Q := by
    intro env σ H hv l e Q hQ
    unfold lIx at e
    cases h1 : pl env with
    | exc x => rw [h1] at e; cases e
    | stuck => rw [h1] at e; cases e
    | ok l1 =>
      rw [h1] at e
      simp only [Ev.bind] at e
      cases h2 : pb env with
      | exc x => rw [h2] at e; cases e
      | stuck => rw [h2] at e; cases e
      | ok kd =>
        rw [h2] at e
        simp only at e
        split at e
        · rename_i k
          split at e
          · rename_i ds hd
            split at e
            · rename_i j hj
              split at e
              · rename_i hlt
                cases e
                refine ha.at_ env σ H hv l1 h1 _ fun x d y H1 s1 e1 e2 hn => (hb.sv env σ H1 (hv.mono s1)).ok _ h2 _ fun z H2 s2 rz => ?_
                have ez := rz.atom
                subst ez
                have hn2 := NodeV.mono s2 hn
                unfold atV at hd
                rw [e2] at hd
                have hd : d.at l1.2 = some (.lst ds) := hd
                obtain ⟨x', ex, rx⟩ := (hv.mono (s1.trans s2)).2 l1.1 d e2
                rw [e1] at ex; cases ex
                have ry := NodeV.rep rx hn2 hd
                rw [RpV] at ry
                obtain ⟨p, xs, ey, hp, rs⟩ := ry
                subst ey
                obtain ⟨w, ew, rw_⟩ := rs.get (List.getElem?_eq_getElem hlt)
                refine .inl ⟨p, xs, k, w, rfl, rfl, SqL.of hp, ?_, hQ x d w H2 (s1.trans s2) e1 e2 (NodeV.snoc hn2 hd ⟨p, xs, w, _, rfl, hp, ew, List.getElem?_eq_getElem hlt, nodeV_nil⟩)⟩
                unfold L2.atI
                rw [rs.length, hj]
                exact ew
              · cases e
            · cases e
          · cases e
        · cases e
  refine ⟨pe_ix ix_seq ha.pe hb.pe hs, fun env σ H hv => ?_, key⟩
  refine ⟨fun l e Q hQ => key env σ H hv l e Q fun x d y H' s _ _ _ => hQ y H' s trivial, fun y e Q hQ => ?_⟩
  unfold lIx at e
  cases h1 : pl env with
  | exc x =>
    rw [h1] at e
    cases e
    exact (ha.sl env σ H hv).ex _ h1 _ hQ
  | stuck => rw [h1] at e; cases e
  | ok l1 =>
    rw [h1] at e
    simp only [Ev.bind] at e
    cases h2 : pb env with
    | exc x =>
      rw [h2] at e
      cases e
      exact (ha.sl env σ H hv).ok _ h1 _ fun x H1 s1 _ => (hb.sv env σ H1 (hv.mono s1)).ex _ h2 _ fun cls dd H2 s2 r => hQ cls dd H2 (s1.trans s2) r
    | stuck => rw [h2] at e; cases e
    | ok kd =>
      rw [h2] at e
      simp only at e
      split at e
      · split at e
        · split at e
          · split at e <;> cases e
          · cases e
        · cases e
      · cases e
/-- the list that a slot owns, at a place; written there -/
def atO (env : En) (l : Lv) : Option D := (env[l.1]?).bind fun s => s.od.bind fun d => d.at l.2
def putO (env : En) (l : Lv) (e : D) : En := match env[l.1]? with
  | some s => (match s.od with
    | some d => env.set l.1 (s.re (d.put l.2 e))
    | none => env)
  | none => env
def atL (env : En) (l : Lv) : Option (List D) := match atO env l with
  | some (.lst ds) => some ds
  | _ => none
def putL (env : En) (l : Lv) (ds : List D) : En := putO env l (.lst ds)
theorem atO_lk {l : Lv} {e : D} (h : atO env l = some e) : ∃ s d, env[l.1]? = some s ∧ s.od = some d ∧ lk env l.1 = some d ∧ d.at l.2 = some e := by
  unfold atO at h
  cases hs : env[l.1]? with
  | none => rw [hs] at h; cases h
  | some s =>
    rw [hs] at h
    cases ho : s.od with
    | none =>
      have h : s.od.bind (fun d => d.at l.2) = some e := h
      rw [ho] at h; cases h
    | some d =>
      have h : s.od.bind (fun d => d.at l.2) = some e := h
      rw [ho] at h
      refine ⟨s, d, rfl, ho, ?_, h⟩
      unfold lk
      rw [hs]
      cases s with
      | no => cases ho
      | fz _ => cases ho
      | own _ => exact ho
      | io _ => exact ho
/-- the write at a place, by what was there -/
theorem Fr.writeO {l : Lv} {x : V} {d e e' : D} {a : Addr} {o o' : HO} {tv' : List V} {td' : List D} (h : Fr K B env tv td σ H) (hl : atO env l = some e) (hx : σ[l.1]? = some (some x)) (hd : lk env l.1 = some d) (hn : NodeV K H x d l.2 (.ref a)) (ha : H a = some o) (hw : Wr o)
    (give : ∀ fe g, RpO K H (.ref a) e fe → RpOs K H tv td g → (fe ++ g).Nodup → ∃ fc fc' g', fe = a :: fc ∧ (∀ H', Kt H H' → (∀ b ∈ fc', ∀ o, H b = some o → H' b = some o) → H' a = some o' → RpO K H' (.ref a) e' (a :: fc')) ∧ RpOs K H tv' td' g' ∧ (fc' ++ g').Nodup ∧ ∀ b ∈ fc' ++ g', b ∈ fc ++ g) :
    Fr K B (putO env l e') tv' td' σ (upd H a o') := by
  obtain ⟨s, d2, hs, ho, hd2, he⟩ := atO_lk hl
  rw [hd] at hd2; cases hd2
  have := h.write hs ho hx hn he ha hw give
  unfold putO
  rw [hs]
  simp only [ho]
  exact this
/-- THE WRITE, by places -/
theorem Fr.writeL {l : Lv} {x y : V} {d : D} {ds : List D} (h : Fr K B env tv td σ H) (hl : atL env l = some ds) (hx : σ[l.1]? = some (some x)) (hd : lk env l.1 = some d) (hn : NodeV K H x d l.2 y) :
    ∃ a xs, y = .ref a ∧ H a = some (.lst xs) ∧ RpVs K H xs ds ∧
      ∀ ds' xs' tv' td', ((∀ fc g, RpOs K H xs ds fc → RpOs K H tv td g → (fc ++ g).Nodup → ∃ fc' g', RpOs K H xs' ds' fc' ∧ RpOs K H tv' td' g' ∧ (fc' ++ g').Nodup ∧ ∀ b ∈ fc' ++ g', b ∈ fc ++ g) →
        Fr K B (putL env l ds') tv' td' σ (upd H a (.lst xs'))) := by
  unfold atL at hl
  split at hl
  · rename_i ds2 ha
    cases hl
    obtain ⟨s, d2, hs, ho, hd2, he⟩ := atO_lk ha
    rw [hd] at hd2; cases hd2
    obtain ⟨x2, ex, rx⟩ := h.vw.2 l.1 d hd
    rw [hx] at ex; cases ex
    have ry := NodeV.rep rx hn he
    rw [RpV] at ry
    obtain ⟨a, xs, rfl, hp, rs⟩ := ry
    refine ⟨a, xs, rfl, hp, rs, fun ds' xs' tv' td' give => h.writeO ha hx hd hn hp .lst fun fe g r1 r2 n => ?_⟩
    rw [RpO] at r1
    obtain ⟨a2, xs2, fc, ea, hp2, rfl, r3⟩ := r1
    cases ea
    rw [hp] at hp2; cases hp2
    have n2 : (fc ++ g).Nodup := by rw [List.cons_append, List.nodup_cons] at n; exact n.2
    obtain ⟨fc', g', q1, q2, q3, q4⟩ := give fc g r3 r2 n2
    refine ⟨fc, fc', g', rfl, fun H' kt kp ha' => ?_, q2, q3, q4⟩
    rw [RpO]
    exact ⟨a, xs', fc', rfl, ha', rfl, RpOs.keep kt _ _ _ kp q1⟩
  · cases hl
/-! ### what a list does -/
/-- a method of a list that takes nothing in hand but what it is given -/
theorem tyL {K : PySem.W.Frag} {y : Addr} {xs : List V} (h : H y = some (.lst xs)) : tyV K "list" (.ref y) H := .inl ⟨rfl, xs, SqL.of h⟩
/-- xs.append(g), xs a name -/
def sAppend (i : Nat) (g : En → Eg D) : En → Ou := fun env => match atL env (i, []) with
  | some _ => (match g env with
    | .ok d e => (match atL e (i, []) with
      | some ds => if ds.length < sizeLine then .nx (putL e (i, []) (ds ++ [d])) else .stuck
      | none => .stuck)
    | .exc x e => .exc x e
    | .stuck => .stuck)
  | none => .stuck
theorem lk_of {i : Nat} {ds : List D} (h : atL env (i, []) = some ds) : lk env i = some (.lst ds) := by
  unfold atL at h
  split at h
  · rename_i ds2 ha
    cases h
    obtain ⟨s, d, _, _, hd, he⟩ := atO_lk ha
    rw [at_nil] at he
    rw [hd, he]
  · cases h
theorem give_app {xs : List V} {ds : List D} {x : V} {d : D} {fc g : List Addr} (h1 : RpOs K H xs ds fc) (h2 : RpOs K H (x :: tv) (d :: td) g) (n : (fc ++ g).Nodup) :
    ∃ fc' g', RpOs K H (xs ++ [x]) (ds ++ [d]) fc' ∧ RpOs K H tv td g' ∧ (fc' ++ g').Nodup ∧ ∀ b ∈ fc' ++ g', b ∈ fc ++ g := by
  rw [RpOs] at h2
  obtain ⟨g1, g2, e0, r1, r2⟩ := h2
  subst e0
  exact ⟨fc ++ g1, g2, RpOs.append h1 (RpOs.one r1), r2, by rw [List.append_assoc]; exact n, fun b hb => by rw [List.append_assoc] at hb; exact hb⟩
theorem js_append {i : Nat} {x : Str} {p1 : Pos} (hv : PE X (.Name x p1) (tVar i)) (h : JG X W a ta ga) (hbase : attributeBase (.Name x p1) "append" X.env (eval (.Name x p1) X.env) = eval (.Name x p1) X.env := by rfl)
    (hline : (apos.endLine == pos.line) = true := by rfl) (hs : starEach [a] X.env = (false, eval a X.env) :: starEach [] X.env := by rfl) {epos : Pos}
    (hfew : ((backTo pos (starEach [a] X.env)).all (fun x => !x.1) && (backToKw pos (keywordEach [] X.env)).all (fun x => x.1.isSome) && decide (([a] : List Expr).length + ([] : List Keyword).length + (if ([] : List Keyword).isEmpty then 0 else 1) < 30)) = true := by rfl) (hsw2 : swapsWith (.Call (.Attribute (.Name x p1) "append" apos) [a] [] pos) none epos.line X.env = pure false := by rfl) :
    JS X W (.Expr (.Call (.Attribute (.Name x p1) "append" apos) [a] [] pos) epos) (tDrop (tBM X.K "list" rAppend (tVar i) (tCons ta tNil))) (sAppend i ga) :=
  ⟨ps_expr (pe_bm PySem.F.plainAttrs_list PySem.F.slot_list_append PySem.F.type_list_append mt_append hv (pa_cons h.pe pa_nil hs) hbase hfew hline hs (by rfl)) hsw2, fun B env σ H hF => by
    unfold sAppend
    cases h0 : atL env (i, []) with
    | none => exact Ss.stuck
    | some ds0 =>
      simp only
      obtain ⟨x0, ex, rx⟩ := hF.vw.2 i _ (lk_of h0)
      rw [RpV] at rx
      obtain ⟨a0, xs0, rfl, hp0, _⟩ := rx
      have q := h.sg B env [] [] σ H hF
      cases ho : ga env with
      | ok d e =>
        simp only
        cases h1 : atL e (i, []) with
        | none => exact Ss.stuck
        | some ds =>
          simp only
          split
          · rename_i hlt
            refine ⟨fun e' q' D hD => ?_, fun _ _ q => (by cases q), fun _ q => (by cases q), fun _ q => (by cases q), fun _ _ q => (by cases q)⟩
            cases q'
            refine ⟨.ref a0, ex, tyL hp0, q.ok d e ho _ fun z H1 hF1 => ?_⟩
            obtain ⟨a1, xs, ea, hp, rs, w⟩ := hF1.writeL h1 ex (lk_of h1) nodeV_nil
            cases ea
            exact ⟨a0, xs, z, rfl, rfl, hp, by rw [rs.length]; exact hlt, hD _ _ (w _ _ _ _ fun fc g r1 r2 n => give_app r1 r2 n)⟩
          · exact Ss.stuck
      | exc y e => exact ⟨fun _ q => (by cases q), fun _ _ q => (by cases q), fun _ q => (by cases q), fun _ q => (by cases q), fun y' e' q' D hD => (by cases q'; exact ⟨.ref a0, ex, tyL hp0, q.ex _ _ ho _ fun cls dd H' hF' r => hD cls dd σ H' hF' r⟩)⟩
      | stuck => exact Ss.stuck⟩
/-- a method of a list, by what it makes of the list and of what it is given (owned | seen): what comes back, what the list is then -/
def ListM (X : Cx) (r : V → List V → Hp → VK → Prop) (eff : List D → List D → Option (D × List D)) : Prop :=
  ∀ (H : Hp) (a : Addr) (xs : List V) (ds : List D) (vs : List V) (es : List D) (res : D) (ds' : List D), H a = some (.lst xs) → RpVs X.G H xs ds → RpVs X.G H vs es → eff ds es = some (res, ds') →
    ∀ Q : VK, (∀ y xs', (∀ fc fe, RpOs X.G H xs ds fc → RpOs X.G H vs es fe → (fc ++ fe).Nodup → ∃ fc' fr, RpOs X.G H xs' ds' fc' ∧ RpO X.G H y res fr ∧ (fc' ++ fr).Nodup ∧ ∀ b ∈ fc' ++ fr, b ∈ fc ++ fe) → Q y (upd H a (.lst xs'))) → r (.ref a) vs H Q
def ListMV (X : Cx) (r : V → List V → Hp → VK → Prop) (eff : List D → List D → Option (D × List D)) : Prop :=
  ∀ (H : Hp) (a : Addr) (xs : List V) (ds : List D) (vs : List V) (es : List D) (res : D) (ds' : List D), H a = some (.lst xs) → RpVs X.G H xs ds → RpVs X.G H vs es → eff ds es = some (res, ds') →
    ∀ Q : VK, (∀ y xs', (∀ fc, RpOs X.G H xs ds fc → fc.Nodup → ∃ fc' fr, RpOs X.G H xs' ds' fc' ∧ RpO X.G H y res fr ∧ (fc' ++ fr).Nodup ∧ ∀ b ∈ fc' ++ fr, b ∈ fc) → Q y (upd H a (.lst xs'))) → r (.ref a) vs H Q
def gM (p : En → Ev Lv) (eff : List D → List D → Option (D × List D)) (ps : En → Ev (List D)) : En → Eg D := fun env => match p env with
  | .ok l => (match atL env l with
    | some ds => (match ps env with
      | .ok es => (match eff ds es with
        | some (res, ds') => .ok res (putL env l ds')
        | none => .stuck)
      | .exc x => .exc x env
      | .stuck => .stuck)
    | none => .stuck)
  | .exc x => .exc x env
  | .stuck => .stuck
theorem gd_stuck {mg : Str → Option Value} {t : Hp → VK → Prop} : Gd K mg W B tv td σ H t .stuck := ⟨fun _ _ q => (by cases q), fun _ _ q => (by cases q)⟩
/-- the steps that all these share -/
theorem gd_meth {pl : En → Ev Lv} {r : V → List V → Hp → VK → Prop} {eff : List D → List D → Option (D × List D)} (hl : JL X W o to pl) (hF : Fr X.G B env tv td σ H)
    (ha : ∀ H1, Same H H1 → Do X.G X.mg W σ H1 (tes σ) (ps env) (fun _ _ _ => True))
    (go : ∀ l ds es res ds' (H1 : Hp) x0 d0 y, pl env = .ok l → atL env l = some ds → ps env = .ok es → eff ds es = some (res, ds') → Same H H1 → σ[l.1]? = some (some x0) → lk env l.1 = some d0 → NodeV X.G H1 x0 d0 l.2 y → ∀ Q : VK,
      (∀ x H', Fr X.G B (putL env l ds') (x :: tv) (res :: td) σ H' → Q x H') → tes σ H1 fun xs H2 => r y xs H2 Q) :
    Gd X.G X.mg W B tv td σ H (tBM X.K "list" r to tes σ) (gM pl eff ps env) := by
  unfold gM
  cases hp : pl env with
  | exc x => exact ⟨fun _ _ q => (by cases q), fun y e q Q hQ => (by cases q; exact (hl.sl env σ H hF.vw).ex _ hp _ fun cls dd H' s r => hQ cls dd H' (hF.mono s) r)⟩
  | stuck => exact gd_stuck
  | ok l =>
    simp only
    cases h1 : atL env l with
    | none => exact gd_stuck
    | some ds =>
      simp only
      have start : ∀ Q : VK, (∀ y x0 d0 H1, Same H H1 → σ[l.1]? = some (some x0) → lk env l.1 = some d0 → NodeV X.G H1 x0 d0 l.2 y → tes σ H1 fun xs H2 => r y xs H2 Q) → tBM X.K "list" r to tes σ H Q := fun Q h => by
        refine hl.at_ env σ H hF.vw l hp _ fun x0 d0 y H1 s1 e1 e2 hn => ?_
        obtain ⟨a1, xs1, rfl, hp1, _, _⟩ := (hF.mono s1).writeL h1 e1 e2 hn
        exact ⟨tyL hp1, h _ x0 d0 H1 s1 e1 e2 hn⟩
      cases hq : ps env with
      | stuck => exact gd_stuck
      | exc x => exact ⟨fun _ _ q => (by cases q), fun y e q Q hQ => (by cases q; exact start Q fun y x0 d0 H1 s1 e1 e2 hn => (ha H1 s1).ex _ hq _ fun cls dd H' s r => hQ cls dd H' (hF.mono (s1.trans s)) r)⟩
      | ok es =>
        simp only
        cases he : eff ds es with
        | none => exact gd_stuck
        | some rd =>
          obtain ⟨res, ds'⟩ := rd
          exact ⟨fun d e q Q hQ => (by cases q; exact start Q fun y x0 d0 H1 s1 e1 e2 hn => go l ds es _ ds' H1 x0 d0 y hp h1 hq he s1 e1 e2 hn Q hQ), fun _ _ q => (by cases q)⟩
theorem gd_own {pl : En → Ev Lv} {r : V → List V → Hp → VK → Prop} {eff : List D → List D → Option (D × List D)} (hl : JL X W o to pl) (hF : Fr X.G B env tv td σ H) (hm : ListM X r eff) (ha : SR X.G X.mg W tes ps (ROs X.G)) :
    Gd X.G X.mg W B tv td σ H (tBM X.K "list" r to tes σ) (gM pl eff ps env) := by
  refine gd_meth hl hF (fun H1 s1 => (ha env σ H1 (hF.mono s1).vw).imp fun _ _ _ _ _ => trivial) fun l ds es res ds' H1 x0 d0 y hp h1 hq he s1 e1 e2 hn Q hQ => ?_
  refine (ha env σ H1 (hF.mono s1).vw).ok es hq _ fun vs H2 s2 rv => ?_
  obtain ⟨fe, oe, ne, we⟩ := rv
  have hF2 := (hF.mono s1).pushs s2 oe ne we
  obtain ⟨a1, xs, rfl, hp1, rs, w⟩ := hF2.writeL h1 e1 e2 (NodeV.mono s2 hn)
  refine hm H2 a1 xs ds vs es res ds' hp1 rs (RpOs.view _ _ _ oe) he Q fun z xs' give => hQ z _ ?_
  refine w ds' xs' (z :: tv) (res :: td) fun fc g r1 r2 n => ?_
  obtain ⟨fe', g2, eg, r3, r4⟩ := RpOs.unapp oe.len r2
  subst eg
  have n1 : (fc ++ fe').Nodup := by rw [← List.append_assoc] at n; exact (List.nodup_append.mp n).1
  obtain ⟨fc', fr, q1, q2, q3, q4⟩ := give fc fe' r1 r3 n1
  refine ⟨fc', fr ++ g2, q1, by rw [RpOs]; exact ⟨fr, g2, rfl, q2, r4⟩, ?_, fun b hb => ?_⟩
  · rw [← List.append_assoc] at n ⊢
    rw [List.nodup_append] at n ⊢
    exact ⟨q3, n.2.1, fun x hx y hy => n.2.2 x (q4 x hx) y hy⟩
  · rw [← List.append_assoc] at hb ⊢
    rcases List.mem_append.mp hb with hb | hb
    · exact List.mem_append_left _ (q4 b hb)
    · exact List.mem_append_right _ hb
theorem gd_seen {pl : En → Ev Lv} {r : V → List V → Hp → VK → Prop} {eff : List D → List D → Option (D × List D)} (hl : JL X W o to pl) (hF : Fr X.G B env tv td σ H) (hm : ListMV X r eff) (ha : SR X.G X.mg W tes ps fun _ => RpVs X.G) :
    Gd X.G X.mg W B tv td σ H (tBM X.K "list" r to tes σ) (gM pl eff ps env) := by
  refine gd_meth hl hF (fun H1 s1 => (ha env σ H1 (hF.mono s1).vw).imp fun _ _ _ _ _ => trivial) fun l ds es res ds' H1 x0 d0 y hp h1 hq he s1 e1 e2 hn Q hQ => ?_
  refine (ha env σ H1 (hF.mono s1).vw).ok es hq _ fun vs H2 s2 rv => ?_
  have hF2 := hF.mono (s1.trans s2)
  obtain ⟨a1, xs, rfl, hp1, rs, w⟩ := hF2.writeL h1 e1 e2 (NodeV.mono s2 hn)
  refine hm H2 a1 xs ds vs es res ds' hp1 rs rv he Q fun z xs' give => hQ z _ ?_
  refine w ds' xs' (z :: tv) (res :: td) fun fc g r1 r2 n => ?_
  obtain ⟨fc', fr, q1, q2, q3, q4⟩ := give fc r1 (List.nodup_append.mp n).1
  refine ⟨fc', fr ++ g, q1, by rw [RpOs]; exact ⟨fr, g, rfl, q2, r2⟩, ?_, fun b hb => ?_⟩
  · rw [← List.append_assoc]
    rw [List.nodup_append] at n ⊢
    exact ⟨q3, n.2.1, fun x hx y hy => n.2.2 x (q4 x hx) y hy⟩
  · rw [← List.append_assoc] at hb
    rcases List.mem_append.mp hb with hb | hb
    · exact List.mem_append_left _ (q4 b hb)
    · exact List.mem_append_right _ hb
/-! ### the methods -/
abbrev Fx := List D → List D → Option (D × List D)
def fxAppend : Fx := fun ds es => match es with
  | [d] => if ds.length < sizeLine then some (.n, ds ++ [d]) else none
  | _ => none
theorem lm_append : ListM X rAppend fxAppend := fun H a xs ds vs es res ds' hp rs rv he Q hQ => by
  unfold fxAppend at he
  split at he
  · split at he
    · rename_i d hz
      cases he
      obtain ⟨x, rfl, r1⟩ := rv.one
      refine ⟨a, xs, x, rfl, rfl, hp, by rw [rs.length]; exact hz, hQ _ _ fun fc fe o1 o2 n => ?_⟩
      exact ⟨fc ++ fe, [], RpOs.append o1 o2, by rw [RpO]; exact ⟨rfl, rfl⟩, by simpa using n, fun b hb => by simpa using hb⟩
    · cases he
  · cases he
def fxPop : Fx := fun ds es => match es with
  | [] => (match ds[ds.length - 1]? with
    | some d => some (d, ds.dropLast)
    | none => none)
  | _ => none
theorem RpOs.last : ∀ {ds : List D} {xs : List V} {f : List Addr} {d : D}, RpOs K H xs ds f → ds[ds.length - 1]? = some d → ∃ fa fi x, f = fa ++ fi ∧ xs[xs.length - 1]? = some x ∧ RpO K H x d fi ∧ RpOs K H xs.dropLast ds.dropLast fa := fun {ds xs f d} h e => by
  obtain ⟨fa, fi, fb, x, e1, e2, h1, h2, h3⟩ := RpOs.split h e
  have hl := h.len
  have hne : 0 < ds.length := by
    cases ds with
    | nil => simp at e
    | cons _ _ => simp
  rw [List.drop_eq_nil_of_le (by omega), List.drop_eq_nil_of_le (by omega), RpOs] at h3
  subst h3
  rw [List.dropLast_eq_take, List.dropLast_eq_take, hl]
  exact ⟨fa, fi, x, by simpa using e1, e2, h1, h2⟩
theorem lm_pop : ListMV X rPop fxPop := fun H a xs ds vs es res ds' hp rs rv he Q hQ => by
  unfold fxPop at he
  split at he
  · split at he
    · rename_i d hd
      cases he
      have ev : vs = [] := List.eq_nil_of_length_eq_zero (by rw [rv.length]; rfl)
      obtain ⟨x, ex, _⟩ := rs.get hd
      refine ⟨a, xs, x, rfl, ev, hp, by rw [rs.length]; exact ex, hQ _ _ fun fc o1 n => ?_⟩
      obtain ⟨fa, fi, x2, e1, e2, h1, h2⟩ := RpOs.last o1 hd
      rw [rs.length, ex] at e2; cases e2
      subst e1
      exact ⟨fa, fi, h2, h1, n, fun b hb => hb⟩
    · cases he
  · cases he
def fxPopAt : Fx := fun ds es => match es with
  | [.v (.int i)] => if -(2 ^ 63) ≤ i ∧ i < 2 ^ 63 then (match seqIndex? i ds.length with
    | some k => (match ds[k]? with
      | some d => some (d, ds.eraseIdx k)
      | none => none)
    | none => none) else none
  | _ => none
theorem lm_popAt : ListMV X rPopAt fxPopAt := fun H a xs ds vs es res ds' hp rs rv he Q hQ => by
  unfold fxPopAt at he
  split at he
  · split at he
    · rename_i i hi
      split at he
      · rename_i k hk
        split at he
        · rename_i d hd
          cases he
          obtain ⟨x, rfl, r1⟩ := rv.one
          rw [r1.atom]
          obtain ⟨z, ez, _⟩ := rs.get hd
          refine ⟨a, xs, i, k, z, rfl, rfl, hp, hi.1, hi.2, by rw [rs.length]; exact hk, ez, hQ _ _ fun fc o1 n => ?_⟩
          obtain ⟨fa, fi, fb, x2, e1, e2, h1, h2, h3⟩ := RpOs.split o1 hd
          rw [ez] at e2; cases e2
          subst e1
          refine ⟨fa ++ fb, fi, ?_, h1, ?_, fun b hb => ?_⟩
          · rw [List.eraseIdx_eq_take_drop_succ, List.eraseIdx_eq_take_drop_succ]
            exact RpOs.append h2 h3
          · refine List.Perm.nodup ?_ n
            rw [List.append_assoc]
            exact List.Perm.append_left fa List.perm_append_comm
          · simp only [List.mem_append] at hb ⊢
            rcases hb with (hb | hb) | hb
            · exact .inl hb
            · exact .inr (.inr hb)
            · exact .inr (.inl hb)
        · cases he
      · cases he
    · cases he
  · cases he
def fxExtend : Fx := fun ds es => match es with
  | [.tup zs] => if ds.length + zs.length ≤ sizeLine ∧ imms zs = true then some (.n, ds ++ zs) else none
  | [.lst zs] => if ds.length + zs.length ≤ sizeLine ∧ imms zs = true then some (.n, ds ++ zs) else none
  | _ => none
def rExtU (K : PySem.W.Frag) : V → List V → Hp → VK → Prop := fun x xs H Q => rExtend x xs H Q ∨ rExtendT K x xs H Q
theorem mt_extU : MtM X "list.extend" (rExtU X.K) := MtM.or mt_extend mt_extendT
theorem lm_extend : ListMV X (rExtU X.K) fxExtend := fun H a xs ds vs es res ds' hp rs rv he Q hQ => by
  have fin : ∀ {zs : List D} {ws : List V}, imms zs = true → RpVs X.G H ws zs → ∀ fc, RpOs X.G H xs ds fc → fc.Nodup → ∃ fc' fr, RpOs X.G H (xs ++ ws) (ds ++ zs) fc' ∧ RpO X.G H V.non D.n fr ∧ (fc' ++ fr).Nodup ∧ ∀ b ∈ fc' ++ fr, b ∈ fc := fun im r fc o1 n =>
    ⟨fc ++ [], [], RpOs.append o1 (RpVs.imms _ _ im r), by rw [RpO]; exact ⟨rfl, rfl⟩, by simpa using n, fun b hb => by simpa using hb⟩
  unfold fxExtend at he
  split at he
  · split at he
    · rename_i zs hz
      cases he
      obtain ⟨x, rfl, r1⟩ := rv.one
      rw [RpV] at r1
      obtain ⟨b, ws, rfl, s1, q1⟩ := r1
      exact .inr ⟨a, b, xs, ws, rfl, rfl, hp, s1, by rw [rs.length, q1.length]; exact hz.1, hQ _ _ (fin hz.2 q1)⟩
    · cases he
  · split at he
    · rename_i zs hz
      cases he
      obtain ⟨x, rfl, r1⟩ := rv.one
      rw [RpV] at r1
      obtain ⟨b, ws, rfl, s1, q1⟩ := r1
      exact .inl ⟨a, b, xs, ws, rfl, rfl, hp, s1, by rw [rs.length, q1.length]; exact hz.1, hQ _ _ (fin hz.2 q1)⟩
    · cases he
  · cases he
def rInsert : V → List V → Hp → VK → Prop := fun x vs H Q => ∃ (l : Addr) (xs : List V) (i : Int) (y : V), x = .ref l ∧ vs = [.int i, y] ∧ H l = some (.lst xs) ∧ xs.length < sizeLine ∧ 0 ≤ i ∧ i < 2 ^ 63 ∧
    Q .non (upd H l (.lst (xs.take i.toNat ++ [y] ++ xs.drop i.toNat)))
def fxInsert : Fx := fun ds es => match es with
  | [.v (.int i), d] => if ds.length < sizeLine ∧ 0 ≤ i ∧ i < 2 ^ 63 ∧ imm d = true then some (.n, ds.take i.toNat ++ [d] ++ ds.drop i.toNat) else none
  | _ => none
theorem RpOs.take_drop (n : Nat) : ∀ {ds : List D} {xs : List V} {f : List Addr}, RpOs K H xs ds f → ∃ fa fb, f = fa ++ fb ∧ RpOs K H (xs.take n) (ds.take n) fa ∧ RpOs K H (xs.drop n) (ds.drop n) fb := by
  induction n with
  | zero => exact fun h => ⟨[], _, rfl, by rw [List.take_zero, List.take_zero, RpOs], h⟩
  | succ n ih =>
    intro ds xs f h
    cases ds with
    | nil =>
      cases xs with
      | nil => rw [RpOs] at h; exact ⟨[], [], by rw [h]; rfl, by rw [List.take_nil, List.take_nil, RpOs], by rw [List.drop_nil, List.drop_nil, RpOs]⟩
      | cons _ _ => simp [RpOs] at h
    | cons d ds =>
      cases xs with
      | nil => simp [RpOs] at h
      | cons x xs =>
        rw [RpOs] at h
        obtain ⟨f1, f2, e, h1, h2⟩ := h
        obtain ⟨fa, fb, e2, h3, h4⟩ := ih h2
        subst e2
        refine ⟨f1 ++ fa, fb, by rw [e, List.append_assoc], ?_, h4⟩
        rw [List.take_succ_cons, List.take_succ_cons, RpOs]
        exact ⟨f1, fa, rfl, h1, h3⟩
theorem lm_insert : ListMV X rInsert fxInsert := fun H a xs ds vs es res ds' hp rs rv he Q hQ => by
  unfold fxInsert at he
  split at he
  · split at he
    · rename_i i d hz
      cases he
      obtain ⟨x, y, rfl, r1, r2⟩ := rv.two
      rw [r1.atom]
      refine ⟨a, xs, i, y, rfl, rfl, hp, by rw [rs.length]; exact hz.1, hz.2.1, hz.2.2.1, hQ _ _ fun fc o1 n => ?_⟩
      obtain ⟨fa, fb, e, h1, h2⟩ := RpOs.take_drop i.toNat o1
      subst e
      have := RpOs.append (RpOs.append h1 (RpOs.one (RpV.imm _ _ hz.2.2.2 r2))) h2
      exact ⟨_, [], this, by rw [RpO]; exact ⟨rfl, rfl⟩, by simpa using n, fun b hb => by simpa using hb⟩
    · cases he
  · cases he
/-- o.m(..) of a list, the judgement | without arguments -/
theorem jg_own {name : Str} {id : String} {r : V → List V → Hp → VK → Prop} {eff : Fx} {pl : En → Ev Lv} (slot : Slot "list" name id) (hty : typeOf (.builtin id) = pure (.type "method_descriptor")) (hm : MtR X id r) (lm : ListM X r eff) (hl : JL X W o to pl) (ha : JBs X W (e :: es) tes ps)
    (hbase : attributeBase o name X.env (eval o X.env) = eval o X.env := by rfl)
    (hfew : ((backTo pos (starEach (e :: es) X.env)).all (fun x => !x.1) && (backToKw pos (keywordEach [] X.env)).all (fun x => x.1.isSome) && decide ((e :: es).length + ([] : List Keyword).length + (if ([] : List Keyword).isEmpty then 0 else 1) < 30)) = true := by rfl)
    (hline : (apos.endLine == pos.line) = true := by rfl) (hs : starEach (e :: es) X.env = (false, eval e X.env) :: starEach es X.env := by rfl) (hplain : (backTo pos (starEach es X.env)).any (·.1) = false := by rfl) :
    JG X W (.Call (.Attribute o name apos) (e :: es) [] pos) (tBM X.K "list" r to tes) (gM pl eff ps) := ⟨pe_bm PySem.F.plainAttrs_list slot hty hm hl.pe ha.pa hbase hfew hline hs hplain, fun B env tv td σ H hF => gd_own hl hF lm ha.sa⟩
theorem jg_seen {name : Str} {id : String} {r : V → List V → Hp → VK → Prop} {eff : Fx} {pl : En → Ev Lv} (slot : Slot "list" name id) (hty : typeOf (.builtin id) = pure (.type "method_descriptor")) (hm : MtR X id r) (lm : ListMV X r eff) (hl : JL X W o to pl) (ha : JAs X W (e :: es) tes ps)
    (hbase : attributeBase o name X.env (eval o X.env) = eval o X.env := by rfl)
    (hfew : ((backTo pos (starEach (e :: es) X.env)).all (fun x => !x.1) && (backToKw pos (keywordEach [] X.env)).all (fun x => x.1.isSome) && decide ((e :: es).length + ([] : List Keyword).length + (if ([] : List Keyword).isEmpty then 0 else 1) < 30)) = true := by rfl)
    (hline : (apos.endLine == pos.line) = true := by rfl) (hs : starEach (e :: es) X.env = (false, eval e X.env) :: starEach es X.env := by rfl) (hplain : (backTo pos (starEach es X.env)).any (·.1) = false := by rfl) :
    JG X W (.Call (.Attribute o name apos) (e :: es) [] pos) (tBM X.K "list" r to tes) (gM pl eff ps) := ⟨pe_bm PySem.F.plainAttrs_list slot hty hm hl.pe ha.pa hbase hfew hline hs hplain, fun B env tv td σ H hF => gd_seen hl hF lm ha.sa⟩
theorem jg_seen0 {name : Str} {id : String} {r : V → List V → Hp → VK → Prop} {eff : Fx} {pl : En → Ev Lv} (slot : Slot "list" name id) (hty : typeOf (.builtin id) = pure (.type "method_descriptor")) (hm : MtR X id r) (lm : ListMV X r eff) (hl : JL X W o to pl)
    (hbase : attributeBase o name X.env (eval o X.env) = eval o X.env := by rfl) (hline : (apos.endLine == pos.line) = true := by rfl) :
    JG X W (.Call (.Attribute o name apos) [] [] pos) (tBM0 X.K "list" r to) (gM pl eff aNil) := ⟨pe_bm0 PySem.F.plainAttrs_list slot hty hm hl.pe hbase hline, fun B env tv td σ H hF => gd_seen (tes := tNil) hl hF lm (ja_nil (X := X) (W := W)).sa⟩
theorem jg_pop {pl : En → Ev Lv} (hl : JL X W o to pl) (hbase : attributeBase o "pop" X.env (eval o X.env) = eval o X.env := by rfl) (hline : (apos.endLine == pos.line) = true := by rfl) :
    JG X W (.Call (.Attribute o "pop" apos) [] [] pos) (tBM0 X.K "list" rPop to) (gM pl fxPop aNil) := jg_seen0 PySem.F.slot_list_pop PySem.F.type_list_pop mt_pop lm_pop hl hbase hline
end
end Gw

set_option maxHeartbeats 4000000
/-! GxH: tuples of what changes, xs[k] = e, loops, comprehensions, defs. -/
namespace Gw
open PySem PySem.Spec PyProof.Rows L2
section
variable {X : Cx} {W : WX} {a b c e o : Expr} {es : List Expr} {ta tb tc te to : TE} {tes : TA} {pa pb pc : PX} {ps : En → Ev (List D)} {ga gb : En → Eg D} {gs : En → Eg (List D)} {pos apos : Pos} {K : Kb} {mg : Str → Option Value} {B : Bz} {H H' : Hp} {env : En} {tv : List V} {td : List D} {σ : L2.St}
/-! ### (g, h, ..) of what changes -/
theorem RpOs.rev : ∀ {ds : List D} {xs : List V} {f : List Addr}, RpOs K H xs ds f → ∃ f', RpOs K H xs.reverse ds.reverse f' ∧ f'.Perm f
  | [], [], f, h => ⟨f, h, List.Perm.refl _⟩
  | d :: ds, x :: xs, f, h => by
    rw [RpOs] at h
    obtain ⟨f1, f2, e, h1, h2⟩ := h
    obtain ⟨g, h3, h4⟩ := RpOs.rev h2
    subst e
    rw [List.reverse_cons, List.reverse_cons]
    exact ⟨g ++ f1, RpOs.append h3 (RpOs.one h1), (List.Perm.append_right f1 h4).trans List.perm_append_comm⟩
  | [], _ :: _, _, h => by simp [RpOs] at h
  | _ :: _, [], _, h => by simp [RpOs] at h
theorem Fr.pack {xs : List V} {ds : List D} {p : Addr} (h : Fr K B env (xs.reverse ++ tv) (ds.reverse ++ td) σ H) (hl : xs.length = ds.length) (np : H p = none) : Fr K B env (.ref p :: tv) (.tup ds :: td) σ (upd H p (.tup xs)) := by
  have h := h.mono (same_new (o := .tup xs) np)
  obtain ⟨f, g, h1, h2, h3, h4⟩ := h
  obtain ⟨g1, g2, e, r1, r2⟩ := RpOs.unapp (by rw [List.length_reverse, List.length_reverse]; exact hl) h2
  subst e
  obtain ⟨g1', r3, pm⟩ := RpOs.rev r1
  rw [List.reverse_reverse, List.reverse_reverse] at r3
  have mem : ∀ a, a ∈ f ++ (g1' ++ g2) ↔ a ∈ f ++ (g1 ++ g2) := fun a => by
    simp only [List.mem_append]
    rw [pm.mem_iff]
  have z : Same (off (upd H p (.tup xs)) (f ++ (g1 ++ g2))) (off (upd H p (.tup xs)) (f ++ (g1' ++ g2))) := off_same fun a o e1 e2 => ⟨e1, fun hm => e2 ((mem a).mp hm)⟩
  refine ⟨f, g1' ++ g2, h1.keep (Kt.refl _) z (fun _ _ _ q => q), ?_, ?_, h4.trans z⟩
  · rw [RpOs]
    refine ⟨g1', g2, rfl, ?_, r2⟩
    rw [RpO]
    exact ⟨p, xs, rfl, .inl (.inl upd_same), r3⟩
  · refine List.Perm.nodup ?_ h3
    exact List.Perm.append_left f (List.Perm.append_right g2 pm.symm)
def gNil : En → Eg (List D) := fun e => .ok [] e
def gCons (g : En → Eg D) (r : En → Eg (List D)) : En → Eg (List D) := fun e => match g e with
  | .ok d e1 => (match r e1 with
    | .ok ds e2 => .ok (d :: ds) e2
    | .exc x e2 => .exc x e2
    | .stuck => .stuck)
  | .exc x e1 => .exc x e1
  | .stuck => .stuck
theorem jgs_nil : JGs X W [] tNil gNil := ⟨pa_nil, fun B env tv td σ H hF => ⟨fun ds e q Q hQ => (by cases q; exact hQ [] H hF rfl), fun _ _ q => (by cases q)⟩⟩
theorem jgs_cons (h : JG X W a ta ga) (hr : JGs X W es tes gs) (hs : starEach (a :: es) X.env = (false, eval a X.env) :: starEach es X.env := by rfl) : JGs X W (a :: es) (tCons ta tes) (gCons ga gs) := ⟨pa_cons h.pe hr.pa hs, fun B env tv td σ H hF => by
  have q := h.sg B env tv td σ H hF
  unfold gCons
  cases ho : ga env with
  | ok d e1 =>
    simp only
    cases ho2 : gs e1 with
    | ok ds e2 =>
      refine ⟨fun ds' e' q' Q hQ => ?_, fun _ _ q => (by cases q)⟩
      cases q'
      refine q.ok d e1 ho _ fun x H1 hF1 => (hr.sg B e1 (x :: tv) (d :: td) σ H1 hF1).ok ds e2 ho2 _ fun xs H2 hF2 hl => hQ (x :: xs) H2 ?_ (by rw [List.length_cons, List.length_cons, hl])
      rw [List.reverse_cons, List.reverse_cons, List.append_assoc, List.append_assoc]
      exact hF2
    | exc y e2 =>
      refine ⟨fun _ _ q => (by cases q), fun y' e' q' Q hQ => ?_⟩
      cases q'
      exact q.ok d e1 ho _ fun x H1 hF1 => (hr.sg B e1 (x :: tv) (d :: td) σ H1 hF1).ex _ _ ho2 _ fun cls dd H2 hF2 r => hQ cls dd H2 hF2.drop r
    | stuck => exact ⟨fun _ _ q => (by cases q), fun _ _ q => (by cases q)⟩
  | exc y e1 => exact ⟨fun _ _ q => (by cases q), fun y' e' q' Q hQ => (by cases q'; exact q.ex _ _ ho _ hQ)⟩
  | stuck => exact ⟨fun _ _ q => (by cases q), fun _ _ q => (by cases q)⟩⟩
def gTup (gs : En → Eg (List D)) : En → Eg D := fun e => match gs e with
  | .ok ds e => if ds.length ≤ 1000 then .ok (.tup ds) e else .stuck
  | .exc x e => .exc x e
  | .stuck => .stuck
theorem jg_tup {k} (h : JGs X W es tes gs) : JG X W (.Tuple es k pos) (tTup tes) (gTup gs) := ⟨pe_tup h.pa, fun B env tv td σ H hF => by
  have q := h.sg B env tv td σ H hF
  unfold gTup
  cases ho : gs env with
  | ok ds e =>
    show Gd _ _ _ _ _ _ _ _ _ (if ds.length ≤ 1000 then _ else _)
    split
    · rename_i hz
      exact ⟨fun d e' q' Q hQ => (by cases q'; exact q.ok ds e ho _ fun xs H1 hF1 hl => ⟨by rw [hl]; exact small_line hz, fun p np => hQ _ _ (hF1.pack hl np)⟩), fun _ _ q => (by cases q)⟩
    · exact gd_stuck
  | exc y e => exact ⟨fun _ _ q => (by cases q), fun y' e' q' Q hQ => (by cases q'; exact q.ex _ _ ho _ hQ)⟩
  | stuck => exact gd_stuck⟩
/-- f(g), f a built-in that only reads -/
def gCall (G : List D → Ev D) (g : En → Eg D) : En → Eg D := fun e => match g e with
  | .ok d e => (match G [d] with
    | .ok r => .ok r e
    | .exc x => .exc x e
    | .stuck => .stuck)
  | .exc x e => .exc x e
  | .stuck => .stuck
theorem gd_call {r : List V → Hp → VK → Prop} {G : List D → Ev D} (hr : CaD X W r G) (h : JG X W a ta ga) (hF : Fr X.G B env tv td σ H) : Gd X.G X.mg W B tv td σ H (tCB r (tCons ta tNil) σ) (gCall G ga env) := by
  have q := h.sg B env tv td σ H hF
  unfold gCall
  cases ho : ga env with
  | ok d e =>
    simp only
    have one : ∀ {x H1}, Fr X.G B e (x :: tv) (d :: td) σ H1 → RpVs X.G H1 [x] [d] := fun hF1 => by rw [RpVs]; exact ⟨hF1.top, by rw [RpVs]; trivial⟩
    cases hG : G [d] with
    | ok r' =>
      refine ⟨fun d' e' q' Q hQ => ?_, fun _ _ q => (by cases q)⟩
      cases q'
      exact q.ok d e ho _ fun x H1 hF1 => (hr σ H1 [x] [d] (one hF1)).ok _ hG _ fun y H2 s r2 => by
        obtain ⟨f, o, n, w⟩ := r2
        exact hQ y H2 (hF1.drop.push s o n w)
    | exc y =>
      refine ⟨fun _ _ q => (by cases q), fun y' e' q' Q hQ => ?_⟩
      cases q'
      exact q.ok d e ho _ fun x H1 hF1 => (hr σ H1 [x] [d] (one hF1)).ex _ hG _ fun cls dd H2 s r2 => hQ cls dd H2 (hF1.drop.mono s) r2
    | stuck => exact gd_stuck
  | exc y e => exact ⟨fun _ _ q => (by cases q), fun y' e' q' Q hQ => (by cases q'; exact q.ex _ _ ho _ hQ)⟩
  | stuck => exact gd_stuck
theorem jg_tuple {p : Pos} (hg : Gl X "tuple") (hm : X.mg "tuple" = none) (h : JG X W a ta ga) (hs : starEach [a] X.env = (false, eval a X.env) :: starEach [] X.env := by rfl) : JG X W (.Call (.Name "tuple" p) [a] [] pos) (tCB (rTupleU X.K) (tCons ta tNil)) (gCall bTuple ga) :=
  ⟨pe_callTy call_tuple_of hg hm (by decide +kernel) (pa_cons h.pe pa_nil hs) (by decide) (by decide) hs (by rfl), fun B env tv td σ H hF => gd_call cd_tuple h hF⟩

/-! ### xs[k] = e -/
def sSetItem (p : En → Ev Lv) (q : PX) (g : En → Eg D) : En → Ou := fun env => match g env with
  | .ok d e => (match p e with
    | .ok l => (match q e with
      | .ok (.v (.int k)) => (match atL e l with
        | some ds => (match ixN ds.length k with
          | some j => if j < ds.length then .nx (putL e l (ds.set j d)) else .stuck
          | none => .stuck)
        | none => .stuck)
      | _ => .stuck)
    | _ => .stuck)
  | .exc x e => .exc x e
  | .stuck => .stuck
theorem give_set {xs : List V} {ds : List D} {x : V} {d : D} {fc g : List Addr} {j : Nat} (hj : j < ds.length) (h1 : RpOs K H xs ds fc) (h2 : RpOs K H (x :: tv) (d :: td) g) (n : (fc ++ g).Nodup) :
    ∃ fc' g', RpOs K H (xs.set j x) (ds.set j d) fc' ∧ RpOs K H tv td g' ∧ (fc' ++ g').Nodup ∧ ∀ b ∈ fc' ++ g', b ∈ fc ++ g := by
  rw [RpOs] at h2
  obtain ⟨g1, g2, e0, r1, r2⟩ := h2
  subst e0
  have hl := h1.len
  obtain ⟨fa, fi, fb, y, e1, e2, h3, h4, h5⟩ := RpOs.split h1 (List.getElem?_eq_getElem hj)
  subst e1
  refine ⟨fa ++ (g1 ++ fb), g2, ?_, r2, ?_, fun b hb => ?_⟩
  · rw [List.set_eq_take_append_cons_drop, List.set_eq_take_append_cons_drop, if_pos hj, if_pos (by rw [hl]; exact hj)]
    refine RpOs.append h4 ?_
    rw [RpOs]
    exact ⟨g1, fb, rfl, r1, h5⟩
  · have p2 : ((fa ++ fb) ++ (g1 ++ g2)).Nodup := n.sublist (List.Sublist.append (List.Sublist.append (List.Sublist.refl _) (List.sublist_append_right _ _)) (List.Sublist.refl _))
    refine List.Perm.nodup ?_ p2
    refine List.perm_iff_count.mpr fun z => ?_
    simp only [List.count_append]
    omega
  · simp only [List.mem_append] at hb ⊢
    rcases hb with (hb | hb | hb) | hb
    · exact .inl (.inl hb)
    · exact .inr (.inl hb)
    · exact .inl (.inr (.inr hb))
    · exact .inr (.inr hb)
theorem js_setItem {pl : En → Ev Lv} {i : Expr} {ti : TE} {pi : PX} {tpos : Pos} (h : JG X W a ta ga) (hl : JL X W o to pl) (hi : JV X W i ti pi)
    (hs : swapsWithSole [.Subscript o i tpos] a pos.line X.env = pure false := by rfl) (hw : swappedStores [.Subscript o i tpos] a X.env = pure none := by rfl) (h1 : (assignEach [.Subscript o i tpos] X.env).map (·.2) = [assign (.Subscript o i tpos) X.env] := by rfl)
    (ha : ∀ v, assign (.Subscript o i tpos) X.env v = (do
      let ov ← holding [v] (eval o X.env)
      let iv ← holding [v, ov] (eval i X.env)
      standAt tpos
      holding [v, ov, iv] (setItem ov iv v)
      release [v, ov, iv] []) := by intro _; rfl) :
    JS X W (.Assign [.Subscript o i tpos] a pos) (tAsg ta (gSub to ti rSetL)) (sSetItem pl pi ga) := ⟨ps_asg h.pe (pg_sub hl.pe hi.pe set_list ha) hs hw h1, fun B env σ H hF => by
  have q := h.sg B env [] [] σ H hF
  unfold sSetItem
  cases ho : ga env with
  | exc y e => exact ⟨fun _ q => (by cases q), fun _ _ q => (by cases q), fun _ q => (by cases q), fun _ q => (by cases q), fun y' e' q' D hD => (by cases q'; exact q.ex _ _ ho _ fun cls dd H' hF' r => hD cls dd σ H' hF' r)⟩
  | stuck => exact Ss.stuck
  | ok d e =>
    simp only
    cases hp : pl e with
    | exc y => exact Ss.stuck
    | stuck => exact Ss.stuck
    | ok l =>
      simp only
      cases hq : pi e with
      | exc y => exact Ss.stuck
      | stuck => exact Ss.stuck
      | ok kd =>
        cases kd with
        | tup ds => exact Ss.stuck
        | lst ds => exact Ss.stuck
        | fro ds => exact Ss.stuck
        | dic _ _ => exact Ss.stuck
        | obj _ _ _ => exact Ss.stuck
        | v kv =>
          cases kv with
          | int k =>
            simp only
            cases h1 : atL e l with
            | none => exact Ss.stuck
            | some ds =>
              simp only
              cases hj : ixN ds.length k with
              | none => exact Ss.stuck
              | some j =>
                show Ss _ _ _ _ _ _ _ (if j < ds.length then _ else _)
                split
                · rename_i hlt
                  refine ⟨fun e' q' D hD => ?_, fun _ _ q => (by cases q), fun _ q => (by cases q), fun _ q => (by cases q), fun _ _ q => (by cases q)⟩
                  cases q'
                  refine q.ok d e ho _ fun z H1 hF1 => ?_
                  refine hl.at_ e σ H1 hF1.vw l hp _ fun x0 d0 y H2 s2 e1 e2 hn => ?_
                  refine (hi.sv e σ H2 (hF1.mono s2).vw).ok _ hq _ fun w H3 s3 rw_ => ?_
                  rw [rw_.atom]
                  have hF3 := (hF1.mono s2).mono s3
                  obtain ⟨a1, xs, rfl, hp1, rs, wr⟩ := hF3.writeL h1 e1 e2 (NodeV.mono s3 hn)
                  exact ⟨a1, xs, k, j, rfl, rfl, hp1, by rw [rs.length]; exact hj, hD _ _ (wr _ _ _ _ fun fc g r1 r2 n => give_set hlt r1 r2 n)⟩
                · exact Ss.stuck
          | _ => exact Ss.stuck⟩

/-! ### what an outcome asks of the ends -/
def Cond (K : Kb) (mg : Str → Option Value) (W : WX) (B : Bz) (o : Ou) (D : Ends) : Prop := match o with
  | .nx e => ∀ σ' H', Fr K B e [] [] σ' H' → D.nx σ' H'
  | .rt d e => ∀ x σ' H', Fr K B e [x] [d] σ' H' → D.rt x H'
  | .bk e => ∀ σ' H', Fr K B e [] [] σ' H' → D.bk σ' H'
  | .ct e => ∀ σ' H', Fr K B e [] [] σ' H' → D.ct σ' H'
  | .exc y e => ∀ cls dd σ' H', Fr K B e [] [] σ' H' → XR K mg H' y cls dd → W cls dd σ' H'
  | .stuck => False
theorem Ss.go {t : TS} {o : Ou} {D : Ends} (h : Ss K mg W B t σ H o) (c : Cond K mg W B o D) : t D σ H := by
  cases o with
  | nx e => exact h.nx e rfl D c
  | rt d e => exact h.rt d e rfl D c
  | bk e => exact h.bk e rfl D c
  | ct e => exact h.ct e rfl D c
  | exc y e => exact h.ex y e rfl D c
  | stuck => exact c.elim
theorem Ss.of {t : TS} {o : Ou} (h : ∀ D, Cond K mg W B o D → t D σ H) : Ss K mg W B t σ H o :=
  ⟨fun e q D hD => h D (by rw [q]; exact hD), fun d e q D hD => h D (by rw [q]; exact hD), fun e q D hD => h D (by rw [q]; exact hD), fun e q D hD => h D (by rw [q]; exact hD), fun y e q D hD => h D (by rw [q]; exact hD)⟩
theorem Cond.under {B' : Bz} {o : Ou} {D : Ends} (s : Ub B B') (h : Cond K mg W B o D) : Cond K mg W B' o D := by
  cases o with
  | nx e => exact fun σ' H' hF => h σ' H' (hF.under s)
  | rt d e => exact fun x σ' H' hF => h x σ' H' (hF.under s)
  | bk e => exact fun σ' H' hF => h σ' H' (hF.under s)
  | ct e => exact fun σ' H' hF => h σ' H' (hF.under s)
  | exc y e => exact fun cls dd σ' H' hF r => h cls dd σ' H' (hF.under s) r
  | stuck => exact h

/-! ### for -/
def iSeq (K : PySem.W.Frag) (tl : TE) : TI := fun σ H R => tl σ H fun x H1 => ∃ a, x = .ref a ∧ (((∃ xs, SqL K H1 a xs) ∧ R (Itl K a) H1) ∨ ((∃ xs, SqT K H1 a xs) ∧ R (Itt K a) H1))
theorem pi_seq {tg l : Expr} {tl : TE} (hl : PE X l tl) : PI X tg l (iSeq X.K tl) := by
  refine ⟨fun pins s σ H R I h => ?_⟩
  refine thn (hl.run pins s σ H _ I h) fun v s1 ⟨x, H1, I1, r1, q1⟩ => ?_
  obtain ⟨a, e, q1⟩ := q1
  subst e
  cases r1
  rcases q1 with ⟨⟨xs, hq⟩, q⟩ | ⟨⟨xs, hq⟩, q⟩
  · obtain ⟨its, rv, p, hz⟩ := I1.list hq
    refine wpAny_pyIter_list p.isList ?_
    refine ⟨s1.heap.objs.size, [s1.heap.objs.size], _, _, H1, rfl, I1.kept (t' := s1.toks) fun b o e => Heap.get?_push_of_some _ e, turn_list a _, ⟨_, Heap.get?_push_size _ rfl, rfl, rfl⟩, fun b hb => ?_, q⟩
    have e : b = s1.heap.objs.size := by simpa using hb
    subst e
    exact I1.fpOk (Nat.le_refl _) (I1.hok.fresh (Nat.le_refl _))
  · obtain ⟨its, rv, p, hz⟩ := I1.tuple hq
    refine wpAny_pyIter_tuple (show s1.heap.IsTuple a its.toArray from p) ?_
    refine ⟨s1.heap.objs.size, [s1.heap.objs.size], _, _, H1, rfl, I1.kept (t' := s1.toks) fun b o e => Heap.get?_push_of_some _ e, turn_tuple a _, ⟨_, Heap.get?_push_size _ rfl, rfl, rfl⟩, fun b hb => ?_, q⟩
    have e : b = s1.heap.objs.size := by simpa using hb
    subst e
    exact I1.fpOk (Nat.le_refl _) (I1.hok.fresh (Nat.le_refl _))
def forL (t : D → En → Option En) (ks : List Nat) (body : En → Ou) : List D → En → Ou
  | [], e => .nx e
  | d :: r, e => match t d e with
    | none => .stuck
    | some e1 => match body e1 with
      | .nx e2 => forL t ks body r (kills ks e2)
      | .ct e2 => forL t ks body r (kills ks e2)
      | .bk e2 => .nx (kills ks e2)
      | o => o
def sFor (t : D → En → Option En) (ks : List Nat) (src : PX) (body : En → Ou) : En → Ou := fun env => match src env with
  | .ok d => (match d.items with
    | some ds => forL t ks body ds (kills ks env)
    | none => .stuck)
  | .exc x => .exc x env
  | .stuck => .stuck
/-- one turn -/
theorem for_turn {tg : Expr} {g : TG} {t : D → En → Option En} {ks : List Nat} {body : List Stmt} {tb : TS} {sb : En → Ou} {out : Ou} {D0 : Ends} {d : D} {r : List D} {x : V} {H : Hp} {e : En} (hg : JTg X tg g t) (hb : JSs X W body tb sb) (hF : Fr X.G B e [] [] σ H) (rx : RpV X.G B.hp x d)
    (c : Cond X.G X.mg W B out D0) (ho : forL t ks sb (d :: r) e = out) {N : L2.St → Hp → Prop} (hN : ∀ e2 σ' H', Fr X.G B e2 [] [] σ' H' → forL t ks sb r e2 = out → N σ' H') :
    g x σ H fun σ2 H2 => tb { D0 with nx := N, ct := N, bk := D0.nx } σ2 H2 := by
  unfold forL at ho
  cases ht : t d e with
  | none => rw [ht] at ho; rw [← ho] at c; exact c.elim
  | some e1 =>
    rw [ht] at ho
    simp only at ho
    refine hg.ok B e σ H x d hF rx e1 ht _ fun σ2 hF2 => (hb.ss B e1 σ2 H hF2).go ?_
    cases hs : sb e1 with
    | nx e2 => rw [hs] at ho; exact fun σ' H' hF' => hN _ σ' H' (hF'.kills ks) ho
    | ct e2 => rw [hs] at ho; exact fun σ' H' hF' => hN _ σ' H' (hF'.kills ks) ho
    | bk e2 => rw [hs] at ho; rw [← ho] at c; exact fun σ' H' hF' => c σ' H' (hF'.kills ks)
    | rt d e2 => rw [hs] at ho; rw [← ho] at c; exact c
    | exc y e2 => rw [hs] at ho; rw [← ho] at c; exact c
    | stuck => rw [hs] at ho; rw [← ho] at c; exact c.elim
theorem js_for {tg l : Expr} {tl : TE} {g : TG} {t : D → En → Option En} {ks : List Nat} {body : List Stmt} {tb : TS} {sb : En → Ou} {src : PX} (bd : Bd X W) (hi : JF X W l tl src) (hg : JTg X tg g t) (hb : JSs X W body tb sb)
    (hs : ∀ x, foldedSetIterable l X.env x = pure x := by intro _; rfl) : JS X W (.For tg l body [] pos) (tFor (iSeq X.K tl) g tb) (sFor t ks src sb) := ⟨ps_for bd.po bd.calm (pi_seq hi.pe) hg.pg hb.ps hs, fun B env σ H hF => by
  unfold sFor
  cases ho : src env with
  | exc y => exact ⟨fun _ q => (by cases q), fun _ _ q => (by cases q), fun _ q => (by cases q), fun _ q => (by cases q), fun y' e' q' D hD => (by cases q'; exact hi.ex B env σ H hF _ ho _ fun cls dd H' hF' r => hD cls dd σ H' hF' r)⟩
  | stuck => exact Ss.stuck
  | ok d =>
    simp only
    cases hd : d.items with
    | none => exact Ss.stuck
    | some ds =>
      refine Ss.of fun D0 c => hi.ok B env σ H hF d ho _ fun x H1 B1 hF1 sB rx => ?_
      have c1 := c.under sB
      have sub : ∀ {e σ' H'}, Fr X.G B1 e [] [] σ' H' → Same B1.hp H' := fun hF' => by
        obtain ⟨f, g, _, _, _, h4⟩ := hF'
        exact h4.trans (off_sub _ _)
      have key : ∃ a xs, x = V.ref a ∧ RpVs X.G B1.hp xs ds ∧ (SqL X.K B1.hp a xs ∨ SqT X.K B1.hp a xs) := by
        cases d with
        | v y => cases hd
        | dic _ _ => cases hd
        | obj _ _ _ => cases hd
        | tup ds' =>
          cases hd
          rw [RpV] at rx
          obtain ⟨a, xs, ex, s1, r1⟩ := rx
          exact ⟨a, xs, ex, r1, .inr s1⟩
        | lst ds' =>
          cases hd
          rw [RpV] at rx
          obtain ⟨a, xs, ex, s1, r1⟩ := rx
          exact ⟨a, xs, ex, r1, .inl (SqL.of s1)⟩
        | fro ds' =>
          cases hd
          rw [RpV] at rx
          obtain ⟨a, xs, ex, s1, r1⟩ := rx
          exact ⟨a, xs, ex, r1, .inl s1⟩
      obtain ⟨a, xs, rfl, r1, s1⟩ := key
      have turn : ∀ (i : Nat) (y : V) (σ' : L2.St) (H' : Hp), xs[i]? = some y → (∃ e, Fr X.G B1 e [] [] σ' H' ∧ forL t ks sb (ds.drop i) e = forL t ks sb ds (kills ks env)) →
          g y σ' H' fun σ2 H2 => tb { D0 with nx := fun σ' H' => ∃ e, Fr X.G B1 e [] [] σ' H' ∧ forL t ks sb (ds.drop (i + 1)) e = forL t ks sb ds (kills ks env), ct := fun σ' H' => ∃ e, Fr X.G B1 e [] [] σ' H' ∧ forL t ks sb (ds.drop (i + 1)) e = forL t ks sb ds (kills ks env), bk := D0.nx } σ2 H2 := fun i y σ' H' hy ⟨e, hF', he⟩ => by
        obtain ⟨d1, hd1, rd⟩ := r1.get' hy
        obtain ⟨hlt, ed⟩ := List.getElem?_eq_some_iff.mp hd1
        rw [List.drop_eq_getElem_cons hlt, ed] at he
        exact for_turn hg hb hF' rd c1 he fun e2 σ2 H2 hF2 ho2 => ⟨e2, hF2, ho2⟩
      have fin : ∀ (σ' : L2.St) (H' : Hp), (∃ e, Fr X.G B1 e [] [] σ' H' ∧ forL t ks sb (ds.drop xs.length) e = forL t ks sb ds (kills ks env)) → D0.nx σ' H' := fun σ' H' ⟨e, hF', he⟩ => by
        rw [r1.length, List.drop_length] at he
        have he : Ou.nx e = forL t ks sb ds (kills ks env) := he
        have c1 : Cond X.G X.mg W B1 (forL t ks sb ds (kills ks env)) D0 := c1
        rw [← he] at c1
        exact c1 σ' H' hF'
      rcases s1 with s1 | s1
      · exact ⟨a, rfl, .inl ⟨⟨xs, (sub hF1).seq s1⟩, for_list (xs := xs) (D := D0) (fun i σ' H' => ∃ e, Fr X.G B1 e [] [] σ' H' ∧ forL t ks sb (ds.drop i) e = forL t ks sb ds (kills ks env)) ⟨_, hF1.kills ks, rfl⟩
          (fun i σ' H' _ ⟨e, hF', _⟩ => (sub hF').seq s1) turn fin⟩⟩
      · exact ⟨a, rfl, .inr ⟨⟨xs, sqt_same (K := X.G) (sub hF1) s1⟩, for_tup (xs := xs) (D := D0) (fun i σ' H' => ∃ e, Fr X.G B1 e [] [] σ' H' ∧ forL t ks sb (ds.drop i) e = forL t ks sb ds (kills ks env)) ⟨_, hF1.kills ks, rfl⟩
          (fun i σ' H' _ ⟨e, hF', _⟩ => sqt_same (K := X.G) (sub hF') s1) turn fin⟩⟩⟩
/-- for x in range(n) -/
def rngL (lo : Int) (n : Nat) : List D := (List.range n).map fun (i : Nat) => D.i (lo + (i : Int))
def sForR (t : D → En → Option En) (ks : List Nat) (src : PX) (body : En → Ou) : En → Ou := fun env => match src env with
  | .ok (.v (.int j)) => if -(2 ^ 62) ≤ j ∧ j < 2 ^ 62 then forL t ks body (rngL 0 j.toNat) (kills ks env) else .stuck
  | .ok _ => .stuck
  | .exc x => .exc x env
  | .stuck => .stuck
def sForR2 (t : D → En → Option En) (ks : List Nat) (lo hi : PX) (body : En → Ou) : En → Ou := fun env => match lo env, hi env with
  | .ok (.v (.int i)), .ok (.v (.int j)) => if -(2 ^ 62) ≤ i ∧ i < 2 ^ 62 ∧ -(2 ^ 62) ≤ j ∧ j < 2 ^ 62 then forL t ks body (rngL i (j - i).toNat) (kills ks env) else .stuck
  | _, _ => .stuck
theorem rngL_get {lo : Int} {n i : Nat} (h : i < n) : (rngL lo n).drop i = D.i (lo + i) :: (rngL lo n).drop (i + 1) := by
  unfold rngL
  have hl : i < ((List.range n).map fun (i : Nat) => D.i (lo + (i : Int))).length := by rw [List.length_map, List.length_range]; exact h
  rw [List.drop_eq_getElem_cons hl, List.getElem_map, List.getElem_range]
theorem for_rng {tg : Expr} {g : TG} {t : D → En → Option En} {ks : List Nat} {body : List Stmt} {tb : TS} {sb : En → Ou} {D0 : Ends} {lo : Int} {n : Nat} (hg : JTg X tg g t) (hb : JSs X W body tb sb) (hF : Fr X.G B env [] [] σ H)
    (c : Cond X.G X.mg W B (forL t ks sb (rngL lo n) (kills ks env)) D0) : ∃ W : Nat → Nat → L2.St → Hp → Prop, (∃ m, W 0 m σ H) ∧ ∀ i m σ H, W i m σ H →
      ((Itr lo n).stop i H ∧ D0.nx σ H) ∨ ((Itr lo n).go i H ∧ ∃ N : L2.St → Hp → Prop, (∀ σ' H', N σ' H' → ∃ m', m' < m ∧ W (i + 1) m' σ' H') ∧ ∀ x H', (Itr lo n).yld i H x H' → g x σ H' fun σ2 H2 => tb { D0 with nx := N, ct := N, bk := D0.nx } σ2 H2) := by
  refine for_range (lo := lo) (n := n) (D := D0) (fun i σ' H' => ∃ e, Fr X.G B e [] [] σ' H' ∧ forL t ks sb ((rngL lo n).drop i) e = forL t ks sb (rngL lo n) (kills ks env)) ⟨_, hF.kills ks, rfl⟩ (fun i σ' H' hi ⟨e, hF', he⟩ => ?_) (fun σ' H' ⟨e, hF', he⟩ => ?_)
  · rw [rngL_get hi] at he
    exact for_turn hg hb hF' (by rw [RpV]) c he fun e2 σ2 H2 hF2 ho2 => ⟨e2, hF2, ho2⟩
  · rw [List.drop_eq_nil_of_le (by unfold rngL; rw [List.length_map, List.length_range]; exact Nat.le_refl _)] at he
    have he : Ou.nx e = forL t ks sb (rngL lo n) (kills ks env) := he
    rw [← he] at c
    exact c σ' H' hF'
theorem js_forR {tg : Expr} {g : TG} {t : D → En → Option En} {ks : List Nat} {body : List Stmt} {tb : TS} {sb : En → Ou} {p rpos : Pos} (bd : Bd X W) (hgl : Gl X "range") (hm : X.mg "range" = none) (ha : JV X W a ta pa) (hg : JTg X tg g t) (hb : JSs X W body tb sb)
    (hst : starEach [a] X.env = [(false, eval a X.env)] := by rfl) (hs : ∀ x, foldedSetIterable (.Call (.Name "range" p) [a] [] rpos) X.env x = pure x := by intro _; rfl) :
    JS X W (.For tg (.Call (.Name "range" p) [a] [] rpos) body [] pos) (tFor (iRng1 (tCons ta tNil)) g tb) (sForR t ks pa sb) := ⟨ps_for bd.po bd.calm (pi_range1 hgl hm (pa_cons ha.pe pa_nil hst) hst) hg.pg hb.ps hs, fun B env σ H hF => by
  unfold sForR
  cases ho : pa env with
  | exc y => exact ⟨fun _ q => (by cases q), fun _ _ q => (by cases q), fun _ q => (by cases q), fun _ q => (by cases q), fun y' e' q' D hD => (by cases q'; exact (ha.sv env σ H hF.vw).ex _ ho _ fun cls dd H' s r => hD cls dd σ H' (hF.mono s) r)⟩
  | stuck => exact Ss.stuck
  | ok d =>
    cases d with
    | tup ds => exact Ss.stuck
    | lst ds => exact Ss.stuck
    | fro ds => exact Ss.stuck
    | dic _ _ => exact Ss.stuck
    | obj _ _ _ => exact Ss.stuck
    | v kv =>
      cases kv with
      | int j =>
        show Ss _ _ _ _ _ _ _ (if _ then _ else _)
        split
        · rename_i hj
          exact Ss.of fun D0 c => (ha.sv env σ H hF.vw).ok _ ho _ fun x H1 s rx => ⟨j, by rw [rx.atom], hj.1, hj.2, for_rng hg hb (hF.mono s) c⟩
        · exact Ss.stuck
      | _ => exact Ss.stuck⟩
theorem js_forR2 {tg : Expr} {g : TG} {t : D → En → Option En} {ks : List Nat} {body : List Stmt} {tbd : TS} {sb : En → Ou} {p rpos : Pos} (bd : Bd X W) (hgl : Gl X "range") (hm : X.mg "range" = none) (ha : JV X W a ta pa) (hb' : JV X W b tb pb) (hg : JTg X tg g t) (hb : JSs X W body tbd sb)
    (hst : starEach [a, b] X.env = [(false, eval a X.env), (false, eval b X.env)] := by rfl) (hst2 : starEach [b] X.env = [(false, eval b X.env)] := by rfl) (hst3 : starEach [a, b] X.env = (false, eval a X.env) :: starEach [b] X.env := by rfl) (hst4 : starEach [b] X.env = (false, eval b X.env) :: starEach [] X.env := by rfl)
    (hs : ∀ x, foldedSetIterable (.Call (.Name "range" p) [a, b] [] rpos) X.env x = pure x := by intro _; rfl) :
    JS X W (.For tg (.Call (.Name "range" p) [a, b] [] rpos) body [] pos) (tFor (iRng2 (tCons ta (tCons tb tNil))) g tbd) (sForR2 t ks pa pb sb) := ⟨ps_for bd.po bd.calm (pi_range2 hgl hm (pa_cons ha.pe (pa_cons hb'.pe pa_nil hst4) hst3) hst hst2) hg.pg hb.ps hs, fun B env σ H hF => by
  unfold sForR2
  split
  · rename_i i j h1 h2
    split
    · rename_i hj
      refine Ss.of fun D0 c => (ha.sv env σ H hF.vw).ok _ h1 _ fun x H1 s rx => (hb'.sv env σ H1 (hF.mono s).vw).ok _ h2 _ fun y H2 s2 ry => ?_
      rw [rx.atom, ry.atom]
      exact ⟨i, j, rfl, ⟨hj.1, hj.2.1, hj.2.2.1, hj.2.2.2⟩, for_rng hg hb ((hF.mono s).mono s2) c⟩
    · exact Ss.stuck
  · exact Ss.stuck⟩

/-! ### while -/
def whileN (t : En → Ev Bool) (ks : List Nat) (body : En → Ou) : Nat → En → Ou
  | 0, _ => .stuck
  | n + 1, e => match t e with
    | .ok c => if c = true then (match body e with
      | .nx e2 => whileN t ks body n (kills ks e2)
      | .ct e2 => whileN t ks body n (kills ks e2)
      | .bk e2 => .nx (kills ks e2)
      | o => o) else .nx e
    | .exc x => .exc x e
    | .stuck => .stuck
open Classical in
noncomputable def sWhile (t : En → Ev Bool) (ks : List Nat) (body : En → Ou) : En → Ou := fun e =>
  if h : ∃ n, whileN t ks body n (kills ks e) ≠ .stuck then whileN t ks body h.choose (kills ks e) else .stuck
theorem whileN_more {t : En → Ev Bool} {ks : List Nat} {body : En → Ou} : ∀ {n : Nat} {e : En}, whileN t ks body n e ≠ .stuck → ∀ m, n ≤ m → whileN t ks body m e = whileN t ks body n e
  | 0, e, h, _, _ => absurd rfl h
  | n + 1, e, h, m, hm => by
    obtain ⟨k, rfl⟩ : ∃ k, m = k + 1 := ⟨m - 1, by omega⟩
    unfold whileN at h ⊢
    cases ht : t e with
    | exc x => rfl
    | stuck => rfl
    | ok c =>
      rw [ht] at h
      cases c with
      | false => rfl
      | true =>
        simp only [if_true] at h ⊢
        cases hb : body e with
        | nx e2 => rw [hb] at h; exact whileN_more h k (by omega)
        | ct e2 => rw [hb] at h; exact whileN_more h k (by omega)
        | bk e2 => rfl
        | rt d e2 => rfl
        | exc y e2 => rfl
        | stuck => rfl
/-- known turns -/
theorem sWhile_of {t : En → Ev Bool} {ks : List Nat} {body : En → Ou} {e : En} {o : Ou} (n : Nat) (h : whileN t ks body n (kills ks e) = o) (ho : o ≠ .stuck) : sWhile t ks body e = o := by
  unfold sWhile
  have hex : ∃ n, whileN t ks body n (kills ks e) ≠ .stuck := ⟨n, by rw [h]; exact ho⟩
  rw [dif_pos hex]
  rcases Nat.le_total n hex.choose with hl | hl
  · rw [whileN_more (by rw [h]; exact ho) _ hl, h]
  · rw [← whileN_more hex.choose_spec _ hl, h]
theorem js_while {t : En → Ev Bool} {tt : TT} {ks : List Nat} {body : List Stmt} {tb : TS} {sb : En → Ou} (bd : Bd X W) (hc : JT X W c tt t) (hb : JSs X W body tb sb) : JS X W (.While c body [] pos) (tWhile tt tb) (sWhile t ks sb) := ⟨ps_while bd.po hc.pt hb.ps, fun B env σ H hF => by
  refine Ss.of fun D0 c0 => ?_
  have ho : ∃ n, whileN t ks sb n (kills ks env) = sWhile t ks sb env := by
    unfold sWhile at c0 ⊢
    split
    · exact ⟨_, rfl⟩
    · rename_i hn
      rw [dif_neg hn] at c0
      exact c0.elim
  obtain ⟨n, hn⟩ := ho
  refine ⟨fun m σ' H' => ∃ e, Fr X.G B e [] [] σ' H' ∧ whileN t ks sb m e = sWhile t ks sb env, ⟨n, _, hF.kills ks, hn⟩, ?_⟩
  rintro m σ' H' ⟨e, hF', he⟩
  cases m with
  | zero =>
    have he : Ou.stuck = sWhile t ks sb env := he
    rw [← he] at c0
    exact c0.elim
  | succ m =>
    unfold whileN at he
    cases ht : t e with
    | exc x =>
      rw [ht] at he
      rw [← he] at c0
      exact (hc.st e σ' H' hF'.vw).ex _ ht _ fun cls dd H2 s r => c0 cls dd σ' H2 (hF'.mono s) r
    | stuck => rw [ht] at he; rw [← he] at c0; exact c0.elim
    | ok k =>
      rw [ht] at he
      refine (hc.st e σ' H' hF'.vw).ok _ ht _ fun b H2 s r => ?_
      cases (show b = k from r)
      cases k with
      | false =>
        have he : Ou.nx e = sWhile t ks sb env := he
        rw [← he] at c0
        rw [if_neg Bool.false_ne_true]
        exact c0 σ' H2 (hF'.mono s)
      | true =>
        rw [if_pos rfl]
        simp only [if_true] at he
        refine ⟨fun σ3 H3 => ∃ e3, Fr X.G B e3 [] [] σ3 H3 ∧ whileN t ks sb m e3 = sWhile t ks sb env, fun σ3 H3 h3 => ⟨m, Nat.lt_succ_self m, h3⟩, (hb.ss B e σ' H2 (hF'.mono s)).go ?_⟩
        cases hs : sb e with
        | nx e2 => rw [hs] at he; exact fun σ3 H3 hF3 => ⟨_, hF3.kills ks, he⟩
        | ct e2 => rw [hs] at he; exact fun σ3 H3 hF3 => ⟨_, hF3.kills ks, he⟩
        | bk e2 => rw [hs] at he; rw [← he] at c0; exact fun σ3 H3 hF3 => c0 σ3 H3 (hF3.kills ks)
        | rt d e2 => rw [hs] at he; rw [← he] at c0; exact c0
        | exc y e2 => rw [hs] at he; rw [← he] at c0; exact c0
        | stuck => rw [hs] at he; rw [← he] at c0; exact c0.elim⟩
end
end Gw

set_option maxHeartbeats 4000000
/-! GxI: comprehensions, defs, the law's end. -/
namespace Gw
open PySem PySem.Spec PyProof.Rows L2
instance : Inhabited Shared := ⟨{}⟩
section
variable {X : Cx} {W : WX} {a b c e o : Expr} {es : List Expr} {ta tb tc te to tl : TE} {tt : TT} {tes : TA} {pa pb pc pe : PX} {q : En → Ev Bool} {ps : En → Ev (List D)} {ga gb : En → Eg D} {gs : En → Eg (List D)} {pos apos : Pos} {K : Kb} {mg : Str → Option Value} {B : Bz} {H H' : Hp} {env : En} {tv : List V} {td : List D} {σ : L2.St}
abbrev W0 : WX := fun _ _ _ _ => False
/-! ### comprehensions -/
/-- a target, in a comprehension's block: vs its own slots -/
structure JTv (X : Cx) (tg : Expr) (g : TG) (vs : List Nat) (t : D → En → Option En) : Prop where
  pg : PG X tg g
  ok : ∀ env σ H x d, Vw X.G H env σ → RpV X.G H x d → ∀ e', t d env = some e' → ∀ Q : L2.St → Hp → Prop, (∀ σ', Vw X.G H e' σ' → wipe σ' vs = wipe σ vs → Q σ' H) → g x σ H Q
structure JTvs (X : Cx) (tgs : List Expr) (g : TGs) (vs : List Nat) (t : List D → En → Option En) : Prop where
  pg : PGs X tgs g
  ok : ∀ env σ H xs ds, Vw X.G H env σ → RpVs X.G H xs ds → ∀ e', t ds env = some e' → ∀ Q : L2.St → Hp → Prop, (∀ σ', Vw X.G H e' σ' → wipe σ' vs = wipe σ vs → Q σ' H) → g xs σ H Q
theorem wipe_set {i : Nat} {x : Option V} : ∀ {vs : List Nat} {σ : L2.St}, i ∈ vs → wipe (σ.set i x) vs = wipe σ vs
  | v :: vs, σ, h => by
    unfold wipe
    rcases List.mem_cons.mp h with rfl | h
    · by_cases hv : i ∈ vs
      · rw [wipe_set hv]
      · have : wipe (σ.set i x) vs = (wipe σ vs).set i x := by
          clear h
          induction vs with
          | nil => rfl
          | cons w vs ih =>
            unfold wipe
            rw [ih (fun q => hv (List.mem_cons_of_mem _ q)), List.set_comm]
            exact fun q => hv (by rw [q]; exact List.mem_cons_self)
        rw [this, List.set_set]
    · rw [wipe_set h]
theorem Vw.set {i : Nat} {x : V} {d : D} (h : Vw K H env σ) (r : RpV K H x d) : Vw K H (env.set i (.fz d)) (σ.set i (some x)) := ⟨by rw [List.length_set, List.length_set]; exact h.1, fun j d' hd => by
  unfold lk at hd
  by_cases hj : j = i
  · subst hj
    by_cases hlt : j < env.length
    · rw [List.getElem?_set_self hlt] at hd
      cases hd
      exact ⟨x, List.getElem?_set_self (by rw [← h.1]; exact hlt), r⟩
    · rw [List.getElem?_eq_none (by rw [List.length_set]; omega)] at hd
      cases hd
  · rw [List.getElem?_set_ne (Ne.symm hj)] at hd
    obtain ⟨y, e1, e2⟩ := h.2 j d' hd
    exact ⟨y, by rw [List.getElem?_set_ne (Ne.symm hj)]; exact e1, e2⟩⟩
theorem jtv_name {i : Nat} {x : Str} {vs : List Nat} (hv : i ∈ vs) (bd : X.N.Nodup) (hi : X.N[i]? = some x) (hx : Loc X.env.scope x) (hf : X.fn x = true ∨ X.env.scope.names.lookup x = some .local := by first | exact .inl rfl | exact .inr rfl | assumption) : JTv X (.Name x pos) (gName i) vs (nTg i) :=
  ⟨pg_name bd hi hx hf, fun env σ H x d hV r e' q Q hQ => by cases q; exact hQ _ (hV.set r) (wipe_set hv)⟩
theorem jtvs_nil {vs : List Nat} : JTvs X [] L2.gNil vs nsNil := ⟨pgs_nil, fun env σ H xs ds hV r e' q Q hQ => by
  cases ds with
  | nil => cases q; exact ⟨List.eq_nil_of_length_eq_zero (by rw [r.length]; rfl), hQ σ hV rfl⟩
  | cons d ds => cases q⟩
theorem jtvs_cons {vs : List Nat} {tg : Expr} {tgs : List Expr} {g : TG} {gs : TGs} {t : D → En → Option En} {ts : List D → En → Option En} (h1 : JTv X tg g vs t) (h2 : JTvs X tgs gs vs ts)
    (hs : (assignEach (tg :: tgs) X.env).map (·.2) = assign tg X.env :: (assignEach tgs X.env).map (·.2) := by rfl) : JTvs X (tg :: tgs) (L2.gCons g gs) vs (nsCons t ts) := ⟨pgs_cons h1.pg h2.pg hs, fun env σ H xs ds hV r e' q Q hQ => by
  cases ds with
  | nil => cases q
  | cons d ds =>
    cases xs with
    | nil => simp [RpVs] at r
    | cons x xs =>
      rw [RpVs] at r
      have q : (t d env).bind (fun e' => ts ds e') = some e' := q
      cases ht : t d env with
      | none => rw [ht] at q; cases q
      | some e1 =>
        rw [ht] at q
        exact ⟨x, xs, rfl, h1.ok env σ H x d hV r.1 e1 ht _ fun σ' hV' w => h2.ok e1 σ' H xs ds hV' r.2 e' q Q fun σ2 a c => hQ σ2 a (c.trans w)⟩⟩
theorem jtv_tup {vs : List Nat} {es : List Expr} {k : Nat} {g : TGs} {t : List D → En → Option En} {n : Nat} (hc : X.calm = true) (h : JTvs X es g vs t) (hl : ∀ ds e e', t ds e = some e' → ds.length = n)
    (hn : (assignEach es X.env).length = n := by rfl) (hst : (assignEach es X.env).findIdx? (·.1) = none := by rfl) : JTv X (.Tuple es k pos) (L2.gTup X.K n g) vs (nTup t) := ⟨pg_tup hc h.pg hn hst, fun env σ H x d hV r e' q Q hQ => by
  cases d with
  | tup ds =>
    rw [RpV] at r
    obtain ⟨a, xs, rfl, s1, r1⟩ := r
    have q : t ds env = some e' := q
    exact ⟨a, xs, rfl, s1, by rw [r1.length]; exact hl ds env e' q, h.ok env σ H xs ds hV r1 e' q Q hQ⟩
  | v x => cases q
  | lst ds => cases q
  | fro ds => cases q
  | dic _ _ => cases q
  | obj _ _ _ => cases q⟩
theorem kills_vw : ∀ {vs : List Nat} {env : En} {σ : L2.St}, Vw K H env σ → Vw K H (kills vs env) (wipe σ vs)
  | [], _, _, h => h
  | v :: vs, env, σ, h => by
    have h2 : Vw K H (env.set v .no) (σ.set v none) := ⟨by rw [List.length_set, List.length_set]; exact h.1, fun j d hd => by
      unfold lk at hd
      by_cases hj : j = v
      · subst hj
        by_cases hlt : j < env.length
        · rw [List.getElem?_set_self hlt] at hd; cases hd
        · rw [List.getElem?_eq_none (by rw [List.length_set]; omega)] at hd; cases hd
      · rw [List.getElem?_set_ne (Ne.symm hj)] at hd
        obtain ⟨y, e1, e2⟩ := h.2 j d hd
        exact ⟨y, by rw [List.getElem?_set_ne (Ne.symm hj)]; exact e1, e2⟩⟩
    have h3 := kills_vw (vs := vs) h2
    have e : wipe (σ.set v none) vs = wipe σ (v :: vs) := by
      show _ = (wipe σ vs).set v none
      by_cases hv : v ∈ vs
      · rw [wipe_set hv]
        have : ∀ {vs : List Nat} {σ : L2.St}, v ∈ vs → (wipe σ vs).set v none = wipe σ vs := by
          intro vs
          induction vs with
          | nil => intro σ h; cases h
          | cons w vs ih =>
            intro σ h
            unfold wipe
            by_cases hw : w = v
            · rw [hw, List.set_set]
            · rw [List.set_comm _ _ hw, ih ((List.mem_cons.mp h).resolve_left fun q => hw q.symm)]
        rw [this hv]
      · clear h3 h2 h
        induction vs with
        | nil => rfl
        | cons w vs ih =>
          unfold wipe
          rw [ih (fun q => hv (List.mem_cons_of_mem _ q)), List.set_comm]
          exact fun q => hv (by rw [q]; exact List.mem_cons_self)
    rw [e] at h3
    exact h3
theorem kills_len : ∀ {vs : List Nat} {env : En}, (kills vs env).length = env.length
  | [], _ => rfl
  | v :: vs, env => by unfold kills; rw [kills_len, List.length_set]
def compL (t : D → En → Option En) (q : En → Ev Bool) (pe : PX) (env : En) : List D → Ev (List D)
  | [] => .ok []
  | d :: r => match t d env with
    | none => .stuck
    | some e1 => match q e1 with
      | .ok true => (match pe e1 with
        | .ok x => (match compL t q pe env r with
          | .ok xs => .ok (x :: xs)
          | _ => .stuck)
        | _ => .stuck)
      | .ok false => compL t q pe env r
      | _ => .stuck
def capL (o : Ev (List D)) : Ev D := match o with
  | .ok xs => if xs.length ≤ sizeLine then .ok (.lst xs) else .stuck
  | _ => .stuck
def pComp (t : D → En → Option En) (q : En → Ev Bool) (pe : PX) (vs : List Nat) (src : PX) : PX := fun env => (src env).bind fun d => match d.items with
  | some ds => capL (compL t q pe (kills vs env) ds)
  | none => .stuck
/-- an invariant of the list so far -/
def CompP (K : Kb) (H1 : Hp) (D0 : Addr) (out : List D) (rest : Ev (List D)) (H : Hp) : Prop :=
  Same H1 H ∧ ∃ acc accd f r, H D0 = some (.lst acc) ∧ RpOs K H acc accd f ∧ f.Nodup ∧ (∀ a ∈ f, H1 a = none ∧ a ≠ D0) ∧ rest = .ok r ∧ accd ++ r = out
theorem comp_turn {tg : Expr} {g : TG} {t : D → En → Option En} {vs : List Nat} {H1 H : Hp} {D0 : Addr} {out : List D} {d : D} {r : List D} {x : V} (hg : JTv X tg g vs t) (ht : SR X.G X.mg W0 tt q fun _ => RB) (he : SR X.G X.mg W0 te pe (RO X.G))
    (hv : Vw X.G H1 env σ) (hD : H1 D0 = none) (hz : out.length ≤ sizeLine) (rx : RpV X.G H1 x d) (c : CompP X.G H1 D0 out (compL t q pe (kills vs env) (d :: r)) H) :
    g x (wipe σ vs) H fun σ2 H2 => wipe σ2 vs = wipe σ vs ∧ tt σ2 H2 fun b H3 =>
      if b = true then te σ2 H3 fun y H4 => ∃ acc, H4 D0 = some (.lst acc) ∧ acc.length < sizeLine ∧ CompP X.G H1 D0 out (compL t q pe (kills vs env) r) (upd H4 D0 (.lst (acc ++ [y]))) else CompP X.G H1 D0 out (compL t q pe (kills vs env) r) H3 := by
  obtain ⟨s0, acc, accd, f, rr, h1, h2, h3, h4, h5, h6⟩ := c
  unfold compL at h5
  cases ht1 : t d (kills vs env) with
  | none => rw [ht1] at h5; cases h5
  | some e1 =>
    rw [ht1] at h5
    simp only at h5
    have wl : ∀ {vs : List Nat}, (wipe σ vs).length = σ.length := fun {vs} => wipe_length σ vs
    refine hg.ok (kills vs env) (wipe σ vs) H x d (kills_vw (hv.mono s0)) (RpV.mono s0 _ _ rx) e1 ht1 _ fun σ2 hV2 hw => ⟨?_, ?_⟩
    · rw [hw]
      have : ∀ (vs : List Nat) (σ : L2.St), wipe (wipe σ vs) vs = wipe σ vs := by
        intro vs
        induction vs with
        | nil => intro σ; rfl
        | cons v vs ih =>
          intro σ
          show (wipe ((wipe σ vs).set v none) vs).set v none = (wipe σ vs).set v none
          by_cases hv : v ∈ vs
          · rw [wipe_set hv, ih]
          · have : ∀ (vs : List Nat) (σ : L2.St), v ∉ vs → wipe (σ.set v none) vs = (wipe σ vs).set v none := by
              intro vs
              induction vs with
              | nil => intro σ _; rfl
              | cons w vs ih2 =>
                intro σ hv
                show (wipe (σ.set v none) vs).set w none = ((wipe σ vs).set w none).set v none
                rw [ih2 σ (fun q => hv (List.mem_cons_of_mem _ q)), List.set_comm]
                exact fun q => hv (by rw [q]; exact List.mem_cons_self)
            rw [this vs _ hv, ih, List.set_set]
      exact this vs σ
    · cases hq : q e1 with
      | exc y => rw [hq] at h5; cases h5
      | stuck => rw [hq] at h5; cases h5
      | ok k =>
        rw [hq] at h5
        refine (ht e1 σ2 H hV2).ok k hq _ fun b H3 s3 rb => ?_
        cases (show b = k from rb)
        have keep : RpOs X.G H3 acc accd f := RpOs.keep (Kt.of s3) _ _ _ (fun a _ o q => s3 a o q) h2
        cases k with
        | false =>
          rw [if_neg Bool.false_ne_true]
          exact ⟨s0.trans s3, acc, accd, f, rr, s3 _ _ h1, keep, h3, h4, h5, h6⟩
        | true =>
          rw [if_pos rfl]
          simp only at h5
          cases hp : pe e1 with
          | exc y => rw [hp] at h5; cases h5
          | stuck => rw [hp] at h5; cases h5
          | ok z =>
            rw [hp] at h5
            simp only at h5
            cases hr : compL t q pe (kills vs env) r with
            | exc y => rw [hr] at h5; cases h5
            | stuck => rw [hr] at h5; cases h5
            | ok zs =>
              rw [hr] at h5
              cases h5
              refine (he e1 σ2 H3 (hV2.mono s3)).ok z hp _ fun y H4 s4 ry => ?_
              obtain ⟨fy, oy, ny, wy⟩ := ry
              have hD4 : H4 D0 = some (.lst acc) := s4 _ _ (s3 _ _ h1)
              have nD : D0 ∉ fy := fun hm => by
                have := wy D0 hm
                rw [s3 _ _ h1] at this; cases this
              have keep4 : RpOs X.G H4 acc accd f := RpOs.keep (Kt.of s4) _ _ _ (fun a _ o q => s4 a o q) keep
              have lz : acc.length < sizeLine := by
                have l1 := h2.len
                rw [← h6, List.length_append, List.length_cons] at hz
                omega
              refine ⟨acc, hD4, lz, ?_, acc ++ [y], accd ++ [z], f ++ fy, zs, upd_same, ?_, ?_, ?_, rfl, by rw [List.append_assoc]; exact h6⟩
              · exact same_mut ((s0.trans s3).trans s4) hD
              · have kt : Kt H4 (upd H4 D0 (.lst (acc ++ [y]))) := Kt.upd hD4 .lst
                refine RpOs.append (RpOs.keep kt _ _ _ (fun a ha o q => by rw [upd_ne (h4 a ha).2]; exact q) keep4) (RpOs.one (RpO.keep kt _ _ _ (fun a ha o q => ?_) oy))
                rw [upd_ne (fun q => nD (by rw [← q]; exact ha))]; exact q
              · rw [List.nodup_append]
                refine ⟨h3, ny, fun a ha b hb q => ?_⟩
                obtain ⟨ys, w, _⟩ := RpOs.dom _ _ _ keep a ha
                rw [wy a (q ▸ hb)] at w; cases w
              · intro a ha
                rcases List.mem_append.mp ha with ha | ha
                · exact h4 a ha
                · exact ⟨(s0.trans s3).free (wy a ha), fun q => nD (by rw [← q]; exact ha)⟩
theorem comp_end {H0 H1 H : Hp} {D0 : Addr} {out : List D} {Q : VK} (hD : H1 D0 = none) (s01 : Same H0 H1) (c : CompP K H1 D0 out (.ok []) H) (hQ : ∀ x H', Same H1 H' → RO K H0 H' x (.lst out) → Q x H') : Q (.ref D0) H := by
  obtain ⟨s0, acc, accd, f, rr, h1, h2, h3, h4, h5, h6⟩ := c
  cases h5
  rw [List.append_nil] at h6
  subst h6
  refine hQ _ _ s0 ⟨D0 :: f, ?_, ?_, fun a ha => ?_⟩
  · rw [RpO]
    exact ⟨D0, acc, f, rfl, h1, rfl, h2⟩
  · rw [List.nodup_cons]
    exact ⟨fun hm => (h4 D0 hm).2 rfl, h3⟩
  · rcases List.mem_cons.mp ha with q | ha
    · rw [q]; exact s01.free hD
    · exact s01.free (h4 a ha).1
theorem jo_comp {elt tg iter : Expr} {ifs : List Expr} {scope : Scope} {own : List (Str × Nat)} {g : TG} {t : D → En → Option En} {src : PX} (hc : X.calm = true) (hN : X.N.Nodup) (hi : JV X W iter tl src) (ok : BlkOk X.N X.env.scope scope own)
    (hg : ∀ (s : Shared) (H : Hp) (C : Addr) (cl : List (Str × Addr)) (fp : List Addr), JTv (X.blk s H scope (compEnvC scope cl C X.env) fp) tg g (own.map (·.2)) t)
    (ht : ∀ (s : Shared) (H : Hp) (C : Addr) (cl : List (Str × Addr)) (fp : List Addr), PTs (X.blk s H scope (compEnvC scope cl C X.env) fp) ifs tt ∧ SR X.G X.mg W0 tt q fun _ => RB)
    (he : ∀ (s : Shared) (H : Hp) (C : Addr) (cl : List (Str × Addr)) (fp : List Addr), JO (X.blk s H scope (compEnvC scope cl C X.env) fp) W0 elt te pe) (hs : ∀ x, foldedSetIterable iter X.env x = pure x := by intro _; rfl) :
    JO X W (.ListComp elt [⟨tg, iter, ifs, 0⟩] scope pos) (tLc (iSeq X.K tl) g tt te (own.map (·.2))) (pComp t q pe (own.map (·.2)) src) := by
  refine ⟨pe_lc hc hN (pi_seq hi.pe) ok (fun s H C cl fp => (hg s H C cl fp).pg) (fun s H C cl fp => (ht s H C cl fp).1) (fun s H C cl fp => (he s H C cl fp).pe) hs, fun env σ H hv => ?_⟩
  have hg' := hg default (fun _ => none) 0 [] []
  have ht' := (ht default (fun _ => none) 0 [] []).2
  have he' := (he default (fun _ => none) 0 [] []).so
  unfold pComp
  cases ho : src env with
  | exc y => exact ⟨fun _ q => (by cases q), fun e q Q hQ => (by cases q; exact (hi.sv env σ H hv).ex _ ho _ hQ)⟩
  | stuck => exact Do.stuck
  | ok d =>
    simp only [Ev.bind]
    cases hd : d.items with
    | none => exact Do.stuck
    | some ds =>
      simp only
      cases hcl : compL t q pe (kills (own.map (·.2)) env) ds with
      | exc y => exact Do.stuck
      | stuck => exact Do.stuck
      | ok out =>
        show Do _ _ _ _ _ _ (if out.length ≤ sizeLine then _ else _) _
        split
        · rename_i hz
          refine ⟨fun d' e Q hQ => ?_, fun _ q => (by cases q)⟩
          cases e
          refine (hi.sv env σ H hv).ok d ho _ fun x H1 s1 rx => ?_
          have key : ∃ a xs, x = V.ref a ∧ RpVs X.G H1 xs ds ∧ (SqL X.K H1 a xs ∨ SqT X.K H1 a xs) := by
            cases d with
            | v y => cases hd
            | dic _ _ => cases hd
            | obj _ _ _ => cases hd
            | tup ds' =>
              cases hd
              rw [RpV] at rx
              obtain ⟨a, xs, ex, s1, r1⟩ := rx
              exact ⟨a, xs, ex, r1, .inr s1⟩
            | lst ds' =>
              cases hd
              rw [RpV] at rx
              obtain ⟨a, xs, ex, s1, r1⟩ := rx
              exact ⟨a, xs, ex, r1, .inl (SqL.of s1)⟩
            | fro ds' =>
              cases hd
              rw [RpV] at rx
              obtain ⟨a, xs, ex, s1, r1⟩ := rx
              exact ⟨a, xs, ex, r1, .inl s1⟩
          obtain ⟨a, xs, rfl, r1, sq⟩ := key
          have hv1 := hv.mono s1
          have start : ∀ D0, H1 D0 = none → CompP X.G H1 D0 out (compL t q pe (kills (own.map (·.2)) env) (ds.drop 0)) (upd H1 D0 (.lst [])) := fun D0 nD =>
            ⟨same_new nD, [], [], [], out, upd_same, by rw [RpOs], List.nodup_nil, (fun a ha => nomatch ha), hcl, rfl⟩
          have turn : ∀ D0, H1 D0 = none → ∀ (i : Nat) (y : V) (H' : Hp), xs[i]? = some y → CompP X.G H1 D0 out (compL t q pe (kills (own.map (·.2)) env) (ds.drop i)) H' →
              g y (wipe σ (own.map (·.2))) H' fun σ2 H2 => wipe σ2 (own.map (·.2)) = wipe σ (own.map (·.2)) ∧ tt σ2 H2 fun b H3 =>
                if b = true then te σ2 H3 fun y H4 => ∃ acc, H4 D0 = some (.lst acc) ∧ acc.length < sizeLine ∧ CompP X.G H1 D0 out (compL t q pe (kills (own.map (·.2)) env) (ds.drop (i + 1))) (upd H4 D0 (.lst (acc ++ [y])))
                else CompP X.G H1 D0 out (compL t q pe (kills (own.map (·.2)) env) (ds.drop (i + 1))) H3 := by
            intro D0 nD i y H' hy c
            obtain ⟨d1, hd1, rd⟩ := r1.get' hy
            obtain ⟨hlt, ed⟩ := List.getElem?_eq_some_iff.mp hd1
            rw [List.drop_eq_getElem_cons hlt, ed] at c
            exact comp_turn (X := X.blk default (fun _ => none) scope (compEnvC scope [] 0 X.env) []) (σ := σ) (tt := tt) (te := te) hg' ht' he' hv1 nD hz rd c
          have fin : ∀ D0, H1 D0 = none → ∀ H', CompP X.G H1 D0 out (compL t q pe (kills (own.map (·.2)) env) (ds.drop xs.length)) H' → Q (.ref D0) H' := fun D0 nD H' c => by
            rw [r1.length, List.drop_length] at c
            exact comp_end nD s1 c fun x H' s r => hQ x H' (s1.trans s) r
          have sl : ∀ {D0 o H'}, CompP X.G H1 D0 out o H' → Same H1 H' := fun c => c.1
          rcases sq with sq | sq
          · exact ⟨a, rfl, .inl ⟨⟨xs, sq⟩, fun D0 nD => lc_list (xs := xs) (fun i H' => CompP X.G H1 D0 out (compL t q pe (kills (own.map (·.2)) env) (ds.drop i)) H') (start D0 nD) (fun i H' _ c => (sl c).seq sq) (turn D0 nD) (fin D0 nD)⟩⟩
          · exact ⟨a, rfl, .inr ⟨⟨xs, sq⟩, fun D0 nD => lc_tup (xs := xs) (fun i H' => CompP X.G H1 D0 out (compL t q pe (kills (own.map (·.2)) env) (ds.drop i)) H') (start D0 nD) (fun i H' _ c => sqt_same (K := X.G) (sl c) sq) (turn D0 nD) (fin D0 nD)⟩⟩
        · exact Do.stuck
/-- over range(n) -/
def pCompR (t : D → En → Option En) (q : En → Ev Bool) (pe : PX) (vs : List Nat) (src : PX) : PX := fun env => (src env).bind fun d => match d with
  | .v (.int j) => if -(2 ^ 62) ≤ j ∧ j < 2 ^ 62 then capL (compL t q pe (kills vs env) (rngL 0 j.toNat)) else .stuck
  | _ => .stuck
theorem jo_compR {elt tg : Expr} {ifs : List Expr} {scope : Scope} {own : List (Str × Nat)} {g : TG} {t : D → En → Option En} {p rpos : Pos} (hc : X.calm = true) (hN : X.N.Nodup) (hgl : Gl X "range") (hm : X.mg "range" = none) (ha : JV X W a ta pa) (ok : BlkOk X.N X.env.scope scope own)
    (hg : ∀ (s : Shared) (H : Hp) (C : Addr) (cl : List (Str × Addr)) (fp : List Addr), JTv (X.blk s H scope (compEnvC scope cl C X.env) fp) tg g (own.map (·.2)) t)
    (ht : ∀ (s : Shared) (H : Hp) (C : Addr) (cl : List (Str × Addr)) (fp : List Addr), PTs (X.blk s H scope (compEnvC scope cl C X.env) fp) ifs tt ∧ SR X.G X.mg W0 tt q fun _ => RB)
    (he : ∀ (s : Shared) (H : Hp) (C : Addr) (cl : List (Str × Addr)) (fp : List Addr), JO (X.blk s H scope (compEnvC scope cl C X.env) fp) W0 elt te pe) (hst : starEach [a] X.env = [(false, eval a X.env)] := by rfl)
    (hs : ∀ x, foldedSetIterable (.Call (.Name "range" p) [a] [] rpos) X.env x = pure x := by intro _; rfl) :
    JO X W (.ListComp elt [⟨tg, .Call (.Name "range" p) [a] [] rpos, ifs, 0⟩] scope pos) (tLc (iRng1 (tCons ta tNil)) g tt te (own.map (·.2))) (pCompR t q pe (own.map (·.2)) pa) := by
  refine ⟨pe_lc hc hN (pi_range1 hgl hm (pa_cons ha.pe pa_nil hst) hst) ok (fun s H C cl fp => (hg s H C cl fp).pg) (fun s H C cl fp => (ht s H C cl fp).1) (fun s H C cl fp => (he s H C cl fp).pe) hs, fun env σ H hv => ?_⟩
  have hg' := hg default (fun _ => none) 0 [] []
  have ht' := (ht default (fun _ => none) 0 [] []).2
  have he' := (he default (fun _ => none) 0 [] []).so
  unfold pCompR
  cases ho : pa env with
  | exc y => exact ⟨fun _ q => (by cases q), fun e q Q hQ => (by cases q; exact (ha.sv env σ H hv).ex _ ho _ fun cls dd H' s r => hQ cls dd H' s r)⟩
  | stuck => exact Do.stuck
  | ok d =>
    cases d with
    | tup ds => exact Do.stuck
    | lst ds => exact Do.stuck
    | fro ds => exact Do.stuck
    | dic _ _ => exact Do.stuck
    | obj _ _ _ => exact Do.stuck
    | v kv =>
      cases kv with
      | int j =>
        show Do _ _ _ _ _ _ (if _ then _ else _) _
        split
        · rename_i hj
          cases hcl : compL t q pe (kills (own.map (·.2)) env) (rngL 0 j.toNat) with
          | exc y => exact Do.stuck
          | stuck => exact Do.stuck
          | ok out =>
            show Do _ _ _ _ _ _ (if out.length ≤ sizeLine then _ else _) _
            split
            · rename_i hz
              refine ⟨fun d' e Q hQ => ?_, fun _ q => (by cases q)⟩
              cases e
              refine (ha.sv env σ H hv).ok _ ho _ fun x H1 s1 rx => ⟨j, by rw [rx.atom], hj.1, hj.2, fun D0 nD => ?_⟩
              have hv1 := hv.mono s1
              refine lc_range (lo := 0) (n := j.toNat) (fun i H' => CompP X.G H1 D0 out (compL t q pe (kills (own.map (·.2)) env) ((rngL 0 j.toNat).drop i)) H') ⟨same_new nD, [], [], [], out, upd_same, by rw [RpOs], List.nodup_nil, (fun a ha => nomatch ha), hcl, rfl⟩
                (fun i H' hi c => ?_) (fun H' c => ?_)
              · rw [rngL_get hi] at c
                exact comp_turn (X := X.blk default (fun _ => none) scope (compEnvC scope [] 0 X.env) []) (σ := σ) (tt := tt) (te := te) hg' ht' he' hv1 nD hz (by rw [RpV]) c
              · rw [List.drop_eq_nil_of_le (by unfold rngL; rw [List.length_map, List.length_range]; exact Nat.le_refl _)] at c
                exact comp_end nD s1 c fun x H' s r => hQ x H' (s1.trans s) r
            · exact Do.stuck
        · exact Do.stuck
      | _ => exact Do.stuck
def qYes : En → Ev Bool := fun _ => .ok true
theorem jts_yes : PTs X [] tYes ∧ SR K mg W0 tYes qYes fun _ => RB := ⟨pts_nil, fun env σ H hv => Do.now (fun Q q => q) rfl⟩
theorem jts_one {c : Expr} {tt : TT} {q : En → Ev Bool} (h : JT X W0 c tt q) : PTs X [c] tt ∧ SR X.G X.mg W0 tt q fun _ => RB := ⟨pts_one h.pt, h.st⟩
/-- y = [..] -/
theorem js_setLc {i : Nat} {y : Str} {py : Pos} {elt tg iter : Expr} {ifs : List Expr} {scope : Scope} {own : List (Str × Nat)} {spos : Pos} {g : TG} {t : D → En → Option En} {src : PX} (bd : Bd X W) (hi : JV X W iter tl src) (ok : BlkOk X.N X.env.scope scope own)
    (hg : ∀ (s : Shared) (H : Hp) (C : Addr) (cl : List (Str × Addr)) (fp : List Addr), JTv (X.blk s H scope (compEnvC scope cl C X.env) fp) tg g (own.map (·.2)) t)
    (ht : ∀ (s : Shared) (H : Hp) (C : Addr) (cl : List (Str × Addr)) (fp : List Addr), PTs (X.blk s H scope (compEnvC scope cl C X.env) fp) ifs tt ∧ SR X.G X.mg W0 tt q fun _ => RB)
    (he : ∀ (s : Shared) (H : Hp) (C : Addr) (cl : List (Str × Addr)) (fp : List Addr), JO (X.blk s H scope (compEnvC scope cl C X.env) fp) W0 elt te pe)
    (hy : X.N[i]? = some y) (hyl : X.env.scope.names.lookup y = some .local) (hsw : swapsWith (.ListComp elt [⟨tg, iter, ifs, 0⟩] scope pos) (some (.Name y py)) spos.line X.env = pure true)
    (hs : ∀ x, foldedSetIterable iter X.env x = pure x := by intro _; rfl) :
    JS X W (.Assign [.Name y py] (.ListComp elt [⟨tg, iter, ifs, 0⟩] scope pos) spos) (tAsg (tLc (iSeq X.K tl) g tt te (own.map (·.2))) (gName i)) (sSet i (gL (pComp t q pe (own.map (·.2)) src))) :=
  ⟨ps_setLc bd.calm bd.nd hy hyl hsw (pi_seq hi.pe) ok (fun s H C cl fp => (hg s H C cl fp).pg) (fun s H C cl fp => (ht s H C cl fp).1) (fun s H C cl fp => (he s H C cl fp).pe) hs,
   fun B env σ H hF => ss_set ((jo_comp (pos := pos) bd.calm bd.nd hi ok hg ht he hs).g.sg B env [] [] σ H hF)⟩
theorem js_setLcR {i : Nat} {y : Str} {py : Pos} {elt tg : Expr} {ifs : List Expr} {scope : Scope} {own : List (Str × Nat)} {spos p rpos : Pos} {g : TG} {t : D → En → Option En} (bd : Bd X W) (hgl : Gl X "range") (hm : X.mg "range" = none) (ha : JV X W a ta pa) (ok : BlkOk X.N X.env.scope scope own)
    (hg : ∀ (s : Shared) (H : Hp) (C : Addr) (cl : List (Str × Addr)) (fp : List Addr), JTv (X.blk s H scope (compEnvC scope cl C X.env) fp) tg g (own.map (·.2)) t)
    (ht : ∀ (s : Shared) (H : Hp) (C : Addr) (cl : List (Str × Addr)) (fp : List Addr), PTs (X.blk s H scope (compEnvC scope cl C X.env) fp) ifs tt ∧ SR X.G X.mg W0 tt q fun _ => RB)
    (he : ∀ (s : Shared) (H : Hp) (C : Addr) (cl : List (Str × Addr)) (fp : List Addr), JO (X.blk s H scope (compEnvC scope cl C X.env) fp) W0 elt te pe)
    (hy : X.N[i]? = some y) (hyl : X.env.scope.names.lookup y = some .local) (hsw : swapsWith (.ListComp elt [⟨tg, .Call (.Name "range" p) [a] [] rpos, ifs, 0⟩] scope pos) (some (.Name y py)) spos.line X.env = pure true) (hst : starEach [a] X.env = [(false, eval a X.env)] := by rfl)
    (hs : ∀ x, foldedSetIterable (.Call (.Name "range" p) [a] [] rpos) X.env x = pure x := by intro _; rfl) :
    JS X W (.Assign [.Name y py] (.ListComp elt [⟨tg, .Call (.Name "range" p) [a] [] rpos, ifs, 0⟩] scope pos) spos) (tAsg (tLc (iRng1 (tCons ta tNil)) g tt te (own.map (·.2))) (gName i)) (sSet i (gL (pCompR t q pe (own.map (·.2)) pa))) :=
  ⟨ps_setLc bd.calm bd.nd hy hyl hsw (pi_range1 hgl hm (pa_cons ha.pe pa_nil hst) hst) ok (fun s H C cl fp => (hg s H C cl fp).pg) (fun s H C cl fp => (ht s H C cl fp).1) (fun s H C cl fp => (he s H C cl fp).pe) hs,
   fun B env σ H hF => ss_set ((jo_compR (pos := pos) bd.calm bd.nd hgl hm ha ok hg ht he hst hs).g.sg B env [] [] σ H hF)⟩
end
/-! ### defs -/
def env0 (n : Nat) (ds : List D) : En := ds.map Sl.fz ++ List.replicate (n - ds.length) Sl.no
def endD : Ou → Ev D
  | .rt d _ => .ok d
  | .nx _ => .ok .n
  | .exc x _ => .exc x
  | _ => .stuck
/-- what a def with n slots comes to -/
def fnD (n : Nat) (s : En → Ou) : List D → Ev D := fun ds => endD (s (env0 n ds))
section
variable {P : Program} {w : World} {K : PySem.W.Frag} {G : Kb} {mg : Str → Option Value} {base : Heap}
theorem start_slots {H : Hp} {N : List Str} : ∀ {Pn : Nat → Option V} {vs : List V} {ds : List D} {n : Nat}, RpVs G H vs ds → SlRs G H Pn H (ds.map Sl.fz ++ List.replicate n Sl.no) (vs.map some ++ List.replicate n none) []
  | Pn, [], [], n, _ => by
    show SlRs G H Pn H (List.replicate n Sl.no) (List.replicate n none) []
    induction n generalizing Pn with
    | zero => exact rfl
    | succ n ih =>
      rw [List.replicate_succ, List.replicate_succ]
      exact ⟨[], [], rfl, rfl, ih _⟩
  | Pn, v :: vs, d :: ds, n, h => by
    rw [RpVs] at h
    exact ⟨[], [], rfl, ⟨h.1, rfl⟩, start_slots (N := N) h.2⟩
  | _, [], _ :: _, _, h => by simp [RpVs] at h
  | _, _ :: _, [], _, h => by simp [RpVs] at h
def bz0 (H : Hp) : Bz := ⟨H, fun _ => none⟩
theorem fr_start {H : Hp} {N : List Str} {vs : List V} {ds : List D} (h : RpVs G H vs ds) : Fr G (bz0 H) (env0 N.length ds) [] [] (L2.start N vs) H := by
  have e : off H ([] ++ []) = H := by
    funext a
    exact off_out (by simp)
  refine ⟨[], [], ?_, by rw [RpOs], List.nodup_nil, by rw [e]; exact Same.refl _⟩
  rw [e]
  unfold env0 L2.start
  rw [h.length]
  exact start_slots (N := N) h
theorem fr_sub {B : Bz} {env : En} {tv : List V} {td : List D} {σ : L2.St} {H : Hp} (h : Fr G B env tv td σ H) : Same B.hp H := by
  obtain ⟨f, g, _, _, _, h4⟩ := h
  exact h4.trans (off_sub _ _)
/-- THE DEF -/
theorem fn_mk {x qual : Str} {st : Stmt} {f : Addr} {fd : FuncData} {N ps : List Str} {k : Nat} {s : En → Ou} (F : Fun K x qual st f fd) (S : FnScope N ps (defScope st))
    (hbody : ∀ (cdv : Value) (A : Around) (outer : List Env) (s0 : Shared) (H : Hp) (E : XK), Room k (A.deeper (envOfC qual (defScope st) s0.heap.objs.size f cdv)) →
      Bd (cxOf (L2.CX P w) P w K mg base N qual (defScope st) f cdv A outer s0 H E) (fun cls d _ H => E cls d H) →
      ∃ t, JSs (cxOf (L2.CX P w) P w K mg base N qual (defScope st) f cdv A outer s0 H E) (fun cls d _ H => E cls d H) (defBody st) t s) :
    FnOk P w K mg base (L2.CX P w) (k + 1) f fd ps (spF ⟨K, mg, P, w⟩ mg ps.length (fnD N.length s)) := by
  refine F.okX S (fun vs H Q E h => h.1) (fun cdv A outer s0 H vs Q E hr hsp => ?_)
  obtain ⟨hl, ds, rv, hG⟩ := hsp
  obtain ⟨t, J⟩ := hbody cdv A outer s0 H E hr ⟨S.nd, takes_of rfl rfl rfl rfl, passes_of rfl, rfl⟩
  refine ⟨t, J.ps, (J.ss (bz0 H) (env0 N.length ds) (L2.start N vs) H (fr_start rv)).go ?_⟩
  have out : ∀ {e : En} {x : V} {d : D} {σ' : L2.St} {H' : Hp}, Fr ⟨K, mg, P, w⟩ (bz0 H) e [x] [d] σ' H' → Same H H' ∧ RO ⟨K, mg, P, w⟩ H H' x d := fun {e x d σ' H'} hF => by
    refine ⟨fr_sub hF, ?_⟩
    obtain ⟨f, g, h1, h2, h3, h4⟩ := hF
    rw [RpOs] at h2
    obtain ⟨g1, g2, e0, r1, r2⟩ := h2
    rw [RpOs] at r2
    subst r2
    rw [List.append_nil] at e0
    subst e0
    refine ⟨g, r1, (List.nodup_append.mp h3).2.1, fun a ha => ?_⟩
    cases q : H a with
    | none => rfl
    | some o => exact absurd (List.mem_append_right _ ha) (off_some (h4 a o q)).2
  unfold fnD at hG
  show Cond ⟨K, mg, P, w⟩ mg _ (bz0 H) (s (env0 N.length ds)) _
  cases ho : s (env0 N.length ds) with
  | nx e =>
    rw [ho] at hG
    rcases hG with ⟨d, e1, hQ⟩ | ⟨y, e1, _⟩
    · cases e1
      exact fun σ' H' hF => hQ .non H' (fr_sub hF) RO.atom
    · cases e1
  | rt d e =>
    rw [ho] at hG
    rcases hG with ⟨d', e1, hQ⟩ | ⟨y, e1, _⟩
    · cases e1
      exact fun x σ' H' hF => hQ x H' (out hF).1 (out hF).2
    · cases e1
  | exc y e =>
    rw [ho] at hG
    rcases hG with ⟨d', e1, hQ⟩ | ⟨y', e1, hE⟩
    · cases e1
    · cases e1
      exact fun cls dd σ' H' hF r => hE cls dd H' (fr_sub hF) r
  | bk e => rw [ho] at hG; rcases hG with ⟨d', e1, hQ⟩ | ⟨y', e1, hE⟩ <;> cases e1
  | ct e => rw [ho] at hG; rcases hG with ⟨d', e1, hQ⟩ | ⟨y', e1, hE⟩ <;> cases e1
  | stuck => rw [ho] at hG; rcases hG with ⟨d', e1, hQ⟩ | ⟨y', e1, hE⟩ <;> cases e1
theorem fd_mk {x qual : Str} {st : Stmt} {f : Addr} {fd : FuncData} {ps : List Str} {k n : Nat} {G : List D → Ev D} (F : Fun K x qual st f fd) (hm : mg x = some (.ref f)) (hb : Binds K fd ps []) (hn : ps.length = n) (h : FnOk P w K mg base (L2.CX P w) k f fd ps (spF ⟨K, mg, P, w⟩ mg ps.length G)) : Fd P w K mg base k x n G := by
  subst hn
  exact ⟨f, fd, ps, rfl, h, hm, F.kp, hb⟩
end
/-- the law's own promise is what is wanted -/
theorem sp_law {K : Kb} {mg : Str → Option Value} {G : List D → Ev D} {H : Hp} {a : Addr} {ns : List Int} (hS : SqL K.K H a (ns.map V.int)) (hG : G [.fro (ns.map D.i)] = .ok (D.b true)) : spF K mg 1 G [.ref a] H (fun v _ => v = .bl true) fun _ _ _ => False := by
  have key : ∀ ns : List Int, RpVs K H (ns.map V.int) (ns.map D.i) := by
    intro ns
    induction ns with
    | nil => rw [List.map_nil, List.map_nil, RpVs]; trivial
    | cons n ns ih => rw [List.map_cons, List.map_cons, RpVs]; exact ⟨by rw [RpV], ih⟩
  refine ⟨rfl, [.fro (ns.map D.i)], ?_, .inl ⟨_, hG, fun x H' s r => ?_⟩⟩
  · rw [RpVs]
    refine ⟨?_, by rw [RpVs]; trivial⟩
    rw [RpV]
    exact ⟨a, _, rfl, hS, key ns⟩
  · obtain ⟨f, h, _⟩ := r
    rw [RpO] at h
    exact h.1
theorem cx_end {P : Program} {w : World} {H : Hp} {s : Shared} {e : Value} {s' : Shared} (h : L2.CX P w [] H s (fun _ _ _ => False) e s') : False := by
  obtain ⟨_, _, _, _, _, _, _, _, _, _, _, _, z⟩ := h
  exact z
end Gw

set_option maxHeartbeats 4000000
/-! GxJ: the end of a law; raise, what is never reached. -/
namespace Gw
open PySem PySem.Spec PyProof.Rows L2
/-- a statement that the law never comes to -/
def sNever : En → Ou := fun _ => .stuck
theorem js_never {X : Cx} {W : WX} {st : Stmt} : JS X W st tNever sNever := ⟨ps_never, fun _ _ _ _ _ => Ss.stuck⟩
/-- an own exception class over ValueError, without an own __init__ -/
structure ExcC (K : PySem.W.Frag) (mg : Str → Option Value) (x : Str) (C : Addr) : Prop where
  g : mg x = some (.ref C)
  x : PySem.W.excIn K C [.type "ValueError", .type "Exception", .type "BaseException", .type "object"] "ValueError.__new__" = true
  k : PySem.W.keepIn K (.ref C) = true
  b : PySem.W.subIn K (.ref C) (.type "BaseException") = some true
  t : PySem.W.typeIn K (.ref C) = some (.type "type")
  i : PySem.W.isClsIn K C = true
  s : PySem.W.subIn K (.ref C) (.ref C) = some true
theorem js_raiseC {X : Cx} {W : WX} {x m : Str} {C : Addr} {j : Nat} {p p2 pos rpos : Pos} (bd : Bd X W) (ex : ExcC X.K X.mg x C) (hg : Gl X x) (hdb : (x == ("__debug__" : Str)) = false := by decide) :
    JS X W (.Raise (some (.Call (.Name x p) [.Constant (.str m) j p2] [] pos)) none rpos) (fun _ σ H => (fun (_ : L2.St) (H : Hp) (Q : XK) => Q (.ref C) none H) σ H fun cls d H' => W cls d σ H') (sRaise x) :=
  js_raise bd ex.g (pmk_own PySem.F.excBase_ValueError ex.x ex.g ex.k (raises_own ex.b ex.t) hg hdb)

theorem def_mk {K : PySem.W.Frag} {h : Heap} {mg : Str → Option Value} {x : Str} {st : Stmt} {f : Addr} {oc : Value} {od an : Option Addr} {osl : Array (Option Value)} {kV doc pm cdv ct : Value} (X : K.In h) (G : h.Ns mainGlobals mg)
    (a : PySem.W.nsIn K mainGlobals x = some (some (.ref f))) (l : K.lookup f = some ⟨oc, od, .func (PySem.W.fnOf x x (defArgs st) (defBody st) (defScope st) .none kV doc pm an cdv ct), osl⟩)
    (c : PySem.W.codeIn K cdv x = true) (k : PySem.W.keepIn K (.ref f) = true) : ∃ f fd, Fun K x x st f fd ∧ mg x = some (.ref f) := ⟨f, _, fun_mk l c k, PySem.W.mg_of X G a⟩
theorem bind1 {K : PySem.W.Frag} {x qual p : Str} {st : Stmt} {f : Addr} {fd : FuncData} (F : Fun K x qual st f fd)
    (h : ∀ (kV doc pm : Value) (an : Option Addr) (cdv ct u : Value), bindArgs (PySem.W.fnOf x qual (defArgs st) (defBody st) (defScope st) .none kV doc pm an cdv ct) ⟨[u], []⟩ = pure [(p, u)]) : ∀ (s : Shared) (u : Value), BindsTo s fd ⟨[u], []⟩ [(p, u)] := by
  obtain ⟨oc, od, kV, doc, pm, an, cdv, ct, osl, rfl, lk, hcd⟩ := F.ex
  exact fun s u => .of_eq (h kV doc pm an cdv ct u)
/-- the law's promise -/
def spLaw (K : PySem.W.Frag) : Sp := fun vs H Q _ => ∃ (a : Addr) (ns : List Int), vs = [.ref a] ∧ SqL K H a (ns.map V.int) ∧ ns.length ≤ 63 ∧ ∀ H', Q (.bl true) H'
theorem sp_imp {P : Program} {w : World} {K : PySem.W.Frag} {mg : Str → Option Value} {G : List D → Ev D} (hG : ∀ ns : List Int, ns.length ≤ 63 → G [.fro (ns.map D.i)] = .ok (D.b true)) : ∀ vs H Q E, spLaw K vs H Q E → spF ⟨K, mg, P, w⟩ mg 1 G vs H Q E := by
  rintro vs H Q E ⟨a, ns, rfl, hS, hl, q⟩
  have key : ∀ ns : List Int, RpVs ⟨K, mg, P, w⟩ H (ns.map V.int) (ns.map D.i) := by
    intro ns
    induction ns with
    | nil => rw [List.map_nil, List.map_nil, RpVs]; trivial
    | cons n ns ih => rw [List.map_cons, List.map_cons, RpVs]; exact ⟨by rw [RpV], ih⟩
  refine ⟨rfl, [.fro (ns.map D.i)], ?_, .inl ⟨_, hG ns hl, fun x H' s r => ?_⟩⟩
  · rw [RpVs]
    refine ⟨?_, by rw [RpVs]; trivial⟩
    rw [RpV]
    exact ⟨a, _, rfl, hS, key ns⟩
  · obtain ⟨f, h, _⟩ := r
    rw [RpO] at h
    rw [h.1]
    exact q H'
end Gw

set_option maxHeartbeats 4000000
/-! GxV: frames that own nothing any more: then everything is only seen, and lists may be shared. -/
namespace Gw
open PySem PySem.Spec PyProof.Rows L2
def noOwn : En → Bool
  | [] => true
  | .own _ :: _ => false
  | .io _ :: _ => false
  | _ :: e => noOwn e
section
variable {X : Cx} {W : WX} {a b c e : Expr} {es : List Expr} {ta tb tc te : TE} {tes : TA} {pa pb pc : PX} {ps : En → Ev (List D)} {pos : Pos} {K : Kb} {B : Bz} {H H' : Hp} {env : En} {σ : L2.St}
theorem noOwn_foot {Z : Hp} : ∀ {Pn : Nat → Option V} {env : En} {σ : L2.St} {f : List Addr}, SlRs K Z Pn H env σ f → noOwn env = true → f = []
  | _, [], [], _, h, _ => h
  | _, .no :: env, x :: σ, _, ⟨f1, f2, e0, h1, h2⟩, n => by
    subst e0
    rw [show f1 = [] from h1, noOwn_foot h2 (by simpa [noOwn] using n)]; rfl
  | _, .fz d :: env, x :: σ, _, ⟨f1, f2, e0, h1, h2⟩, n => by
    subst e0
    have : f1 = [] := by
      cases x with
      | none => exact h1.elim
      | some x => exact h1.2
    rw [this, noOwn_foot h2 (by simpa [noOwn] using n)]; rfl
  | _, .own d :: env, x :: σ, _, _, n => by simp [noOwn] at n
  | _, .io d :: env, x :: σ, _, _, n => by simp [noOwn] at n
  | _, [], _ :: _, _, h, _ => h.elim
  | _, _ :: _, [], _, h, _ => h.elim
theorem Fr.whole (h : Fr K B env [] [] σ H) (n : noOwn env = true) : Fr K ⟨H, B.pin⟩ env [] [] σ H ∧ Same B.hp H := by
  obtain ⟨f, g, h1, h2, h3, h4⟩ := h
  have ef := noOwn_foot h1 n
  rw [RpOs] at h2
  subst ef; subst h2
  have e : off H ([] ++ []) = H := by
    funext a
    exact off_out (by simp)
  rw [e] at h4
  exact ⟨⟨[], [], h1, by rw [RpOs], h3, by rw [e]; exact Same.refl _⟩, h4⟩
def pNo (p : PX) : PX := fun e => if noOwn e = true then p e else .stuck
theorem jf_view (h : JV X W a ta pa) : JF X W a ta (pNo pa) := by
  refine ⟨h.pe, fun B env σ H hF d hd Q hQ => ?_, fun B env σ H hF y hd Q hQ => ?_⟩
  · unfold pNo at hd
    split at hd
    · rename_i n
      refine (h.sv env σ H hF.vw).ok d hd Q fun x H' s r => ?_
      have w := (hF.mono s).whole n
      exact hQ x H' ⟨H', B.pin⟩ w.1 ⟨w.2, rfl⟩ r
    · cases hd
  · unfold pNo at hd
    split at hd
    · exact (h.sv env σ H hF.vw).ex y hd Q fun cls dd H' s r => hQ cls dd H' (hF.mono s) r
    · cases hd
/-- an item of a list that is let go -/
theorem Fr.pick {x : V} {ds : List D} {d : D} {k : Int} {tv : List V} {td : List D} (h : Fr K B env (x :: tv) (.lst ds :: td) σ H) (hd : atI ds k = some d) : ∃ p xs y, x = .ref p ∧ H p = some (.lst xs) ∧ atI xs k = some y ∧ Fr K B env (y :: tv) (d :: td) σ H := by
  obtain ⟨f, g, h1, h2, h3, h4⟩ := h
  rw [RpOs] at h2
  obtain ⟨g1, g2, e0, r, r2⟩ := h2
  subst e0
  rw [RpO] at r
  obtain ⟨p, xs, gi, rfl, hp, e1, r⟩ := r
  subst e1
  unfold atI at hd ⊢
  cases hj : ixN ds.length k with
  | none => rw [hj] at hd; cases hd
  | some j =>
    rw [hj] at hd
    have hd : ds[j]? = some d := hd
    obtain ⟨fa, fi, fb, y, e2, e3, r1, _, _⟩ := RpOs.split r hd
    subst e2
    have l : xs.length = ds.length := r.len
    have z : Same (off H (f ++ ((p :: (fa ++ (fi ++ fb))) ++ g2))) (off H (f ++ (fi ++ g2))) := off_same fun a o e1 e2 => ⟨e1, fun hm => e2 (by
      simp only [List.mem_append, List.mem_cons] at hm ⊢
      rcases hm with hm | hm | hm
      · exact .inl hm
      · exact .inr (.inl (.inr (.inr (.inl hm))))
      · exact .inr (.inr hm))⟩
    refine ⟨p, xs, y, rfl, hp, by rw [l, hj]; exact e3, f, fi ++ g2, h1.keep (Kt.refl _) z (fun _ _ _ q => q), by rw [RpOs]; exact ⟨fi, g2, rfl, r1, r2⟩, ?_, h4.trans z⟩
    refine h3.sublist (List.Sublist.append (List.Sublist.refl _) (List.Sublist.append ?_ (List.Sublist.refl _)))
    refine List.Sublist.trans ?_ (List.sublist_cons_self _ _)
    refine List.Sublist.trans ?_ (List.sublist_append_right _ _)
    exact List.sublist_append_left _ _
def gMoveIx (i : Nat) (q : PX) : En → Eg D := fun env => match env[i]? with
  | some (.own (.lst ds)) => (match q env with
    | .ok (.v (.int k)) => (match atI ds k with
      | some d => .ok d (env.set i .no)
      | none => .stuck)
    | .ok _ => .stuck
    | .exc x => .exc x env
    | .stuck => .stuck)
  | _ => .stuck
theorem jg_moveIx {i : Nat} {x : Str} {p : Pos} (h : PE X (.Name x p) (tVar i)) (hb : JV X W b tb pb) (hs : PlainIx b) : JG X W (.Subscript (.Name x p) b pos) (tOp (rIx X.K) (tVar i) tb) (gMoveIx i pb) := ⟨pe_ix ix_seq h hb.pe hs, fun B env tv td σ H hF => by
  unfold gMoveIx
  split
  · rename_i ds he
    obtain ⟨y, e1, hF2⟩ := hF.take he
    split
    · rename_i k hq
      split
      · rename_i d hd
        refine ⟨fun d' e' q Q hQ => ?_, fun _ _ q => (by cases q)⟩
        cases q
        refine ⟨y, e1, (hb.sv env σ H hF.vw).ok _ hq _ fun z H2 s2 rz => ?_⟩
        rw [rz.atom]
        obtain ⟨p, xs, w, rfl, hp, hw, hF3⟩ := (hF2.mono s2).pick hd
        exact .inl ⟨p, xs, _, w, rfl, rfl, SqL.of hp, hw, hQ w H2 hF3⟩
      · exact ⟨fun _ _ q => (by cases q), fun _ _ q => (by cases q)⟩
    · exact ⟨fun _ _ q => (by cases q), fun _ _ q => (by cases q)⟩
    · rename_i y' hq
      refine ⟨fun _ _ q => (by cases q), fun _ _ q Q hQ => ?_⟩
      cases q
      exact ⟨y, e1, (hb.sv env σ H hF.vw).ex _ hq _ fun cls dd H' s r => hQ cls dd H' (hF.mono s) r⟩
    · exact ⟨fun _ _ q => (by cases q), fun _ _ q => (by cases q)⟩
  · exact ⟨fun _ _ q => (by cases q), fun _ _ q => (by cases q)⟩⟩
/-- lists put together, whatever they hold -/
def dAddV : D → D → Ev D
  | .lst xs, .lst ys => if xs.length + ys.length ≤ sizeLine then .ok (.lst (xs ++ ys)) else .stuck
  | _, _ => .stuck
theorem od_addV : OpDV X W (rAddU X.K) dAddV := fun σ H x y d e r1 r2 => by
  unfold dAddV
  split
  · split
    · rename_i xs ys hz
      rw [RpV] at r1 r2
      obtain ⟨a, us, rfl, s1, q1⟩ := r1
      obtain ⟨b, ws, rfl, s2, q2⟩ := r2
      have l1 := q1.length
      have l2 := q2.length
      refine ⟨fun d' e Q hQ => ?_, fun e he => nomatch he⟩
      cases e
      refine .inr (.inr (.inr ⟨a, b, us, ws, rfl, rfl, s1, s2, by omega, fun p np => hQ _ _ (same_new np) ?_⟩))
      rw [RpV]
      exact ⟨p, _, rfl, upd_same, (q1.append q2).mono (same_new np)⟩
    · exact Do.stuck
  · exact Do.stuck
theorem jv_addV (ha : JV X W a ta pa) (hb : JV X W b tb pb) : JV X W (.BinOp a .Add b pos) (tOp (rAddU X.K) ta tb) (p2 dAddV pa pb) := ⟨pe_op op_addU ha.pe hb.pe, sv_op od_addV ha.sv hb.sv⟩
theorem jv_lst (h : JAs X W es tes ps) (hz : es.length ≤ 1000 := by decide) : JV X W (.List es pos) (tLst tes) (pLst ps) := ⟨pe_lst h.pa, fun env σ H hv =>
  (h.sa env σ H hv).bind (u := fun (xs : List V) H1 (Q : VK) => xs.length ≤ sizeLine ∧ ∀ p, H1 p = none → Q (.ref p) (upd H1 p (.lst xs))) (q := fun ds => Ev.ok (D.lst ds)) (R' := RpV X.G) fun xs ds H1 e s r => by
    have l : xs.length ≤ sizeLine := by rw [r.length, h.len env ds e]; exact small_line hz
    refine ⟨fun d' e Q hQ => ⟨l, fun p np => ?_⟩, fun e he => (by cases he)⟩
    cases e
    refine hQ _ _ (same_new np) ?_
    rw [RpV]
    exact ⟨p, xs, rfl, upd_same, RpVs.mono (same_new np) _ _ r⟩⟩
/-- every slot is only read from now on -/
def frzs : Nat → En → En
  | 0, e => e
  | n + 1, e => frz1 (frzs n e) n
theorem Fr.frzs (h : Fr K B env [] [] σ H) : ∀ n, Fr K B (Gw.frzs n env) [] [] σ H
  | 0 => h
  | n + 1 => (Fr.frzs h n).frz n
def sFrzs (n : Nat) (s : En → Ou) : En → Ou := fun e => s (frzs n e)
theorem JS.frzs {st : Stmt} {t : TS} {s1 : En → Ou} (n : Nat) (h : JS X W st t s1) : JS X W st t (sFrzs n s1) := ⟨h.ps, fun B env σ H hF => h.ss B _ σ H (hF.frzs n)⟩

/-! ### a body that ends by what it sees -/
structure SsV (K : Kb) (mg : Str → Option Value) (W : WX) (B : Bz) (t : TS) (σ : L2.St) (H : Hp) (o : Ou) : Prop where
  rt : ∀ d e, o = .rt d e → ∀ D : Ends, (∀ x H', Same B.hp H' → RpV K H' x d → D.rt x H') → t D σ H
  ex : ∀ y e, o = .exc y e → ∀ D : Ends, (∀ cls dd σ' H', Same B.hp H' → XR K mg H' y cls dd → W cls dd σ' H') → t D σ H
structure JSsV (X : Cx) (W : WX) (st : List Stmt) (t : TS) (s : En → Ou) : Prop where
  ps : PSs X st t
  ss : ∀ B env σ H, Fr X.G B env [] [] σ H → SsV X.G X.mg W B t σ H (s env)
variable {st : Stmt} {rest : List Stmt} {t u : TS} {s1 s2 : En → Ou}
theorem jssv_cons (h1 : JS X W st t s1) (h2 : JSsV X W rest u s2) : JSsV X W (st :: rest) (tSeq t u) (sSeq s1 s2) := ⟨pss_cons h1.ps h2.ps, fun B env σ H hF => by
  have q := h1.ss B env σ H hF
  unfold sSeq
  cases ho : s1 env with
  | nx e =>
    exact ⟨fun d e' q' D hD => q.nx e ho _ fun σ' H' hF' => (h2.ss B e σ' H' hF').rt d e' q' D hD, fun y e' q' D hD => q.nx e ho _ fun σ' H' hF' => (h2.ss B e σ' H' hF').ex y e' q' D hD⟩
  | rt d e => exact ⟨fun d' e' q' D hD => (by cases q'; exact q.rt d e ho _ fun x σ' H' hF' => hD x H' (fr_sub hF') hF'.top), fun _ _ q' => (by cases q')⟩
  | exc x e => exact ⟨fun _ _ q' => (by cases q'), fun y e' q' D hD => (by cases q'; exact q.ex x e ho _ fun cls dd σ' H' hF' r => hD cls dd σ' H' (fr_sub hF') r)⟩
  | bk e => exact ⟨fun _ _ q' => (by cases q'), fun _ _ q' => (by cases q')⟩
  | ct e => exact ⟨fun _ _ q' => (by cases q'), fun _ _ q' => (by cases q')⟩
  | stuck => exact ⟨fun _ _ q' => (by cases q'), fun _ _ q' => (by cases q')⟩⟩
theorem jssv_one (h : JSs X W rest t s1) : JSsV X W rest t s1 := ⟨h.ps, fun B env σ H hF => by
  have q := h.ss B env σ H hF
  exact ⟨fun d e ho D hD => q.rt d e ho D fun x σ' H' hF' => hD x H' (fr_sub hF') hF'.top, fun y e ho D hD => q.ex y e ho D fun cls dd σ' H' hF' r => hD cls dd σ' H' (fr_sub hF') r⟩⟩
theorem jssv_ret (h : JV X W a ta pa) : JSsV X W [.Return (some a) pos] (tRet ta) (sRet (gL pa)) := ⟨pss_one (ps_ret h.pe), fun B env σ H hF => by
  have q := h.sv env σ H hF.vw
  unfold sRet gL
  cases ho : pa env with
  | ok d => exact ⟨fun d' e' q' D hD => (by cases q'; exact q.ok d ho _ fun x H' s r => hD x H' ((fr_sub hF).trans s) r), fun _ _ q' => (by cases q')⟩
  | exc x => exact ⟨fun _ _ q' => (by cases q'), fun y e' q' D hD => (by cases q'; exact q.ex x ho _ fun cls dd H' s r => hD cls dd σ H' ((fr_sub hF).trans s) r)⟩
  | stuck => exact ⟨fun _ _ q' => (by cases q'), fun _ _ q' => (by cases q')⟩⟩
end
def spV (K : Kb) (mg : Str → Option Value) (n : Nat) (G : List D → Ev D) : Sp := fun vs H Q E => vs.length = n ∧ ∃ ds, RpVs K H vs ds ∧
  ((∃ d, G ds = .ok d ∧ ∀ x H', Same H H' → RpV K H' x d → Q x H') ∨ (∃ e, G ds = .exc e ∧ ∀ cls dd H', Same H H' → XR K mg H' e cls dd → E cls dd H'))
structure FdV (P : Program) (w : World) (K : PySem.W.Frag) (mg : Str → Option Value) (base : Heap) (k : Nat) (x : Str) (n : Nat) (G : List D → Ev D) : Prop where
  ex : ∃ f fd ps, ps.length = n ∧ FnOk P w K mg base (L2.CX P w) k f fd ps (spV ⟨K, mg, P, w⟩ mg n G) ∧ mg x = some (.ref f) ∧ PySem.W.keepIn K (.ref f) = true ∧ Binds K fd ps []
theorem jv_callV {X : Cx} {W : WX} {e : Expr} {es : List Expr} {tes : TA} {ps : En → Ev (List D)} {pos : Pos} {k : Nat} {x : Str} {n : Nat} {G : List D → Ev D} {p : Pos} (F : FdV X.prog X.w X.K X.mg X.base k x n G) (hr : Room k X.A) (hg : Gl X x) (tk : Takes X W) (ha : JAs X W (e :: es) tes ps) (hn : (e :: es).length = n := by rfl)
    (hdb : (x == ("__debug__" : Str)) = false := by decide)
    (he : starEach (e :: es) X.env = (false, eval e X.env) :: starEach es X.env := by rfl) (hpl : (backTo pos (starEach es X.env)).any (·.1) = false := by rfl) :
    JV X W (.Call (.Name x p) (e :: es) [] pos) (tCallS (spV X.G X.mg n G) (WE W) tes) (pCall G ps) := by
  obtain ⟨f, fd, pl, hl, FO, hm, hk, hb⟩ := F.ex
  refine ⟨pe_callS FO hr hg hm hk hb (passAt tk) ha.pa hdb he hpl, fun env σ H hv => ?_⟩
  refine (ha.sa env σ H hv).bind (u := fun vs H1 (Q : VK) => spV X.G X.mg n G vs H1 Q (WE W σ)) fun xs ds H1 e1 s1 r1 => ?_
  have l : xs.length = n := by rw [r1.length, ha.len env ds e1]; exact hn
  exact ⟨fun d e Q hQ => ⟨l, ds, r1, .inl ⟨d, e, fun x H' s r => hQ x H' s r⟩⟩, fun d e Q hQ => ⟨l, ds, r1, .inr ⟨d, e, fun cls dd H' s r => hQ cls dd H' s r⟩⟩⟩
section
variable {P : Program} {w : World} {K : PySem.W.Frag} {mg : Str → Option Value} {base : Heap}
def endV : Ou → Ev D
  | .rt d _ => .ok d
  | .exc x _ => .exc x
  | _ => .stuck
def fnV (n : Nat) (s : En → Ou) : List D → Ev D := fun ds => endV (s (env0 n ds))
theorem fn_mkV {x qual : Str} {st : Stmt} {f : Addr} {fd : FuncData} {N ps : List Str} {k : Nat} {s : En → Ou} (F : Fun K x qual st f fd) (S : FnScope N ps (defScope st))
    (hbody : ∀ (cdv : Value) (A : Around) (outer : List Env) (s0 : Shared) (H : Hp) (E : XK), Room k (A.deeper (envOfC qual (defScope st) s0.heap.objs.size f cdv)) →
      Bd (cxOf (L2.CX P w) P w K mg base N qual (defScope st) f cdv A outer s0 H E) (fun cls d _ H => E cls d H) →
      ∃ t, JSsV (cxOf (L2.CX P w) P w K mg base N qual (defScope st) f cdv A outer s0 H E) (fun cls d _ H => E cls d H) (defBody st) t s) :
    FnOk P w K mg base (L2.CX P w) (k + 1) f fd ps (spV ⟨K, mg, P, w⟩ mg ps.length (fnV N.length s)) := by
  refine F.okX S (fun vs H Q E h => h.1) (fun cdv A outer s0 H vs Q E hr hsp => ?_)
  obtain ⟨hl, ds, rv, hG⟩ := hsp
  obtain ⟨t, J⟩ := hbody cdv A outer s0 H E hr ⟨S.nd, takes_of rfl rfl rfl rfl, passes_of rfl, rfl⟩
  refine ⟨t, J.ps, ?_⟩
  have q := J.ss (bz0 H) (env0 N.length ds) (L2.start N vs) H (fr_start rv)
  rcases hG with ⟨d, e1, hQ⟩ | ⟨y, e1, hE⟩
  · unfold fnV endV at e1
    split at e1
    · rename_i d' e ho
      cases e1
      exact q.rt d e ho _ fun x H' s r => hQ x H' s r
    · cases e1
    · cases e1
  · unfold fnV endV at e1
    split at e1
    · cases e1
    · rename_i x e ho
      cases e1
      exact q.ex _ e ho _ fun cls dd σ' H' s r => hE cls dd H' s r
    · cases e1
theorem fd_mkV {x qual : Str} {st : Stmt} {f : Addr} {fd : FuncData} {ps : List Str} {k n : Nat} {G : List D → Ev D} (F : Fun K x qual st f fd) (hm : mg x = some (.ref f)) (hb : Binds K fd ps []) (hn : ps.length = n) (h : FnOk P w K mg base (L2.CX P w) k f fd ps (spV ⟨K, mg, P, w⟩ mg ps.length G)) : FdV P w K mg base k x n G := by
  subst hn
  exact ⟨f, fd, ps, rfl, h, hm, F.kp, hb⟩
end
end Gw

/-! GxS: how the meanings are reckoned with: rules for simp, loops by an invariant. -/
namespace Gw
open PySem PySem.Spec PyProof.Rows L2

section look
variable {e : En} {i j : Nat} {d : D} {s : Sl}
@[simp] theorem lk_nil : lk [] i = none := (rfl)
@[simp] theorem lk_no : lk (.no :: e) 0 = none := (rfl)
@[simp] theorem lk_own : lk (.own d :: e) 0 = some d := (rfl)
@[simp] theorem lk_fz : lk (.fz d :: e) 0 = some d := (rfl)
@[simp] theorem lk_succ : lk (s :: e) (i + 1) = lk e i := (rfl)
@[simp] theorem kills_nil : kills [] e = e := (rfl)
@[simp] theorem kills_cons {is : List Nat} : kills (i :: is) e = kills is (e.set i .no) := (rfl)
@[simp] theorem pV_e : pV i e = (match lk e i with | some d => .ok d | none => .stuck) := (rfl)
@[simp] theorem pC_e {x : V} : pC x e = .ok (.v x) := (rfl)
@[simp] theorem p1_e {g : D → Ev D} {a : PX} : p1 g a e = (a e).bind g := (rfl)
@[simp] theorem p2_e {g : D → D → Ev D} {a b : PX} : p2 g a b e = (a e).bind fun x => (b e).bind fun y => g x y := (rfl)
@[simp] theorem pImm_e {a : PX} : pImm a e = (a e).bind fun d => if imm d then .ok d else .stuck := (rfl)
@[simp] theorem qB_e {p : PX} : qB p e = (p e).bind dBool := (rfl)
@[simp] theorem qAnd_e {a b : En → Ev Bool} : qAnd a b e = (a e).bind fun c => if c = true then b e else .ok false := (rfl)
@[simp] theorem qOr_e {a b : En → Ev Bool} : qOr a b e = (a e).bind fun c => if c = true then .ok true else b e := (rfl)
@[simp] theorem qNot_e {a : En → Ev Bool} : qNot a e = (a e).bind fun c => .ok (!c) := (rfl)
@[simp] theorem qYes_e : qYes e = .ok true := (rfl)
@[simp] theorem pAnd_e {a b : PX} : pAnd a b e = (a e).bind fun d => bAnd d (b e) := (rfl)
@[simp] theorem pOr_e {a b : PX} : pOr a b e = (a e).bind fun d => bOr d (b e) := (rfl)
@[simp] theorem pNot_e {a : PX} : pNot a e = (a e).bind bNot := (rfl)
@[simp] theorem pIf_e {t : En → Ev Bool} {a b : PX} : pIf t a b e = (t e).bind fun c => if c = true then a e else b e := (rfl)
@[simp] theorem pSl_e {a : PX} {l u : En → Ev (Option Int)} : pSl a l u e = (a e).bind fun d => (l e).bind fun lo => (u e).bind fun hi => dSl d lo hi := (rfl)
@[simp] theorem aNil_e : aNil e = .ok [] := (rfl)
@[simp] theorem aCons_e {a : PX} {r : En → Ev (List D)} : aCons a r e = (a e).bind fun d => (r e).bind fun ds => .ok (d :: ds) := (rfl)
@[simp] theorem pTup_e {ps : En → Ev (List D)} : pTup ps e = (ps e).bind fun ds => .ok (.tup ds) := (rfl)
@[simp] theorem pLst_e {ps : En → Ev (List D)} : pLst ps e = (ps e).bind fun ds => .ok (.lst ds) := (rfl)
@[simp] theorem pCall_e {G : List D → Ev D} {ps : En → Ev (List D)} : pCall G ps e = (ps e).bind G := (rfl)
@[simp] theorem gL_e {p : PX} : gL p e = (match p e with | .ok d => .ok d e | .exc x => .exc x e | .stuck => .stuck) := (rfl)
@[simp] theorem sNil_e : sNil e = .nx e := (rfl)
@[simp] theorem sSeq_e {a b : En → Ou} : sSeq a b e = (a e).then b := (rfl)
@[simp] theorem then_nx {f : En → Ou} : (Ou.nx e).then f = f e := (rfl)
@[simp] theorem then_rt {f : En → Ou} : (Ou.rt d e).then f = .rt d e := (rfl)
@[simp] theorem then_bk {f : En → Ou} : (Ou.bk e).then f = .bk e := (rfl)
@[simp] theorem then_ct {f : En → Ou} : (Ou.ct e).then f = .ct e := (rfl)
@[simp] theorem then_exc {f : En → Ou} {x : Exn} : (Ou.exc x e).then f = .exc x e := (rfl)
@[simp] theorem then_stuck {f : En → Ou} : Ou.stuck.then f = .stuck := (rfl)
theorem then_ite {c : Prop} [Decidable c] {a b : Ou} {f : En → Ou} : (if c then a else b).then f = if c then a.then f else b.then f := by split <;> rfl
@[simp] theorem setOu_ok {o : En} : setOu i (.ok d o) = if i < o.length then .nx (o.set i (.own d)) else .stuck := (rfl)
@[simp] theorem setOu_exc {x : Exn} {o : En} : setOu i (.exc x o) = .exc x o := (rfl)
@[simp] theorem setOu_stuck : setOu i .stuck = .stuck := (rfl)
@[simp] theorem sSet_e {g : En → Eg D} : sSet i g e = setOu i (g e) := (rfl)
@[simp] theorem sExpr_e {g : En → Eg D} : sExpr g e = (match g e with | .ok _ e => .nx e | .exc x e => .exc x e | .stuck => .stuck) := (rfl)
@[simp] theorem sRet_e {g : En → Eg D} : sRet g e = (match g e with | .ok d e => .rt d e | .exc x e => .exc x e | .stuck => .stuck) := (rfl)
@[simp] theorem sRetN_e : sRetN e = .rt .n e := (rfl)
@[simp] theorem sBk_e : sBk e = .bk e := (rfl)
@[simp] theorem sCt_e : sCt e = .ct e := (rfl)
@[simp] theorem sNever_e : sNever e = .stuck := (rfl)
@[simp] theorem sRaise_e {x : Str} : sRaise x e = .exc ⟨x, none⟩ e := (rfl)
@[simp] theorem sIf_e {t : En → Ev Bool} {a b : En → Ou} : sIf t a b e = (match t e with | .ok c => if c = true then a e else b e | .exc x => .exc x e | .stuck => .stuck) := (rfl)
@[simp] theorem nTg_e : nTg i d e = some (e.set i (.fz d)) := (rfl)
@[simp] theorem nsNil_e : nsNil [] e = some e := (rfl)
@[simp] theorem nsCons_e {t : D → En → Option En} {u : List D → En → Option En} {ds : List D} : nsCons t u (d :: ds) e = (t d e).bind fun e' => u ds e' := (rfl)
@[simp] theorem nTup_e {u : List D → En → Option En} {ds : List D} : nTup u (.tup ds) e = u ds e := (rfl)
@[simp] theorem gTake_e : gTake i e = (match e[i]? with | some (.own d) => .ok d (e.set i .no) | some (.fz d) => if imm d = true then .ok d e else .stuck | _ => .stuck) := (rfl)
@[simp] theorem pFz_e : pFz i e = (match e[i]? with | some (.fz d) => .ok d | some (.own d) => if imm d = true then .ok d else .stuck | _ => .stuck) := (rfl)
@[simp] theorem sFrz_e {t : En → Ou} : sFrz i t e = t (frz1 e i) := (rfl)
@[simp] theorem frz1_e : frz1 e i = (match e[i]? with | some (.own d) => e.set i (.fz d) | _ => e) := (rfl)
@[simp] theorem sKill_e {ks : List Nat} {t : En → Ou} : sKill ks t e = (match t e with | .nx e => .nx (kills ks e) | o => o) := (rfl)
@[simp] theorem lVar_e : lVar i e = (match lk e i with | some _ => .ok (i, []) | none => .stuck) := (rfl)
@[simp] theorem lIx_e {p : En → Ev Lv} {q : PX} : lIx p q e = (p e).bind fun l => (q e).bind fun k => match k with
  | .v (.int k) => (match atV e l with
    | some (.lst ds) => (match ixN ds.length k with
      | some j => if j < ds.length then .ok (l.1, l.2 ++ [.ix j]) else .stuck
      | none => .stuck)
    | _ => .stuck)
  | _ => .stuck := (rfl)
@[simp] theorem atV_e {l : Lv} : atV e l = (lk e l.1).bind fun d => d.at l.2 := (rfl)
@[simp] theorem od_no : Sl.no.od = none := (rfl)
@[simp] theorem od_own : (Sl.own d).od = some d := (rfl)
@[simp] theorem od_fz : (Sl.fz d).od = none := (rfl)
@[simp] theorem od_io : (Sl.io d).od = some d := (rfl)
@[simp] theorem re_own {c : D} : (Sl.own c).re d = .own d := (rfl)
@[simp] theorem re_io {c : D} : (Sl.io c).re d = .io d := (rfl)
@[simp] theorem atO_e {l : Lv} : atO e l = (e[l.1]?).bind fun s => s.od.bind fun d => d.at l.2 := (rfl)
@[simp] theorem putO_e {l : Lv} {x : D} : putO e l x = (match e[l.1]? with
  | some s => (match s.od with
    | some d => e.set l.1 (s.re (d.put l.2 x))
    | none => e)
  | none => e) := (rfl)
@[simp] theorem atL_e {l : Lv} : atL e l = (match atO e l with
  | some (.lst ds) => some ds
  | _ => none) := (rfl)
@[simp] theorem putL_e {l : Lv} {ds : List D} : putL e l ds = putO e l (.lst ds) := (rfl)
@[simp] theorem at_nil_e : d.at [] = some d := at_nil
@[simp] theorem put_nil_e {x : D} : d.put [] x = x := put_nil
@[simp] theorem at_cons {ds : List D} {k : Nat} {π : List Pt} : (D.lst ds).at (.ix k :: π) = (ds[k]?).bind fun d => d.at π := by rw [D.at]
@[simp] theorem put_cons {ds : List D} {x : D} {k : Nat} {π : List Pt} : (D.lst ds).put (.ix k :: π) x = .lst (ds.modify k fun d => d.put π x) := by rw [D.put]
@[simp] theorem at_fd {c f : Str} {ns : List Str} {ds : List D} {π : List Pt} : (D.obj c ns ds).at (.fd f :: π) = (fIx ns f).bind fun k => (ds[k]?).bind fun d => d.at π := by rw [D.at]
@[simp] theorem put_fde {c f : Str} {ns : List Str} {ds : List D} {x : D} {π : List Pt} : (D.obj c ns ds).put (.fd f :: π) x = (match fIx ns f with
  | some k => .obj c ns (ds.modify k fun d => d.put π x)
  | none => .obj c ns ds) := by rw [D.put] <;> (cases fIx ns f <;> rfl)
@[simp] theorem fIx_nil {f : Str} : fIx [] f = none := (rfl)
@[simp] theorem fIx_cons {f n : Str} {ns : List Str} : fIx (n :: ns) f = if n = f then some 0 else (fIx ns f).map (· + 1) := (rfl)
@[simp] theorem sAppend_e {g : En → Eg D} : sAppend i g e = (match atL e (i, []) with
  | some _ => (match g e with
    | .ok d e => (match atL e (i, []) with
      | some ds => if ds.length < sizeLine then .nx (putL e (i, []) (ds ++ [d])) else .stuck
      | none => .stuck)
    | .exc x e => .exc x e
    | .stuck => .stuck)
  | none => .stuck) := (rfl)
@[simp] theorem gM_e {p : En → Ev Lv} {eff : Fx} {ps : En → Ev (List D)} : gM p eff ps e = (match p e with
  | .ok l => (match atL e l with
    | some ds => (match ps e with
      | .ok es => (match eff ds es with
        | some (res, ds') => .ok res (putL e l ds')
        | none => .stuck)
      | .exc x => .exc x e
      | .stuck => .stuck)
    | none => .stuck)
  | .exc x => .exc x e
  | .stuck => .stuck) := (rfl)
@[simp] theorem gNil_e : gNil e = .ok [] e := (rfl)
@[simp] theorem gCons_e {g : En → Eg D} {r : En → Eg (List D)} : gCons g r e = (match g e with
  | .ok d e1 => (match r e1 with
    | .ok ds e2 => .ok (d :: ds) e2
    | .exc x e2 => .exc x e2
    | .stuck => .stuck)
  | .exc x e1 => .exc x e1
  | .stuck => .stuck) := (rfl)
@[simp] theorem gTup_e {gs : En → Eg (List D)} : gTup gs e = (match gs e with
  | .ok ds e => if ds.length ≤ 1000 then .ok (.tup ds) e else .stuck
  | .exc x e => .exc x e
  | .stuck => .stuck) := (rfl)
@[simp] theorem gCall_e {G : List D → Ev D} {g : En → Eg D} : gCall G g e = (match g e with
  | .ok d e => (match G [d] with
    | .ok r => .ok r e
    | .exc x => .exc x e
    | .stuck => .stuck)
  | .exc x e => .exc x e
  | .stuck => .stuck) := (rfl)
@[simp] theorem sSetItem_e {p : En → Ev Lv} {q : PX} {g : En → Eg D} : sSetItem p q g e = (match g e with
  | .ok d e => (match p e with
    | .ok l => (match q e with
      | .ok (.v (.int k)) => (match atL e l with
        | some ds => (match ixN ds.length k with
          | some j => if j < ds.length then .nx (putL e l (ds.set j d)) else .stuck
          | none => .stuck)
        | none => .stuck)
      | _ => .stuck)
    | _ => .stuck)
  | .exc x e => .exc x e
  | .stuck => .stuck) := (rfl)
@[simp] theorem sFor_e {t : D → En → Option En} {ks : List Nat} {src : PX} {body : En → Ou} : sFor t ks src body e = (match src e with
  | .ok d => (match d.items with
    | some ds => forL t ks body ds (kills ks e)
    | none => .stuck)
  | .exc x => .exc x e
  | .stuck => .stuck) := (rfl)
@[simp] theorem sForR_e {t : D → En → Option En} {ks : List Nat} {src : PX} {body : En → Ou} : sForR t ks src body e = (match src e with
  | .ok (.v (.int j)) => if -(2 ^ 62) ≤ j ∧ j < 2 ^ 62 then forL t ks body (rngL 0 j.toNat) (kills ks e) else .stuck
  | .ok _ => .stuck
  | .exc x => .exc x e
  | .stuck => .stuck) := (rfl)
@[simp] theorem sForR2_e {t : D → En → Option En} {ks : List Nat} {lo hi : PX} {body : En → Ou} : sForR2 t ks lo hi body e = (match lo e, hi e with
  | .ok (.v (.int i)), .ok (.v (.int j)) => if -(2 ^ 62) ≤ i ∧ i < 2 ^ 62 ∧ -(2 ^ 62) ≤ j ∧ j < 2 ^ 62 then forL t ks body (rngL i (j - i).toNat) (kills ks e) else .stuck
  | _, _ => .stuck) := (rfl)
@[simp] theorem pComp_e {t : D → En → Option En} {q : En → Ev Bool} {pe : PX} {vs : List Nat} {src : PX} : pComp t q pe vs src e = (src e).bind fun d => match d.items with
  | some ds => capL (compL t q pe (kills vs e) ds)
  | none => .stuck := (rfl)
@[simp] theorem pCompR_e {t : D → En → Option En} {q : En → Ev Bool} {pe : PX} {vs : List Nat} {src : PX} : pCompR t q pe vs src e = (src e).bind fun d => match d with
  | .v (.int j) => if -(2 ^ 62) ≤ j ∧ j < 2 ^ 62 then capL (compL t q pe (kills vs e) (rngL 0 j.toNat)) else .stuck
  | _ => .stuck := (rfl)
@[simp] theorem capL_ok {xs : List D} : capL (.ok xs) = if xs.length ≤ sizeLine then .ok (.lst xs) else .stuck := (rfl)
@[simp] theorem endD_rt : endD (.rt d e) = .ok d := (rfl)
@[simp] theorem endD_nx : endD (.nx e) = .ok .n := (rfl)
@[simp] theorem endD_exc {x : Exn} : endD (.exc x e) = .exc x := (rfl)
@[simp] theorem endD_stuck : endD .stuck = .stuck := (rfl)
@[simp] theorem fnD_e {n : Nat} {s : En → Ou} {ds : List D} : fnD n s ds = endD (s (env0 n ds)) := (rfl)
@[simp] theorem fnV_e {n : Nat} {s : En → Ou} {ds : List D} : fnV n s ds = endV (s (env0 n ds)) := (rfl)
@[simp] theorem endV_rt : endV (.rt d e) = .ok d := (rfl)
@[simp] theorem pNo_e {p : PX} : pNo p e = if noOwn e = true then p e else .stuck := (rfl)
@[simp] theorem noOwn_nil : noOwn [] = true := (rfl)
@[simp] theorem noOwn_no : noOwn (.no :: e) = noOwn e := (rfl)
@[simp] theorem noOwn_fz : noOwn (.fz d :: e) = noOwn e := (rfl)
@[simp] theorem noOwn_own : noOwn (.own d :: e) = false := (rfl)
@[simp] theorem frzs_0 : frzs 0 e = e := (rfl)
@[simp] theorem frzs_s {n : Nat} : frzs (n + 1) e = frz1 (frzs n e) n := (rfl)
@[simp] theorem sFrzs_e {n : Nat} {t : En → Ou} : sFrzs n t e = t (frzs n e) := (rfl)
@[simp] theorem sUn_e {t : D → En → Option En} {p : PX} : sUn t p e = (match p e with
  | .ok d => (match t d e with
    | some e' => .nx e'
    | none => .stuck)
  | .exc x => .exc x e
  | .stuck => .stuck) := (rfl)
@[simp] theorem gMoveIx_e {q : PX} : gMoveIx i q e = (match e[i]? with
  | some (.own (.lst ds)) => (match q e with
    | .ok (.v (.int k)) => (match atI ds k with
      | some d => .ok d (e.set i .no)
      | none => .stuck)
    | .ok _ => .stuck
    | .exc x => .exc x e
    | .stuck => .stuck)
  | _ => .stuck) := (rfl)
@[simp] theorem env0_e {n : Nat} {ds : List D} : env0 n ds = ds.map Sl.fz ++ List.replicate (n - ds.length) Sl.no := (rfl)
end look

section ops
variable {x y : V} {ds es : List D} {i j k : Int} {d : D} {n : Nat}
@[simp] theorem dAdd_i : dAdd (.v (.int i)) (.v (.int j)) = .ok (.v (.int (i + j))) := (rfl)
@[simp] theorem dAdd_l : dAdd (.lst ds) (.lst es) = if ds.length + es.length ≤ sizeLine ∧ imms ds = true ∧ imms es = true then .ok (.lst (ds ++ es)) else .stuck := (rfl)
@[simp] theorem dAdd_t : dAdd (.tup ds) (.tup es) = if ds.length + es.length ≤ sizeLine ∧ imms ds = true ∧ imms es = true then .ok (.tup (ds ++ es)) else .stuck := (rfl)
@[simp] theorem dAddV_l : dAddV (.lst ds) (.lst es) = if ds.length + es.length ≤ sizeLine then .ok (.lst (ds ++ es)) else .stuck := (rfl)
@[simp] theorem dInt2_i {C : Int → Int → Prop} [∀ i j, Decidable (C i j)] {g : Int → Int → V} : dInt2 C g (.v (.int i)) (.v (.int j)) = if C i j then .ok (.v (g i j)) else .stuck := (rfl)
@[simp] theorem dInt0_i {g : Int → Int → V} : dInt0 g (.v (.int i)) (.v (.int j)) = .ok (.v (g i j)) := (rfl)
@[simp] theorem dMul_i : dMul (.v (.int i)) (.v (.int j)) = if CMul i j then .ok (.v (.int (i * j))) else .stuck := (rfl)
@[simp] theorem dMul_l : dMul (.lst ds) (.v (.int k)) = if (-(2 ^ 63) ≤ k ∧ k < 2 ^ 63) ∧ ds.length * k.toNat ≤ sizeLine ∧ imms ds = true then .ok (.lst (List.replicate k.toNat ds).flatten) else .stuck := (rfl)
@[simp] theorem dNeg_i : dNeg (.v (.int i)) = .ok (.v (.int (-i))) := (rfl)
@[simp] theorem dBool_b {c : Bool} : dBool (.v (.bl c)) = .ok c := (rfl)
@[simp] theorem dTruth_b {c : Bool} : dTruth (.v (.bl c)) = .ok c := (rfl)
@[simp] theorem dTruth_n : dTruth (.v .non) = .ok false := (rfl)
@[simp] theorem dTruth_i : dTruth (.v (.int i)) = .ok (i != 0) := (rfl)
@[simp] theorem dTruth_l : dTruth (.lst ds) = .ok (!ds.isEmpty) := (rfl)
@[simp] theorem dTruth_t : dTruth (.tup ds) = .ok (!ds.isEmpty) := (rfl)
@[simp] theorem dTruth_f : dTruth (.fro ds) = .ok (!ds.isEmpty) := (rfl)
@[simp] theorem bAnd_b {c : Bool} {r : Ev D} : bAnd (.v (.bl c)) r = if c = true then r else .ok (.v (.bl false)) := (rfl)
@[simp] theorem bOr_b {c : Bool} {r : Ev D} : bOr (.v (.bl c)) r = if c = true then .ok (.v (.bl true)) else r := (rfl)
@[simp] theorem bNot_b {c : Bool} : bNot (.v (.bl c)) = .ok (.v (.bl !c)) := (rfl)
@[simp] theorem dIsB_b {c a b : Bool} : dIsB c (.v (.bl a)) (.v (.bl b)) = .ok (.v (.bl (if c then !decide (a = b) else decide (a = b)))) := (rfl)
@[simp] theorem dIsN_v {c : Bool} : dIsN c (.v x) (.v .non) = .ok (.v (.bl (if c then !decide (x = .non) else decide (x = .non)))) := (rfl)
@[simp] theorem dIsN_t {c : Bool} : dIsN c (.tup ds) (.v .non) = .ok (.v (.bl c)) := (rfl)
@[simp] theorem dIsN_l {c : Bool} : dIsN c (.lst ds) (.v .non) = .ok (.v (.bl c)) := (rfl)
@[simp] theorem dInt_i : dInt (.v (.int i)) = .ok (some i) := (rfl)
@[simp] theorem items_t : D.items (.tup ds) = some ds := (rfl)
@[simp] theorem items_l : D.items (.lst ds) = some ds := (rfl)
@[simp] theorem items_f : D.items (.fro ds) = some ds := (rfl)
@[simp] theorem bLen_t : bLen [.tup ds] = .ok (.v (.int ds.length)) := (rfl)
@[simp] theorem bLen_l : bLen [.lst ds] = .ok (.v (.int ds.length)) := (rfl)
@[simp] theorem bLen_f : bLen [.fro ds] = .ok (.v (.int ds.length)) := (rfl)
@[simp] theorem bList_t : bList [.tup ds] = if imms ds = true then .ok (.lst ds) else .stuck := (rfl)
@[simp] theorem bList_l : bList [.lst ds] = if imms ds = true then .ok (.lst ds) else .stuck := (rfl)
@[simp] theorem bList_f : bList [.fro ds] = if imms ds = true then .ok (.lst ds) else .stuck := (rfl)
@[simp] theorem bTuple_t : bTuple [.tup ds] = if imms ds = true then .ok (.tup ds) else .stuck := (rfl)
@[simp] theorem bTuple_l : bTuple [.lst ds] = if imms ds = true then .ok (.tup ds) else .stuck := (rfl)
@[simp] theorem bTuple_f : bTuple [.fro ds] = if imms ds = true then .ok (.tup ds) else .stuck := (rfl)
@[simp] theorem bMax_i : bMax [.v (.int i), .v (.int j)] = .ok (.v (.int (if j > i then j else i))) := (rfl)
@[simp] theorem bMin_i : bMin [.v (.int i), .v (.int j)] = .ok (.v (.int (if j < i then j else i))) := (rfl)
@[simp] theorem dIx_t : dIx (.tup ds) (.v (.int k)) = dAt ds k := (rfl)
@[simp] theorem dIx_l : dIx (.lst ds) (.v (.int k)) = dAt ds k := (rfl)
@[simp] theorem dIx_f : dIx (.fro ds) (.v (.int k)) = dAt ds k := (rfl)
@[simp] theorem dSl_t {lo hi : Option Int} : dSl (.tup ds) lo hi = if imms ds = true then .ok (.tup (cutL ds lo hi)) else .stuck := (rfl)
@[simp] theorem dSl_l {lo hi : Option Int} : dSl (.lst ds) lo hi = if imms ds = true then .ok (.lst (cutL ds lo hi)) else .stuck := (rfl)
@[simp] theorem dSl_f {lo hi : Option Int} : dSl (.fro ds) lo hi = if imms ds = true then .ok (.lst (cutL ds lo hi)) else .stuck := (rfl)
@[simp] theorem isi_e {t : String} : bIsi [d, .v (.ty t)] = (match subT (tyn d) t with | some c => .ok (.v (.bl c)) | none => .stuck) := (rfl)
@[simp] theorem tyn_n : tyn (.v .non) = "NoneType" := (rfl)
@[simp] theorem tyn_b {c : Bool} : tyn (.v (.bl c)) = "bool" := (rfl)
@[simp] theorem tyn_i : tyn (.v (.int i)) = "int" := (rfl)
@[simp] theorem tyn_s {s : Str} : tyn (.v (.str s)) = "str" := (rfl)
@[simp] theorem tyn_t : tyn (.tup ds) = "tuple" := (rfl)
@[simp] theorem tyn_l : tyn (.lst ds) = "list" := (rfl)
@[simp] theorem tyn_f : tyn (.fro ds) = "list" := (rfl)
@[simp] theorem subT_e {a b : String} : subT a b = if a = "?" then none else if b ∈ ["int", "bool", "str", "tuple", "list", "dict"] then some (a == b || (a == "bool" && b == "int")) else none := (rfl)
@[simp] theorem fxAppend_e : fxAppend ds [d] = if ds.length < sizeLine then some (.v .non, ds ++ [d]) else none := (rfl)
@[simp] theorem fxPop_e : fxPop (ds ++ [d]) [] = some (d, ds) := by simp [fxPop]
@[simp] theorem fxPop_1 : fxPop [d] [] = some (d, []) := by simp [fxPop]
@[simp] theorem fxExtend_t : fxExtend ds [.tup es] = if ds.length + es.length ≤ sizeLine ∧ imms es = true then some (.v .non, ds ++ es) else none := (rfl)
@[simp] theorem fxExtend_l : fxExtend ds [.lst es] = if ds.length + es.length ≤ sizeLine ∧ imms es = true then some (.v .non, ds ++ es) else none := (rfl)
@[simp] theorem imm_v : imm (.v x) = true := (rfl)
@[simp] theorem imm_t : imm (.tup ds) = imms ds := (rfl)
@[simp] theorem imm_l : imm (.lst ds) = false := (rfl)
@[simp] theorem imm_f : imm (.fro ds) = false := (rfl)
theorem imms_all : ∀ {ds : List D}, imms ds = ds.all imm
  | [] => rfl
  | d :: ds => by rw [imms, imms_all, List.all_cons]
@[simp] theorem imms_nil : imms [] = true := (rfl)
@[simp] theorem imms_cons : imms (d :: ds) = (imm d && imms ds) := (rfl)
@[simp] theorem imms_app : imms (ds ++ es) = (imms ds && imms es) := imms_append
@[simp] theorem imms_map {α : Type} {f : α → D} {l : List α} : imms (l.map f) = l.all fun x => imm (f x) := by rw [imms_all, List.all_map]; rfl
@[simp] theorem imms_rep {n : Nat} : imms (List.replicate n d) = (decide (n = 0) || imm d) := by
  rw [imms_all, List.all_replicate]
  cases n <;> simp
@[simp] theorem dok_v : dok n (.v x) = aok x := by cases n <;> rfl
@[simp] theorem dok_t : dok (n + 1) (.tup ds) = doks n ds := (rfl)
@[simp] theorem dok_l : dok (n + 1) (.lst ds) = doks n ds := (rfl)
@[simp] theorem dok_f : dok (n + 1) (.fro ds) = doks n ds := (rfl)
theorem doks_all : ∀ {n : Nat} {ds : List D}, doks n ds = ds.all (dok n)
  | n, [] => by simp [doks]
  | n, d :: ds => by rw [doks, doks_all, List.all_cons]
@[simp] theorem doks_nil : doks n [] = true := by simp [doks]
@[simp] theorem doks_cons : doks n (d :: ds) = (dok n d && doks n ds) := by rw [doks]
@[simp] theorem doks_app : doks n (ds ++ es) = (doks n ds && doks n es) := by simp [doks_all]
@[simp] theorem doks_map {α : Type} {f : α → D} {l : List α} : doks n (l.map f) = l.all fun x => dok n (f x) := by rw [doks_all, List.all_map]; rfl
@[simp] theorem doks_rep {m : Nat} : doks n (List.replicate m d) = (decide (m = 0) || dok n d) := by
  rw [doks_all, List.all_replicate]
  cases m <;> simp
@[simp] theorem aok_n : aok .non = true := (rfl)
@[simp] theorem aok_b {c : Bool} : aok (.bl c) = true := (rfl)
@[simp] theorem aok_i : aok (.int i) = true := (rfl)
@[simp] theorem aok_s {s : Str} : aok (.str s) = PyData.strOk s := (rfl)
@[simp] theorem dEq_e {c : Bool} {e : D} : dEq c d e = if dok 64 d && dok 64 e then .ok (.v (.bl (if c then !deq d e else deq d e))) else .stuck := (rfl)
@[simp] theorem deq_i : deq (.v (.int i)) (.v (.int j)) = decide (i = j) := by rw [deq]; exact Bool.beq_eq_decide_eq i j
@[simp] theorem deq_ll : deq (.lst ds) (.lst es) = deqs ds es := by rw [deq]
@[simp] theorem deq_tt : deq (.tup ds) (.tup es) = deqs ds es := by rw [deq]
@[simp] theorem deq_nn : deq (.v .non) (.v .non) = true := by rw [deq]
@[simp] theorem deq_ni : deq (.v .non) (.v (.int i)) = false := by rw [deq] <;> simp
@[simp] theorem deq_nt : deq (.v .non) (.tup ds) = false := by rw [deq] <;> simp
@[simp] theorem deq_tn : deq (.tup ds) (.v .non) = false := by rw [deq] <;> simp
@[simp] theorem deqs_nil : deqs [] [] = true := by rw [deqs]
@[simp] theorem deqs_cons {e : D} : deqs (d :: ds) (e :: es) = (deq d e && deqs ds es) := by rw [deqs]
@[simp] theorem dIn_l {c : Bool} : dIn c d (.lst ds) = if dok 64 d && doks 63 ds then .ok (.v (.bl (if c then !ds.any (fun z => deq z d) else ds.any fun z => deq z d))) else .stuck := (rfl)
end ops

mutual
theorem deq_self : ∀ (n : Nat) (d : D), dok n d = true → deq d d = true
  | n, .v x, h => by
    rw [dok_v] at h
    cases x <;> simp [aok] at h <;> simp [deq]
  | n + 1, .tup ds, h => by rw [deq]; exact deqs_self n ds (by simpa using h)
  | n + 1, .lst ds, h => by rw [deq]; exact deqs_self n ds (by simpa using h)
  | n + 1, .fro ds, h => by rw [deq]; exact deqs_self n ds (by simpa using h)
theorem deqs_self : ∀ (n : Nat) (ds : List D), doks n ds = true → deqs ds ds = true
  | n, [], h => by simp
  | n, d :: ds, h => by
    simp at h
    simp [deq_self n d h.1, deqs_self n ds h.2]
end

theorem atI_nat {α : Type} {xs : List α} {k : Nat} : atI xs (k : Int) = xs[k]? := by
  unfold atI ixN
  simp
  by_cases h : k < xs.length
  · simp [h]
  · simp [h]
theorem atI_last {α : Type} {xs : List α} {x : α} : atI (xs ++ [x]) (-1) = some x := by
  have h : ixN (xs ++ [x]).length (-1) = some xs.length := by
    unfold ixN
    rw [List.length_append, List.length_singleton, if_neg (by decide), if_pos (by omega)]
    congr 1
    omega
  unfold atI
  rw [h]
  simp
theorem atI_of {α : Type} {xs : List α} {x : α} {i : Int} (h : 0 ≤ i) (hx : xs[i.toNat]? = some x) : atI xs i = some x := by
  obtain ⟨k, rfl⟩ := Int.eq_ofNat_of_zero_le h
  rw [show ((k : Int)).toNat = k by simp] at hx
  rw [atI_nat, hx]
@[simp] theorem atI_0 {α : Type} {x : α} {xs : List α} : atI (x :: xs) 0 = some x := atI_of (by decide) rfl
@[simp] theorem dAt_0 {d : D} {ds : List D} : dAt (d :: ds) 0 = .ok d := by
  unfold dAt; rw [atI_of (x := d) (by decide) (by rfl)]
@[simp] theorem dAt_1 {c d : D} {ds : List D} : dAt (c :: d :: ds) 1 = .ok d := by
  unfold dAt; rw [atI_of (x := d) (by decide) (by rfl)]
@[simp] theorem dAt_2 {b c d : D} {ds : List D} : dAt (b :: c :: d :: ds) 2 = .ok d := by
  unfold dAt; rw [atI_of (x := d) (by decide) (by rfl)]
@[simp] theorem dAt_last {d : D} {ds : List D} : dAt (ds ++ [d]) (-1) = .ok d := by unfold dAt; rw [atI_last]
theorem dAt_of {d : D} {ds : List D} {i : Int} (h : 0 ≤ i) (hx : ds[i.toNat]? = some d) : dAt ds i = .ok d := by unfold dAt; rw [atI_of h hx]
@[simp] theorem ixN_last {n : Nat} : ixN (n + 1) (-1) = some n := by
  unfold ixN
  rw [if_neg (by decide), if_pos (by omega)]
  congr 1
  omega
theorem ixN_of {n : Nat} {i : Int} (h : 0 ≤ i) (hn : i < n) : ixN n i = some i.toNat := by unfold ixN; rw [if_pos h, if_pos hn]
@[simp] theorem modify_last {α : Type} {xs : List α} {x : α} {f : α → α} : (xs ++ [x]).modify xs.length f = xs ++ [f x] := by
  induction xs with
  | nil => rfl
  | cons a xs ih => simp [ih]
@[simp] theorem modify_last_map {α β : Type} {xs : List β} {g : β → α} {x : α} {f : α → α} : (xs.map g ++ [x]).modify xs.length f = xs.map g ++ [f x] := by
  have := modify_last (xs := xs.map g) (x := x) (f := f)
  rwa [List.length_map] at this

@[simp] theorem modify_last_rev {α β : Type} {xs : List β} {g : β → α} {x : α} {f : α → α} : ((xs.map g).reverse ++ [x]).modify xs.length f = (xs.map g).reverse ++ [f x] := by
  have := modify_last (xs := (xs.map g).reverse) (x := x) (f := f)
  rwa [List.length_reverse, List.length_map] at this

@[simp] theorem cutL_map {α β : Type} {f : α → β} {l : List α} {lo hi : Option Int} : cutL (l.map f) lo hi = (cutL l lo hi).map f := by
  unfold cutL
  rw [List.length_map, List.map_take, List.map_drop]
theorem cutL_mem {α : Type} {l : List α} {lo hi : Option Int} {x : α} (h : x ∈ cutL l lo hi) : x ∈ l := List.mem_of_mem_drop (List.mem_of_mem_take h)
theorem cutL_le {α : Type} {l : List α} {lo hi : Option Int} : (cutL l lo hi).length ≤ l.length := by
  unfold cutL
  rw [List.length_take, List.length_drop]
  omega
theorem sline : sizeLine = 16777216 := by decide
theorem deqs_map {α : Type} {f : α → D} {l : List α} (h : ∀ x ∈ l, dok 64 (f x) = true) : deqs (l.map f) (l.map f) = true := deqs_self 64 _ (by simpa using h)
theorem dAt_map {α : Type} {f : α → D} {l : List α} {k : Nat} (h : k < l.length) : dAt (l.map f) (k : Int) = .ok (f l[k]) := dAt_of (by omega) (by simp [h])

/-- one turn of a loop -/
def turn (t : D → En → Option En) (ks : List Nat) (body : En → Ou) (d : D) (e : En) : Ou := match t d e with
  | none => .stuck
  | some e1 => match body e1 with
    | .nx e2 => .nx (kills ks e2)
    | .ct e2 => .nx (kills ks e2)
    | .bk e2 => .bk (kills ks e2)
    | o => o
theorem forL_nil {t : D → En → Option En} {ks : List Nat} {body : En → Ou} {e : En} : forL t ks body [] e = .nx e := by rw [forL]
theorem forL_turn {t : D → En → Option En} {ks : List Nat} {body : En → Ou} {d : D} {r : List D} {e : En} : forL t ks body (d :: r) e = (match turn t ks body d e with
    | .nx e2 => forL t ks body r e2
    | .bk e2 => .nx e2
    | o => o) := by
  rw [forL]
  unfold turn
  cases t d e with
  | none => rfl
  | some e1 => cases h : body e1 <;> simp [h]
theorem forL_step {t : D → En → Option En} {ks : List Nat} {body : En → Ou} {d : D} {r : List D} {e e2 : En} (h : turn t ks body d e = .nx e2) : forL t ks body (d :: r) e = forL t ks body r e2 := by rw [forL_turn, h]
theorem forL_exc {t : D → En → Option En} {ks : List Nat} {body : En → Ou} {d : D} {x : Exn} {r : List D} {e e2 : En} (h : turn t ks body d e = .exc x e2) : forL t ks body (d :: r) e = .exc x e2 := by rw [forL_turn, h]
theorem forL_out {t : D → En → Option En} {ks : List Nat} {body : En → Ou} {d c : D} {r : List D} {e e2 : En} (h : turn t ks body d e = .rt c e2) : forL t ks body (d :: r) e = .rt c e2 := by rw [forL_turn, h]
/-- a loop without early end, by what a turn does to what the slots stand for, under an invariant over what is left -/
theorem forL_run {α S : Type} {t : D → En → Option En} {ks : List Nat} {body : En → Ou} (item : α → D) (env : S → En) (step : S → α → S) (I : List α → S → Prop)
    (h : ∀ a r s, I (a :: r) s → turn t ks body (item a) (env s) = .nx (env (step s a)) ∧ I r (step s a)) :
    ∀ (l : List α) (s : S), I l s → forL t ks body (l.map item) (env s) = .nx (env (l.foldl step s)) ∧ I [] (l.foldl step s)
  | [], s, h0 => ⟨forL_nil, h0⟩
  | a :: r, s, h0 => by
    obtain ⟨h1, h2⟩ := h a r s h0
    rw [List.map_cons, forL_turn, h1]
    exact forL_run item env step I h r _ h2
/-- the same, the invariant over the slots -/
theorem forL_inv {α : Type} {t : D → En → Option En} {ks : List Nat} {body : En → Ou} (item : α → D) (J : List α → En → Prop)
    (h : ∀ a r e, J (a :: r) e → ∃ e2, turn t ks body (item a) e = .nx e2 ∧ J r e2) :
    ∀ (l : List α) (e : En), J l e → ∃ e2, forL t ks body (l.map item) e = .nx e2 ∧ J [] e2
  | [], e, h0 => ⟨e, forL_nil, h0⟩
  | a :: r, e, h0 => by
    obtain ⟨e2, h1, h2⟩ := h a r e h0
    obtain ⟨e3, h3, h4⟩ := forL_inv item J h r e2 h2
    exact ⟨e3, (forL_step h1).trans h3, h4⟩
@[simp] theorem any_deq {l : List Int} {x : Int} : (l.map D.i).any (fun z => deq z (.v (.int x))) = decide (x ∈ l) := by
  induction l with
  | nil => simp
  | cons a l ih =>
    rw [List.map_cons, List.any_cons, ih, deq_i]
    by_cases h : a = x
    · simp [h]
    · simp [h, Ne.symm h]
@[simp] theorem any_deq2 {l : List Int} {x : Int} : l.any (fun z => deq (.v (.int z)) (.v (.int x))) = decide (x ∈ l) := by
  have := any_deq (l := l) (x := x)
  rwa [List.any_map] at this
/-- a loop that does nothing: a check at each item -/
theorem forL_skip {t : D → En → Option En} {ks : List Nat} {body : En → Ou} {e : En} : ∀ (l : List D), (∀ d ∈ l, turn t ks body d e = .nx e) → forL t ks body l e = .nx e
  | [], _ => forL_nil
  | d :: r, h => by
    rw [forL_turn, h d (by simp)]
    exact forL_skip r fun d hd => h d (by simp [hd])
@[simp] theorem rngL_eq {lo : Int} {n : Nat} : rngL lo n = (List.range n).map fun (i : Nat) => D.i (lo + (i : Int)) := rfl
theorem compL_run {α : Type} {t : D → En → Option En} {q : En → Ev Bool} {pe : PX} {env : En} (item : α → D) (f : α → D) : ∀ (l : List α), (∀ a ∈ l, ∃ e1, t (item a) env = some e1 ∧ q e1 = .ok true ∧ pe e1 = .ok (f a)) → compL t q pe env (l.map item) = .ok (l.map f)
  | [], _ => by rw [List.map_nil, List.map_nil, compL]
  | a :: r, h => by
    obtain ⟨e1, h1, h2, h3⟩ := h a (by simp)
    rw [List.map_cons, compL, h1]
    simp [h2, h3, compL_run item f r fun b hb => h b (by simp [hb])]
theorem compL_filter {α : Type} {t : D → En → Option En} {q : En → Ev Bool} {pe : PX} {env : En} (item : α → D) (c : α → Bool) (f : α → D) : ∀ (l : List α), (∀ a ∈ l, ∃ e1, t (item a) env = some e1 ∧ q e1 = .ok (c a) ∧ (c a = true → pe e1 = .ok (f a))) → compL t q pe env (l.map item) = .ok ((l.filter c).map f)
  | [], _ => by rw [List.map_nil, compL]; rfl
  | a :: r, h => by
    obtain ⟨e1, h1, h2, h3⟩ := h a (by simp)
    have ih := compL_filter item c f r fun b hb => h b (by simp [hb])
    rw [List.map_cons, compL, h1]
    cases hc : c a
    · simp [h2, hc, ih]
    · simp [h2, hc, h3 hc, ih]
end Gw

set_option maxHeartbeats 4000000
/-! GxT: try: f(..), except A as e: y = isinstance(e, C1) and not isinstance(e, C2). -/
namespace Gw
open PySem PySem.Spec PyProof.Rows L2
/-- what the answers are, for a class by its name: is it caught, is it of the first, of the second -/
structure TryT (K : PySem.W.Frag) (mg : Str → Option Value) (A C1 C2 : Addr) (tbl : Str → Option (Bool × Bool × Bool)) : Prop where
  ok : ∀ x cls c b1 b2, mg x = some cls → tbl x = some (c, b1, b2) → ∃ Dx, cls = .ref Dx ∧ L2.ExcC K Dx ∧ PySem.W.exmOne K (.ref Dx) (.ref A) = some c ∧ PySem.W.kitOne K (.ref Dx) (.ref C1) = some b1 ∧ PySem.W.kitOne K (.ref Dx) (.ref C2) = some b2
theorem exc_get {K : PySem.W.Frag} {h : Heap} (_ : K.In h) {P : PySem.W.Frag → Prop} (hp : P K) : P K := hp
def rIsE2 (K : PySem.W.Frag) (cls : Value) (d : Option Addr) (a : Addr) : List V → Hp → VK → Prop := fun xs H Q => ∃ Dx, cls = .ref Dx ∧ d = none ∧ L2.ExcC K Dx ∧ rIsE K Dx a xs H Q
theorem call_isE2 {X : Cx} {a : Addr} {oe : Obj} {cls : Value} {d : Option Addr} {pn : List (Addr × Obj)} (hz : Zc cls d oe) (hf : ∃ vs, oe.data = .fields vs) : CallR (X.suite a ((a, oe) :: pn)) (.builtin "isinstance") (rIsE2 X.K cls d a) := by
  intro pins s σ H xs us Q I r h
  obtain ⟨Dx, rfl, rfl, C, h⟩ := h
  exact call_isE (X := X) C hz hf pins s σ H xs us Q I r h
/-- another value in a slot that is forgotten -/
theorem Fr.kill' {K : Kb} {B : Bz} {H : Hp} {env : En} {tv : List V} {td : List D} {σ : L2.St} (h : Fr K B env tv td σ H) (i : Nat) (v : Option V) (hi : i < env.length) : Fr K B (env.set i .no) tv td (σ.set i v) H := by
  obtain ⟨f, g, h1, h2, h3, h4⟩ := h
  obtain ⟨fa, fi, fb, y, e1, e2, _, put⟩ := h1.at (List.getElem?_eq_getElem hi)
  subst e1
  have z : Same (off H (fa ++ (fi ++ fb) ++ g)) (off H ((fa ++ ([] ++ fb)) ++ g)) := off_same fun a o e1 e2 => ⟨e1, fun hm => e2 (by
    simp only [List.mem_append, List.nil_append] at hm ⊢
    rcases hm with (hm | hm) | hm
    · exact .inl (.inl hm)
    · exact .inl (.inr (.inr hm))
    · exact .inr hm)⟩
  have q := put _ H .no v [] (Kt.refl _) z (fun _ _ _ q => q) rfl
  refine ⟨fa ++ ([] ++ fb), g, q, h2, ?_, h4.trans z⟩
  exact h3.sublist (List.Sublist.append (List.Sublist.append (List.Sublist.refl _) (List.sublist_append_right _ _)) (List.Sublist.refl _))
def sTryIs (G : List D → Ev D) (ps : En → Ev (List D)) (i k : Nat) (tbl : Str → Option (Bool × Bool × Bool)) : En → Ou := fun env => match ps env with
  | .ok ds => (match G ds with
    | .ok _ => .nx env
    | .exc x => (match x.num, tbl x.name with
      | none, some (true, b1, b2) => if i < env.length ∧ k < env.length ∧ i ≠ k then .nx (((env.set i .no).set k (.own (.v (.bl (b1 && !b2))))).set i .no) else .stuck
      | _, _ => .stuck)
    | .stuck => .stuck)
  | _ => .stuck
section
variable {X : Cx} {W : WX} {e : Expr} {es : List Expr} {tes : TA} {ps : En → Ev (List D)}
theorem js_tryIs {x n y c1 c2 f : Str} {A C1 C2 : Addr} {i k kk nn : Nat} {G : List D → Ev D} {tbl : Str → Option (Bool × Bool × Bool)} {np p1 p2 p3 p4 p5 p6 p7 p8 p9 p10 p11 p12 pos pos' pos'' pc pf : Pos}
    (bd : Bd X W) (hs : X.stack = X.env :: X.outer) (hfr : X.env.frame = some X.env.locals) (hi : X.N[i]? = some n) (hk : X.N[k]? = some y) (hln : X.env.kindOf n = some .local) (hc : Names X x (.ref A)) (T : TryT X.K X.mg A C1 C2 tbl)
    (F : Fd X.prog X.w X.K X.mg X.base kk f nn G) (hr : Room kk X.A) (hg : Gl X f) (ha : ∀ pn xe W', JAs (X.tr pn xe) W' (e :: es) tes ps) (hn : (e :: es).length = nn)
    (hi1 : Gl X "isinstance") (hi2 : X.mg "isinstance" = none) (hm1 : Gl X c1) (hm2 : X.mg c1 = some (.ref C1)) (hm3 : Gl X c2) (hm4 : X.mg c2 = some (.ref C2))
    (vis : Vis X.env.scope n) (loc : Loc X.env.scope y)
    (hdn : (n == ("__debug__" : Str)) = false := by decide) (hdc : (n == ("__classdict__" : Str)) = false := by decide)
    (hd1 : (c1 == ("__debug__" : Str)) = false := by decide) (hd2 : (c2 == ("__debug__" : Str)) = false := by decide)
    (hdb : (f == ("__debug__" : Str)) = false := by decide)
    (hf : X.fn y = true ∨ X.env.scope.names.lookup y = some .local := by first | exact .inl rfl | exact .inr rfl)
    (he : starEach (e :: es) X.env = (false, eval e X.env) :: starEach es X.env := by rfl) (hpl : (backTo pc (starEach es X.env)).any (·.1) = false := by rfl)
    (hs1 : swapsWith (.Call (.Name f pf) (e :: es) [] pc) none pos'.line X.env = pure false := by rfl)
    (hs2 : swapsWith (.BoolOp .And [.Call (.Name "isinstance" p1) [.Name n p2, .Name c1 p3] [] p4, .UnaryOp .Not (.Call (.Name "isinstance" p5) [.Name n p6, .Name c2 p7] [] p8) p9] p10) (some (.Name y p11)) p12.line X.env = pure false := by rfl) :
    JS X W (.Try [.Expr (.Call (.Name f pf) (e :: es) [] pc) pos'] [.ExceptHandler (some (.Name x np)) (some n) [.Assign [.Name y p11] (.BoolOp .And [.Call (.Name "isinstance" p1) [.Name n p2, .Name c1 p3] [] p4, .UnaryOp .Not (.Call (.Name "isinstance" p5) [.Name n p6, .Name c2 p7] [] p8) p9] p10) p12] pos''] [] [] pos)
      (fun Dd σ H => tDrop (tCallS (spF X.G X.mg nn G) (WE (wAs X.K (.ref A) i (fun a cls d => tAsg (tAndV (tCB (rIsE2 X.K cls d a) (tCons (tVar i) (tCons (tC (.ref C1)) tNil))) (tNotV (tCB (rIsE2 X.K cls d a) (tCons (tVar i) (tCons (tC (.ref C2)) tNil))))) (gName k)) W Dd)) tes) Dd σ H)
      (sTryIs G ps i k tbl) := by
  obtain ⟨fa, fd, pl, hl, FO, hm, hkp, hb⟩ := F.ex
  refine ⟨ps_try_as (tb := fun W' => tDrop (tCallS (spF X.G X.mg nn G) (WE W') tes)) hs hfr bd.nd hi hln hc bd.tk (fun W' pn xe tk po => ?_) (fun a oe cls d pn hz hfd => ?_), fun B env σ H hF => ?_⟩
  · exact pss_one (ps_expr (pe_callS (X := X.tr pn xe) FO hr hg hm hkp hb (passAt tk) (ha pn xe W').pa hdb he hpl) hs1)
  · have ci : CallR (X.suite a ((a, oe) :: pn)) (.builtin "isinstance") (rIsE2 X.K cls d a) := call_isE2 hz hfd
    have v1 : ∀ p, PE (X.suite a ((a, oe) :: pn)) (.Name n p) (tVar i) := fun p => pe_var hi vis hdn hdc
    exact pss_one (ps_set (X := X.suite a ((a, oe) :: pn)) bd.nd hk loc (pe_and (pe_callB ci hi1 hi2 (by decide +kernel) (pa_cons (v1 _) (pa_cons (pe_glob hm1 hm2 rfl hd1) pa_nil))) (pe_one (pe_not (pe_callB ci hi1 hi2 (by decide +kernel) (pa_cons (v1 _) (pa_cons (pe_glob hm3 hm4 rfl hd2) pa_nil)))))) hs2 hf)
  · have run : ∀ Dd : Ends, (∀ ds d, ps env = .ok ds → G ds = .ok d → ∀ σ' H', Fr X.G B env [] [] σ' H' → Dd.nx σ' H') →
        (∀ ds xx, ps env = .ok ds → G ds = .exc xx → ∀ cls dd H', Same H H' → XR X.G X.mg H' xx cls dd → wAs X.K (.ref A) i (fun a cls d => tAsg (tAndV (tCB (rIsE2 X.K cls d a) (tCons (tVar i) (tCons (tC (.ref C1)) tNil))) (tNotV (tCB (rIsE2 X.K cls d a) (tCons (tVar i) (tCons (tC (.ref C2)) tNil))))) (gName k)) W Dd cls dd σ H') →
        (∀ ds, ps env = .ok ds → G ds ≠ .stuck) → (∃ ds, ps env = .ok ds) →
        tDrop (tCallS (spF X.G X.mg nn G) (WE (wAs X.K (.ref A) i (fun a cls d => tAsg (tAndV (tCB (rIsE2 X.K cls d a) (tCons (tVar i) (tCons (tC (.ref C1)) tNil))) (tNotV (tCB (rIsE2 X.K cls d a) (tCons (tVar i) (tCons (tC (.ref C2)) tNil))))) (gName k)) W Dd)) tes) Dd σ H := by
      intro Dd h1 h2 h3 h4
      obtain ⟨ds, hds⟩ := h4
      have J := ha [] (fun _ _ => False) (fun _ _ _ _ => False)
      refine (J.sa env σ H hF.vw).ok ds hds _ fun vs H1 s1 r1 => ?_
      have l : vs.length = nn := by rw [r1.length, J.len env ds hds]; exact hn
      cases hG : G ds with
      | ok d => exact ⟨l, ds, r1, .inl ⟨d, hG, fun v H' s r => h1 ds d hds hG σ H' (hF.mono (s1.trans s))⟩⟩
      | exc xx => exact ⟨l, ds, r1, .inr ⟨xx, hG, fun cls dd H' s r => h2 ds xx hds hG cls dd H' (s1.trans s) r⟩⟩
      | stuck => exact absurd hG (h3 ds hds)
    unfold sTryIs
    split
    · rename_i ds hds
      split
      · rename_i d hG
        refine ⟨fun e' q Dd hD => ?_, fun _ _ q => (by cases q), fun _ q => (by cases q), fun _ q => (by cases q), fun _ _ q => (by cases q)⟩
        cases q
        exact run Dd (fun _ _ _ _ σ' H' h => hD σ' H' h) (fun ds' xx e1 e2 => by rw [hds] at e1; cases e1; rw [hG] at e2; cases e2) (fun ds' e1 e2 => by rw [hds] at e1; cases e1; rw [hG] at e2; cases e2) ⟨ds, hds⟩
      · rename_i xx hG
        split
        · rename_i b1 b2 hnum htb
          split
          · rename_i hlen
            obtain ⟨l1, l2, l3⟩ := hlen
            refine ⟨fun e' q Dd hD => ?_, fun _ _ q => (by cases q), fun _ q => (by cases q), fun _ q => (by cases q), fun _ _ q => (by cases q)⟩
            cases q
            refine run Dd (fun ds' d e1 e2 => by rw [hds] at e1; cases e1; rw [hG] at e2; cases e2) (fun ds' x2 e1 e2 cls dd H' s r => ?_) (fun ds' e1 e2 => by rw [hds] at e1; cases e1; rw [hG] at e2; cases e2) ⟨ds, hds⟩
            rw [hds] at e1; cases e1
            rw [hG] at e2; cases e2
            obtain ⟨r1, r2⟩ := r
            rw [hnum] at r2
            have r2 : dd = none := r2
            subst r2
            obtain ⟨Dx, rfl, EC, k1, k2, k3⟩ := T.ok _ _ _ _ _ r1 htb
            refine ⟨true, k1, fun _ a na => ?_, fun z => nomatch z⟩
            have hF' := hF.mono s
            have len := hF.len
            have gi : (σ.set i (some (V.ref a)))[i]? = some (some (V.ref a)) := List.getElem?_set_self (by omega)
            have fin : ∀ b : Bool, Fr X.G B (((env.set i .no).set k (.own (.v (.bl b)))).set i .no) [] [] (((σ.set i (some (V.ref a))).set k (some (.bl b))).set i none) H' := fun b => by
              have q1 := hF'.kill' i (some (V.ref a)) l1
              have q2 := (q1.push (x := V.bl b) (d := .v (.bl b)) (Same.refl _) (f' := []) (by rw [RpO]; exact ⟨rfl, rfl⟩) List.nodup_nil fun a ha => nomatch ha).store (i := k) (by simpa using l2)
              exact q2.kill' i none (by simpa using l1)
            refine ⟨_, gi, ⟨Dx, rfl, rfl, EC, .ref C1, .ref C1, b1, rfl, fun u r => r, k2, b1, rfl, ?_⟩⟩
            cases b1 with
            | false => exact hD _ _ (by simpa using fin false)
            | true => exact ⟨_, gi, ⟨Dx, rfl, rfl, EC, .ref C2, .ref C2, b2, rfl, fun u r => r, k3, b2, rfl, hD _ _ (by simpa using fin (!b2))⟩⟩
          · exact Ss.stuck
        · exact Ss.stuck
      · exact Ss.stuck
    · exact Ss.stuck
end
end Gw

/-! GxN: nested rows, in plain Lean: walked, parted, made. -/
namespace Gw
open PySem PySem.Spec PyProof.Rows L2
def nst (p h : Int) : List Int → Int → Bool
  | [], d => d == 0
  | s :: r, d => if s < 0 ∨ p + h < s then false else if s = p + h then (0 ≤ d - 1) && nst p h r (d - 1) else if p ≤ s then nst p h r (d + 1) else nst p h r d

structure PSt where
  due : List (Int × List Int)
  call : List Int
  wds : List (List Int)
def pst (p h : Int) : List Int → PSt → PSt
  | [], s => s
  | x :: r, s => if x = p + h then (match s with
      | ⟨due, c :: cs, w :: ws⟩ => pst p h r ⟨due ++ [(c, w)], cs, ws⟩
      | s => s)
    else (match s with
      | ⟨due, cs, w :: ws⟩ => if p ≤ x then pst p h r ⟨due, (x - p) :: cs, [] :: (w ++ [x]) :: ws⟩ else pst p h r ⟨due, cs, (w ++ [x]) :: ws⟩
      | s => s)
def sz (s : PSt) : Nat := s.due.length + s.call.length + s.wds.length + s.wds.flatten.length
def tupOf (x : Int × List Int) : D := .tup [D.i x.1, .tup (x.2.map D.i)]
def lstOf (x : Int × List Int) : D := .tup [D.i x.1, .lst (x.2.map D.i)]
def wOf (w : List Int) : D := .lst (w.map D.i)

/-- what a run leaves: one call, one word, when the row is nested -/
theorem pst_len {p h : Int} : ∀ (signs : List Int) (s : PSt), nst p h signs (s.wds.length - 1) = true → s.call.length = s.wds.length → 0 < s.wds.length → (pst p h signs s).call.length = 1 ∧ (pst p h signs s).wds.length = 1
  | [], s, hd, hl, h0 => by
    simp [nst] at hd
    simp [pst]; omega
  | x :: r, ⟨due, c :: cs, w :: ws⟩, hd, hl, h0 => by
    have e : (((w :: ws).length : Int) - 1) = (ws.length : Int) := by simp
    replace hd : nst p h (x :: r) (ws.length : Int) = true := by rw [← e]; exact hd
    rw [nst] at hd
    simp at hl
    split at hd
    · cases hd
    next h1 =>
    split at hd
    next h2 =>
      simp at hd
      have ih := pst_len r ⟨due ++ [(c, w)], cs, ws⟩ (by simpa using hd.2) hl (by simp; omega)
      subst h2
      rwa [show pst p h ((p + h) :: r) ⟨due, c :: cs, w :: ws⟩ = pst p h r ⟨due ++ [(c, w)], cs, ws⟩ by simp [pst]]
    next h2 =>
      split at hd
      next h5 =>
        have ih := pst_len r ⟨due, (x - p) :: c :: cs, [] :: (w ++ [x]) :: ws⟩ (by simpa using hd) (by simp; exact hl) (by simp)
        rwa [show pst p h (x :: r) ⟨due, c :: cs, w :: ws⟩ = pst p h r ⟨due, (x - p) :: c :: cs, [] :: (w ++ [x]) :: ws⟩ by simp [pst, h2, h5]]
      next h5 =>
        have ih := pst_len r ⟨due, c :: cs, (w ++ [x]) :: ws⟩ (by simpa using hd) (by simp; exact hl) (by simp)
        rwa [show pst p h (x :: r) ⟨due, c :: cs, w :: ws⟩ = pst p h r ⟨due, c :: cs, (w ++ [x]) :: ws⟩ by simp [pst, h2, h5]]
  | x :: r, ⟨due, [], w :: ws⟩, hd, hl, h0 => by simp at hl
  | x :: r, ⟨due, _, []⟩, hd, hl, h0 => by simp at h0
/-- a run over a nested row within a longer one -/
theorem pst_run {p h : Int} (b : List Int) : ∀ (signs : List Int) (s : PSt) (due : List (Int × List Int)) (cs : List Int) (ws : List (List Int)), nst p h signs (s.wds.length - 1) = true → s.call.length = s.wds.length → 0 < s.wds.length →
    pst p h (signs ++ b) ⟨due ++ s.due, s.call ++ cs, s.wds ++ ws⟩ = pst p h b ⟨due ++ (pst p h signs s).due, (pst p h signs s).call ++ cs, (pst p h signs s).wds ++ ws⟩
  | [], s, _, _, _, hd, hl, h0 => by simp [pst]
  | x :: r, ⟨due, c :: cs, w :: ws⟩, d1, c1, w1, hd, hl, h0 => by
    have e : (((w :: ws).length : Int) - 1) = (ws.length : Int) := by simp
    replace hd : nst p h (x :: r) (ws.length : Int) = true := by rw [← e]; exact hd
    rw [nst] at hd
    simp at hl
    split at hd
    · cases hd
    next h1 =>
    split at hd
    next h2 =>
      simp at hd
      have ih := pst_run b r ⟨due ++ [(c, w)], cs, ws⟩ d1 c1 w1 (by simpa using hd.2) hl (by simp; omega)
      subst h2
      simpa [pst] using ih
    next h2 =>
      split at hd
      next h5 =>
        have ih := pst_run b r ⟨due, (x - p) :: c :: cs, [] :: (w ++ [x]) :: ws⟩ d1 c1 w1 (by simpa using hd) (by simp; exact hl) (by simp)
        simpa [pst, h2, h5] using ih
      next h5 =>
        have ih := pst_run b r ⟨due, c :: cs, (w ++ [x]) :: ws⟩ d1 c1 w1 (by simpa using hd) (by simp; exact hl) (by simp)
        simpa [pst, h2, h5] using ih
  | x :: r, ⟨due, [], w :: ws⟩, _, _, _, hd, hl, h0 => by simp at hl
  | x :: r, ⟨due, _, []⟩, _, _, _, hd, hl, h0 => by simp at h0
/-- the bottom call stays -/
theorem pst_bot {p h t : Int} {row : List Int} (hn : nst p h row 0 = true) : ∃ D w, pst p h row ⟨[], [t], [[]]⟩ = ⟨D, [t], [w]⟩ := by
  have key : ∀ (signs : List Int) (s : PSt), nst p h signs (s.wds.length - 1) = true → s.call.length = s.wds.length → 0 < s.wds.length → s.call.getLast? = some t → (pst p h signs s).call.getLast? = some t := by
    intro signs
    induction signs with
    | nil => intro s _ _ _ h; exact h
    | cons x r ih =>
      intro ⟨due, cl, wd⟩ hd hl h0 hg
      cases wd with
      | nil => simp at h0
      | cons w ws =>
      cases cl with
      | nil => simp at hg
      | cons c cs =>
      have e : (((w :: ws).length : Int) - 1) = (ws.length : Int) := by simp
      replace hd : nst p h (x :: r) (ws.length : Int) = true := by rw [← e]; exact hd
      rw [nst] at hd
      simp at hl
      split at hd
      · cases hd
      next h1 =>
      split at hd
      next h2 =>
        simp at hd
        subst h2
        rw [show pst p h ((p + h) :: r) ⟨due, c :: cs, w :: ws⟩ = pst p h r ⟨due ++ [(c, w)], cs, ws⟩ by simp [pst]]
        refine ih ⟨due ++ [(c, w)], cs, ws⟩ (by simpa using hd.2) hl (by simp; omega) ?_
        cases cs with
        | nil => simp at hl; omega
        | cons c2 cs => simpa using hg
      next h2 =>
        split at hd
        next h5 =>
          rw [show pst p h (x :: r) ⟨due, c :: cs, w :: ws⟩ = pst p h r ⟨due, (x - p) :: c :: cs, [] :: (w ++ [x]) :: ws⟩ by simp [pst, h2, h5]]
          exact ih ⟨due, (x - p) :: c :: cs, [] :: (w ++ [x]) :: ws⟩ (by simpa using hd) (by simp; exact hl) (by simp) (by simpa using hg)
        next h5 =>
          rw [show pst p h (x :: r) ⟨due, c :: cs, w :: ws⟩ = pst p h r ⟨due, c :: cs, (w ++ [x]) :: ws⟩ by simp [pst, h2, h5]]
          exact ih ⟨due, c :: cs, (w ++ [x]) :: ws⟩ (by simpa using hd) (by simp; exact hl) (by simp) (by simpa using hg)
  have l := pst_len row ⟨[], [t], [[]]⟩ (by simpa using hn) rfl (by simp)
  have b := key row ⟨[], [t], [[]]⟩ (by simpa using hn) rfl (by simp) rfl
  cases hq : pst p h row ⟨[], [t], [[]]⟩ with
  | mk D c w =>
    rw [hq] at l b
    obtain ⟨l1, l2⟩ := l
    match c, w, l1, l2 with
    | [c], [w], _, _ => simp at b; subst b; exact ⟨D, w, rfl⟩

def ptsOf (p h : Int) (signs : List Int) (t : Int) : List (Int × List Int) := (pst p h signs ⟨[], [t], [[]]⟩).due ++ [(t, (pst p h signs ⟨[], [t], [[]]⟩).wds.flatten)]
theorem pst_due_le {p h : Int} : ∀ (signs : List Int) (s : PSt), (pst p h signs s).due.length ≤ s.due.length + signs.length
  | [], s => by simp [pst]
  | x :: r, ⟨due, cl, wd⟩ => by
    have w1 := fun a => pst_due_le (p := p) (h := h) r a
    cases cl with
    | nil =>
      cases wd with
      | nil => simp [pst]
      | cons w ws =>
        simp only [pst]
        split
        · simp
        · split
          · refine Nat.le_trans (w1 _) ?_; simp <;> omega
          · refine Nat.le_trans (w1 _) ?_; simp <;> omega
    | cons c cs =>
      cases wd with
      | nil => simp [pst]
      | cons w ws =>
        simp only [pst]
        split
        · refine Nat.le_trans (w1 _) ?_; simp <;> omega
        · split
          · refine Nat.le_trans (w1 _) ?_; simp <;> omega
          · refine Nat.le_trans (w1 _) ?_; simp <;> omega
def nstep (p h : Int) (st : List Int × Int) (c : Int) : List Int × Int :=
  let s0 := c % (p + h + 1)
  let s := if s0 = p + h ∧ st.2 = 0 then c / 13 % p else s0
  (st.1 ++ [s], if s = p + h then st.2 - 1 else if p ≤ s then st.2 + 1 else st.2)
def nestOf (p h : Int) (flow : List Int) : List Int := (flow.foldl (nstep p h) ([], 0)).1 ++ List.replicate (flow.foldl (nstep p h) ([], 0)).2.toNat (p + h)
/-- what a row is while it is made -/
def half (p h : Int) (st : List Int × Int) : Prop := 0 ≤ st.2 ∧ st.2 ≤ st.1.length ∧ ∀ r e, 0 ≤ e → nst p h (st.1 ++ r) e = nst p h r (e + st.2)
theorem half_step {p h : Int} (hp : 1 ≤ p) (hh : 1 ≤ h) (st : List Int × Int) (c : Int) (H : half p h st) : half p h (nstep p h st c) := by
  obtain ⟨row, d⟩ := st
  obtain ⟨h0, h1, h2⟩ := H
  have b1 : 0 ≤ c % (p + h + 1) := Int.emod_nonneg _ (by omega)
  have b2 : c % (p + h + 1) < p + h + 1 := Int.emod_lt_of_pos _ (by omega)
  have b3 : 0 ≤ c / 13 % p := Int.emod_nonneg _ (by omega)
  have b4 : c / 13 % p < p := Int.emod_lt_of_pos _ (by omega)
  simp only at h0 h1 h2
  have key : ∀ s : Int, 0 ≤ s → s ≤ p + h → (s = p + h → d ≠ 0) → half p h (row ++ [s], if s = p + h then d - 1 else if p ≤ s then d + 1 else d) := by
    intro s s0 s1 s2
    refine ⟨?_, ?_, fun r e he => ?_⟩
    · simp only
      split
      · have := s2 ‹_›; omega
      · split <;> omega
    · simp only [List.length_append, List.length_singleton]
      split
      · omega
      · split <;> omega
    · simp only [List.append_assoc, List.singleton_append]
      rw [h2 _ e he, nst]
      have n1 : ¬ (s < 0 ∨ p + h < s) := by omega
      rw [if_neg n1]
      by_cases q : s = p + h
      · have := s2 q
        rw [if_pos q, if_pos q]
        have : (0 ≤ e + d - 1) := by omega
        rw [show e + (d - 1) = e + d - 1 by omega]
        simp only [this, decide_true, Bool.true_and]
      · rw [if_neg q, if_neg q]
        by_cases q2 : p ≤ s
        · rw [if_pos q2, if_pos q2]; congr 1; omega
        · rw [if_neg q2, if_neg q2]
  unfold nstep
  simp only
  by_cases q : c % (p + h + 1) = p + h ∧ d = 0
  · rw [if_pos q]
    exact key _ b3 (by omega) (fun e => by omega)
  · rw [if_neg q]
    exact key _ b1 (by omega) (fun e => fun e2 => q ⟨e, e2⟩)
theorem half_fold {p h : Int} (hp : 1 ≤ p) (hh : 1 ≤ h) : ∀ (flow : List Int) (st : List Int × Int), half p h st → half p h (flow.foldl (nstep p h) st) ∧ (flow.foldl (nstep p h) st).1.length = st.1.length + flow.length
  | [], st, H => ⟨H, by simp⟩
  | c :: r, st, H => by
    obtain ⟨a, b⟩ := half_fold hp hh r _ (half_step hp hh st c H)
    refine ⟨a, ?_⟩
    rw [List.foldl_cons, b]
    simp [nstep]
    omega
theorem nst_close {p h : Int} (hp : 1 ≤ p) (hh : 1 ≤ h) : ∀ (n : Nat) (r : List Int) (e : Int), 0 ≤ e → nst p h (List.replicate n (p + h) ++ r) (e + n) = nst p h r e
  | 0, r, e, he => by simp
  | n + 1, r, e, he => by
    rw [List.replicate_succ, List.cons_append, nst, if_neg (by omega), if_pos rfl]
    have : (0 ≤ e + ((n + 1 : Nat) : Int) - 1) := by omega
    simp only [this, decide_true, Bool.true_and]
    rw [show e + ((n + 1 : Nat) : Int) - 1 = e + n by omega]
    exact nst_close hp hh n r e he
/-- a nested row -/
def bal (p h : Int) (row : List Int) : Prop := ∀ r e, 0 ≤ e → nst p h (row ++ r) e = nst p h r e
theorem bal.nst {p h : Int} {row : List Int} (b : bal p h row) : nst p h row 0 = true := by
  have := b [] 0 (by omega)
  rw [List.append_nil] at this
  rw [this]; rfl
theorem nestOf_bal {p h : Int} (hp : 1 ≤ p) (hh : 1 ≤ h) (flow : List Int) : bal p h (nestOf p h flow) ∧ (nestOf p h flow).length ≤ 2 * flow.length := by
  obtain ⟨⟨h0, h1, h2⟩, h3⟩ := half_fold hp hh flow ([], 0) ⟨by simp, by simp, fun r e he => by simp⟩
  unfold nestOf
  generalize flow.foldl (nstep p h) ([], 0) = st at *
  refine ⟨fun r e he => ?_, ?_⟩
  · rw [List.append_assoc, h2 _ e he]
    have := nst_close hp hh st.2.toNat r e he
    rw [show ((st.2.toNat : Nat) : Int) = st.2 by omega] at this
    exact this
  · simp at h3 ⊢
    omega
theorem bal_flat {p h : Int} {f : Int → List Int} : ∀ {l : List Int}, (∀ s ∈ l, bal p h (f s)) → bal p h (l.flatMap f)
  | [], _ => fun r e he => by simp
  | s :: l, H => fun r e he => by
    rw [List.flatMap_cons, List.append_assoc, H s (by simp) _ e he]
    exact bal_flat (fun x hx => H x (by simp [hx])) r e he

theorem nst_mem {p h : Int} : ∀ {r : List Int} {d : Int}, nst p h r d = true → ∀ x ∈ r, 0 ≤ x ∧ x ≤ p + h
  | [], _, _, x, hx => by cases hx
  | s :: r, d, hd, x, hx => by
    rw [nst] at hd
    split at hd
    · cases hd
    next h1 =>
    rcases List.mem_cons.mp hx with rfl | hx
    · omega
    · split at hd
      · simp at hd
        exact nst_mem hd.2 x hx
      · split at hd
        · exact nst_mem hd x hx
        · exact nst_mem hd x hx
/-- one call too many -/
theorem nst_up {p h : Int} : ∀ {r : List Int} {d : Int}, nst p h r d = true → 0 ≤ d → nst p h r (d + 1) = false
  | [], d, hd, h0 => by simp [nst] at hd ⊢; omega
  | s :: r, d, hd, h0 => by
    rw [nst] at hd ⊢
    split at hd
    · cases hd
    next h1 =>
    rw [if_neg h1]
    split at hd
    next h2 =>
      simp at hd
      rw [if_pos h2]
      have := nst_up hd.2 (by omega)
      rw [show d - 1 + 1 = d + 1 - 1 by omega] at this
      rw [this, Bool.and_false]
    next h2 =>
      rw [if_neg h2]
      split at hd
      next h3 => rw [if_pos h3]; exact nst_up hd (by omega)
      next h3 => rw [if_neg h3]; exact nst_up hd h0
theorem nst_ins {p h c : Int} (c1 : p ≤ c) (c2 : c < p + h) (c0 : 0 ≤ c) : ∀ {a b : List Int} {d : Int}, nst p h (a ++ b) d = true → 0 ≤ d → nst p h (a ++ c :: b) d = false
  | [], b, d, hd, h0 => by
    rw [List.nil_append, nst, if_neg (by omega), if_neg (by omega), if_pos c1]
    exact nst_up hd h0
  | s :: a, b, d, hd, h0 => by
    rw [List.cons_append, nst] at hd ⊢
    split at hd
    · cases hd
    next h1 =>
    rw [if_neg h1]
    split at hd
    next h2 =>
      simp at hd
      rw [if_pos h2, nst_ins c1 c2 c0 hd.2 (by omega), Bool.and_false]
    next h2 =>
      rw [if_neg h2]
      split at hd
      next h3 => rw [if_pos h3]; exact nst_ins c1 c2 c0 hd (by omega)
      next h3 => rw [if_neg h3]; exact nst_ins c1 c2 c0 hd h0
/-- one end too many -/
theorem nst_down {p h : Int} : ∀ {r : List Int} {d : Int}, nst p h r d = true → nst p h r (d - 1) = false
  | [], d, hd => by simp [nst] at hd ⊢; omega
  | s :: r, d, hd => by
    rw [nst] at hd ⊢
    split at hd
    · cases hd
    next h1 =>
    rw [if_neg h1]
    split at hd
    next h2 =>
      simp at hd
      rw [if_pos h2, nst_down hd.2, Bool.and_false]
    next h2 =>
      rw [if_neg h2]
      split at hd
      next h3 =>
        rw [if_pos h3]
        have := nst_down hd
        rwa [show d + 1 - 1 = d - 1 + 1 by omega] at this
      next h3 => rw [if_neg h3]; exact nst_down hd
theorem nst_insE {p h : Int} (p0 : 0 ≤ p) (h0 : 0 ≤ h) : ∀ {a b : List Int} {d : Int}, nst p h (a ++ b) d = true → nst p h (a ++ (p + h) :: b) d = false
  | [], b, d, hd => by
    rw [List.nil_append, nst, if_neg (by omega), if_pos rfl, nst_down (r := b) (by simpa using hd), Bool.and_false]
  | s :: a, b, d, hd => by
    rw [List.cons_append, nst] at hd ⊢
    split at hd
    · cases hd
    next h1 =>
    rw [if_neg h1]
    split at hd
    next h2 =>
      simp at hd
      rw [if_pos h2, nst_insE p0 h0 hd.2, Bool.and_false]
    next h2 =>
      rw [if_neg h2]
      split at hd
      next h3 => rw [if_pos h3]; exact nst_insE p0 h0 hd
      next h3 => rw [if_neg h3]; exact nst_insE p0 h0 hd
/-- calls of helpers, words of signs other than the end -/
def PSt.good (p h : Int) (s : PSt) : Prop := (∀ x ∈ s.due, (0 ≤ x.1 ∧ x.1 < h) ∧ ∀ y ∈ x.2, 0 ≤ y ∧ y < p + h) ∧ (∀ c ∈ s.call, 0 ≤ c ∧ c < h) ∧ ∀ w ∈ s.wds, ∀ y ∈ w, 0 ≤ y ∧ y < p + h
theorem pst_good {p h : Int} : ∀ (signs : List Int) (s : PSt), (∀ x ∈ signs, 0 ≤ x ∧ x ≤ p + h) → s.good p h → (pst p h signs s).good p h
  | [], s, _, g => g
  | x :: r, ⟨due, cl, wd⟩, hx, ⟨g1, g2, g3⟩ => by
    have hr : ∀ y ∈ r, 0 ≤ y ∧ y ≤ p + h := fun y hy => hx y (by simp [hy])
    have h0 := hx x (by simp)
    simp only at g1 g2 g3
    have push : ∀ w ws, wd = w :: ws → x ≠ p + h → ∀ v ∈ (w ++ [x]) :: ws, ∀ y ∈ v, 0 ≤ y ∧ y < p + h := by
      intro w ws e hne v hv y hy
      subst e
      rcases List.mem_cons.mp hv with rfl | hv
      · rcases List.mem_append.mp hy with hy | hy
        · exact g3 w (by simp) y hy
        · rw [List.mem_singleton.mp hy]; omega
      · exact g3 v (by simp [hv]) y hy
    cases cl with
    | nil =>
      cases wd with
      | nil => simp only [pst]; split <;> exact ⟨g1, g2, g3⟩
      | cons w ws =>
        simp only [pst]
        split
        · exact ⟨g1, g2, g3⟩
        · next hne =>
          split
          · refine pst_good r _ hr ⟨g1, ?_, ?_⟩
            · intro c hc; rcases List.mem_singleton.mp hc with rfl; omega
            · intro v hv
              rcases List.mem_cons.mp hv with rfl | hv
              · intro y hy; cases hy
              · exact push w ws rfl hne v hv
          · exact pst_good r _ hr ⟨g1, g2, push w ws rfl hne⟩
    | cons c cs =>
      cases wd with
      | nil => simp only [pst]; split <;> exact ⟨g1, g2, g3⟩
      | cons w ws =>
        simp only [pst]
        split
        · refine pst_good r _ hr ⟨?_, fun c' hc => g2 c' (by simp [hc]), fun v hv => g3 v (by simp [hv])⟩
          intro y hy
          rcases List.mem_append.mp hy with hy | hy
          · exact g1 y hy
          · rcases List.mem_singleton.mp hy with rfl
            exact ⟨g2 c (by simp), g3 w (by simp)⟩
        · next hne =>
          split
          · refine pst_good r _ hr ⟨g1, ?_, ?_⟩
            · intro c' hc
              rcases List.mem_cons.mp hc with rfl | hc
              · omega
              · exact g2 c' hc
            · intro v hv
              rcases List.mem_cons.mp hv with rfl | hv
              · intro y hy; cases hy
              · exact push w ws rfl hne v hv
          · exact pst_good r _ hr ⟨g1, g2, push w ws rfl hne⟩
theorem pts_good {p h t : Int} {signs : List Int} (hn : nst p h signs 0 = true) (t0 : 0 ≤ t) (t1 : t < h) : ∀ x ∈ ptsOf p h signs t, (0 ≤ x.1 ∧ x.1 < h) ∧ ∀ y ∈ x.2, 0 ≤ y ∧ y < p + h := by
  have g := pst_good (p := p) (h := h) signs ⟨[], [t], [[]]⟩ (nst_mem hn) ⟨(fun x hx => by cases hx), (fun c hc => by rcases List.mem_singleton.mp hc with rfl; exact ⟨t0, t1⟩), (fun w hw y hy => by rcases List.mem_singleton.mp hw with rfl; cases hy)⟩
  intro x hx
  unfold ptsOf at hx
  rcases List.mem_append.mp hx with hx | hx
  · exact g.1 x hx
  · rcases List.mem_singleton.mp hx with rfl
    refine ⟨⟨t0, t1⟩, fun y hy => ?_⟩
    obtain ⟨w, hw, hy⟩ := List.mem_flatten.mp hy
    exact g.2.2 w hw y hy

theorem pst_wlen {p h : Int} : ∀ (signs : List Int) (s : PSt) (n : Nat), (∀ x ∈ s.due, x.2.length ≤ n + signs.length) → (∀ w ∈ s.wds, w.length ≤ n) → (∀ x ∈ (pst p h signs s).due, x.2.length ≤ n + signs.length) ∧ ∀ w ∈ (pst p h signs s).wds, w.length ≤ n + signs.length
  | [], s, n, h1, h2 => ⟨h1, h2⟩
  | x :: r, ⟨due, cl, wd⟩, n, h1, h2 => by
    simp only at h1 h2
    have e : n + (x :: r).length = (n + 1) + r.length := by simp; omega
    rw [e] at h1 ⊢
    have w2 : ∀ w ∈ wd, w.length ≤ n + 1 + r.length := fun w hw => by have := h2 w hw; omega
    have push : ∀ w ws, wd = w :: ws → ∀ v ∈ (w ++ [x]) :: ws, v.length ≤ n + 1 := by
      intro w ws e v hv
      subst e
      rcases List.mem_cons.mp hv with rfl | hv
      · have := h2 w (by simp); simp; omega
      · have := h2 v (by simp [hv]); omega
    cases cl with
    | nil =>
      cases wd with
      | nil => simp only [pst]; split <;> exact ⟨h1, w2⟩
      | cons w ws =>
        simp only [pst]
        split
        · exact ⟨h1, w2⟩
        · split
          · refine pst_wlen r _ (n + 1) h1 ?_
            intro v hv
            rcases List.mem_cons.mp hv with rfl | hv
            · simp
            · exact push w ws rfl v hv
          · exact pst_wlen r _ (n + 1) h1 (push w ws rfl)
    | cons c cs =>
      cases wd with
      | nil => simp only [pst]; split <;> exact ⟨h1, w2⟩
      | cons w ws =>
        simp only [pst]
        split
        · refine pst_wlen r _ (n + 1) ?_ (fun v hv => by have := h2 v (by simp [hv]); omega)
          intro y hy
          rcases List.mem_append.mp hy with hy | hy
          · exact h1 y hy
          · rcases List.mem_singleton.mp hy with rfl
            have := h2 w (by simp); simp; omega
        · split
          · refine pst_wlen r _ (n + 1) h1 ?_
            intro v hv
            rcases List.mem_cons.mp hv with rfl | hv
            · simp
            · exact push w ws rfl v hv
          · exact pst_wlen r _ (n + 1) h1 (push w ws rfl)
theorem pts_len {p h t : Int} {signs : List Int} (hn : nst p h signs 0 = true) : ∀ x ∈ ptsOf p h signs t, x.2.length ≤ signs.length := by
  have g := pst_wlen (p := p) (h := h) signs ⟨[], [t], [[]]⟩ 0 (fun x hx => by cases hx) (fun w hw => by rcases List.mem_singleton.mp hw with rfl; simp)
  obtain ⟨U, w, hr⟩ := pst_bot (t := t) hn
  rw [hr] at g
  intro x hx
  unfold ptsOf at hx
  rw [hr] at hx
  rcases List.mem_append.mp hx with hx | hx
  · have := g.1 x hx; omega
  · rcases List.mem_singleton.mp hx with rfl
    have := g.2 w (by simp)
    simp
    omega
/-! ### houses -/
structure House where
  marks : List Int
  ways : List (List Int)
def houseD (L : Int) (H : House) : D := .tup [.v (.int L), .tup (H.marks.map D.i), .tup (H.ways.map fun w => .tup (w.map D.i))]
structure House.ok (L : Int) (H : House) : Prop where
  len : H.ways.length = H.marks.length
  pos : 1 ≤ H.marks.length
  le : H.marks.length ≤ 4
  way : ∀ w ∈ H.ways, w.length = L.toNat ∧ ∀ x ∈ w, 0 ≤ x ∧ x < H.marks.length
def House.go (H : House) (room l : Int) : Int := (H.ways.getD room.toNat []).getD l.toNat 0
def House.walk (H : House) (room : Int) (word : List Int) : Int := word.foldl H.go room
def House.mark (H : House) (room : Int) : Int := H.marks.getD room.toNat 0
@[simp] theorem imm_houseD {L : Int} {H : House} : imm (houseD L H) = true := by simp [houseD]
@[simp] theorem dok_houseD {n : Nat} {L : Int} {H : House} : dok (n + 4) (houseD L H) = true := by simp [houseD]
theorem dIx_way {L : Int} {H : House} (k : H.ok L) {room : Int} (r0 : 0 ≤ room) (r1 : room < H.marks.length) : dAt (H.ways.map fun w => D.tup (w.map D.i)) room = .ok (.tup ((H.ways.getD room.toNat []).map D.i)) := by
  have : room.toNat < H.ways.length := by rw [k.len]; omega
  refine dAt_of r0 ?_
  simp [this]
theorem dIx_go {L : Int} {H : House} (k : H.ok L) {room l : Int} (r0 : 0 ≤ room) (r1 : room < H.marks.length) (l0 : 0 ≤ l) (l1 : l < L) :
    dAt ((H.ways.getD room.toNat []).map D.i) l = .ok (.v (.int (H.go room l))) ∧ 0 ≤ H.go room l ∧ H.go room l < H.marks.length := by
  have hr : room.toNat < H.ways.length := by rw [k.len]; omega
  have e : H.ways.getD room.toNat [] = H.ways[room.toNat] := by simp [hr]
  obtain ⟨w1, w2⟩ := k.way H.ways[room.toNat] (List.getElem_mem hr)
  have hl : l.toNat < (H.ways[room.toNat]).length := by rw [w1]; omega
  have e2 : H.go room l = H.ways[room.toNat][l.toNat] := by unfold House.go; rw [e]; simp [hl]
  rw [e, e2]
  refine ⟨dAt_of l0 (by simp [hl]), w2 _ (List.getElem_mem hl)⟩
theorem dIx_mark {H : House} {room : Int} (r0 : 0 ≤ room) (r1 : room < H.marks.length) : dAt (H.marks.map D.i) room = .ok (.v (.int (H.mark room))) := by
  have hr : room.toNat < H.marks.length := by omega
  unfold House.mark
  exact dAt_of r0 (by simp [hr])
theorem walk_in {L : Int} {H : House} (k : H.ok L) : ∀ (word : List Int) (room : Int), 0 ≤ room → room < H.marks.length → (∀ x ∈ word, 0 ≤ x ∧ x < L) → 0 ≤ H.walk room word ∧ H.walk room word < H.marks.length
  | [], room, r0, r1, _ => ⟨r0, r1⟩
  | l :: r, room, r0, r1, hw => by
    have h := hw l (by simp)
    have g := (dIx_go k r0 r1 h.1 h.2).2
    exact walk_in k r (H.go room l) g.1 g.2 fun x hx => hw x (by simp [hx])
/-- drawn numbers -/
def drw (flow : List Int) (k m : Int) : Int :=
  if k < flow.length then flow.getD k.toNat 0 % m
  else if flow.length = 0 then 0
  else
    let c := flow.getD (k % flow.length).toNat 0 % 2147483647
    let x := (c + k * k + 1) * 48271 % 2147483647
    x * x % 1000000007 % m
theorem drw_in {flow : List Int} {k m : Int} (hm : 0 < m) : 0 ≤ drw flow k m ∧ drw flow k m < m := by
  unfold drw
  split
  · exact ⟨Int.emod_nonneg _ (by omega), Int.emod_lt_of_pos _ hm⟩
  · split
    · omega
    · exact ⟨Int.emod_nonneg _ (by omega), Int.emod_lt_of_pos _ hm⟩
def hMark (flow : List Int) (at_ : Int) (r : Nat) : Int := if drw flow (at_ + 1 + r * 7) 4000000000 % 4 = 0 then 0 else 1 + drw flow (at_ + 1 + r * 7) 4000000000 / 4
def hWay (flow : List Int) (at_ L n : Int) (r : Nat) : List Int := (List.range L.toNat).map fun (l : Nat) => drw flow (at_ + 1 + r * 7 + 1 + l) n
def houseBy (flow : List Int) (at_ L : Int) : House := ⟨(List.range (1 + drw flow at_ 4).toNat).map (hMark flow at_), (List.range (1 + drw flow at_ 4).toNat).map (hWay flow at_ L (1 + drw flow at_ 4))⟩
theorem houseBy_ok {flow : List Int} {at_ L : Int} : (houseBy flow at_ L).ok L := by
  have h := drw_in (flow := flow) (k := at_) (m := 4) (by decide)
  refine ⟨by simp [houseBy], by simp [houseBy]; omega, by simp [houseBy]; omega, fun w hw => ?_⟩
  simp [houseBy] at hw
  obtain ⟨r, hr, rfl⟩ := hw
  unfold hWay
  refine ⟨by simp, fun x hx => ?_⟩
  simp at hx
  obtain ⟨l, hl, rfl⟩ := hx
  have := drw_in (flow := flow) (k := at_ + 1 + r * 7 + 1 + l) (m := 1 + drw flow at_ 4) (by omega)
  simp [houseBy]
  omega
end Gw

set_option maxHeartbeats 4000000
/-! GxZ: for over zip and enumerate. -/
namespace Gw
open PySem PySem.Spec PyProof.Rows L2
theorem walk_zipT {K : PySem.W.Frag} {a b : Addr} {xs ys : List V} {n : Nat} (hn : n = min xs.length ys.length) : Walk (RZ.ItzT K a b) n (fun H => SqT K H a xs ∧ SqT K H b ys) (YPair (fun i => xs[i]?) (fun i => ys[i]?)) := by
  subst hn
  refine ⟨fun i _ hi q => ?_, fun _ q => ⟨xs, ys, q.1, q.2, by omega⟩, fun i H v H' _ q y => ?_⟩
  · have h1 : i < xs.length := by omega
    have h2 : i < ys.length := by omega
    exact ⟨xs, ys, xs[i], ys[i], q.1, q.2, by simp [h1], by simp [h2]⟩
  · obtain ⟨T, x, z, h1, h2, h3, h4, h5⟩ := y
    exact ⟨T, x, z, h1, h2, h3, h4 xs q.1, h5 ys q.2⟩
section
variable {X : Cx} {W : WX} {B : Bz} {H : Hp} {env : En} {σ : L2.St}
theorem for_pairs {J : It} {n : Nat} {G : Hp → Prop} {fx fy : Nat → Option V} {tg : Expr} {g : TG} {t : D → En → Option En} {ks : List Nat} {body : List Stmt} {tb : TS} {sb : En → Ou} {D0 : Ends} {zs : List D} (w : Walk J n G (YPair fx fy)) (hg : JTg X tg g t) (hb : JSs X W body tb sb)
    (hF : Fr X.G B env [] [] σ H) (c : Cond X.G X.mg W B (forL t ks sb zs (kills ks env)) D0) (hn : zs.length = n) (hG : ∀ H', Same B.hp H' → G H')
    (hz : ∀ i x y, fx i = some x → fy i = some y → ∃ d1 d2, zs[i]? = some (.tup [d1, d2]) ∧ imm d1 = true ∧ imm d2 = true ∧ RpV X.G B.hp x d1 ∧ RpV X.G B.hp y d2) :
    ∃ W : Nat → Nat → L2.St → Hp → Prop, (∃ m, W 0 m σ H) ∧ ∀ i m σ H, W i m σ H →
      (J.stop i H ∧ D0.nx σ H) ∨ (J.go i H ∧ ∃ N : L2.St → Hp → Prop, (∀ σ' H', N σ' H' → ∃ m', m' < m ∧ W (i + 1) m' σ' H') ∧ ∀ x H', J.yld i H x H' → g x σ H' fun σ2 H2 => tb { D0 with nx := N, ct := N, bk := D0.nx } σ2 H2) := by
  refine for_it w (D := D0) (fun i σ' H' => ∃ e, Fr X.G B e [] [] σ' H' ∧ forL t ks sb (zs.drop i) e = forL t ks sb zs (kills ks env)) ⟨_, hF.kills ks, rfl⟩ (fun i σ' H' _ ⟨e, hF', _⟩ => hG H' (fr_sub hF')) (fun i v σ' H1 H2 hi ⟨e, hF', he⟩ y => ?_) (fun σ' H' ⟨e, hF', he⟩ => ?_)
  · obtain ⟨T, x, z, rfl, hT, rfl, h1, h2⟩ := y
    obtain ⟨d1, d2, hd, i1, i2, r1, r2⟩ := hz i x z h1 h2
    obtain ⟨hlt, ed⟩ := List.getElem?_eq_some_iff.mp hd
    rw [List.drop_eq_getElem_cons hlt, ed] at he
    have sB : Same B.hp (upd H1 T (.tup [x, z])) := (fr_sub hF').trans (same_new hT)
    have ro : RO X.G H1 (upd H1 T (.tup [x, z])) (.ref T) (.tup [d1, d2]) := RO.imm (by rw [imm_t, imms_cons, imms_cons, i1, i2]; rfl) (by
      rw [RpV]
      refine ⟨T, [x, z], rfl, .inl (.inl upd_same), ?_⟩
      rw [RpVs, RpVs, RpVs]
      exact ⟨RpV.mono sB _ _ r1, RpV.mono sB _ _ r2, trivial⟩)
    obtain ⟨B', q1, q2, q3⟩ := hF'.froz (same_new hT) ro
    exact for_turn hg hb q1 q3 (c.under q2) he fun e2 σ2 H3 hF2 ho2 => ⟨e2, hF2.under q2, ho2⟩
  · rw [← hn, List.drop_length] at he
    have he : Ou.nx e = forL t ks sb zs (kills ks env) := he
    rw [← he] at c
    exact c σ' H' hF'
def sForZ (t : D → En → Option En) (ks : List Nat) (p q : PX) (body : En → Ou) : En → Ou := fun env => match p env with
  | .ok (.tup xs) => (match q env with
    | .ok (.tup ys) => if imms xs = true ∧ imms ys = true then forL t ks body (List.zipWith (fun a b => D.tup [a, b]) xs ys) (kills ks env) else .stuck
    | _ => .stuck)
  | _ => .stuck
def sForE (t : D → En → Option En) (ks : List Nat) (p : PX) (body : En → Ou) : En → Ou := fun env => match p env with
  | .ok (.lst xs) => if imms xs = true then forL t ks body (List.zipWith (fun (i : Nat) b => D.tup [.v (.int (i : Int)), b]) (List.range xs.length) xs) (kills ks env) else .stuck
  | _ => .stuck
theorem imms_get : ∀ {ds : List D} {i : Nat} {d : D}, imms ds = true → ds[i]? = some d → imm d = true
  | [], i, d, _, h => by simp at h
  | x :: ds, 0, d, hi, h => by
    rw [imms_cons, Bool.and_eq_true] at hi
    have : x = d := Option.some.inj h
    rw [← this]; exact hi.1
  | x :: ds, i + 1, d, hi, h => by
    rw [imms_cons, Bool.and_eq_true] at hi
    exact imms_get (i := i) hi.2 (by simpa using h)
theorem js_forZ {a b : Expr} {ta tb' : TE} {pa pb : PX} {elts : List Expr} {kk : Nat} {tpos p zpos pos : Pos} {g : TG} {t : D → En → Option En} {ks : List Nat} {body : List Stmt} {tb : TS} {sb : En → Ou} (bd : Bd X W) (hgl : Gl X "zip") (hm : X.mg "zip" = none)
    (ha : JF X W a ta pa) (hb' : JF X W b tb' pb) (hg : JTg X (.Tuple elts kk tpos) g t) (hb : JSs X W body tb sb)
    (hs1 : starEach [b] X.env = [(false, eval b X.env)] := by rfl)
    (hs : starEach [a, b] X.env = (false, eval a X.env) :: starEach [b] X.env := by rfl) (hpl : (backTo zpos (starEach [b] X.env)).any (·.1) = false := by rfl)
    (hf : ∀ x, foldedSetIterable (.Call (.Name "zip" p) [a, b] [] zpos) X.env x = pure x := by intro _; rfl) :
    JS X W (.For (.Tuple elts kk tpos) (.Call (.Name "zip" p) [a, b] [] zpos) body [] pos) (tFor (RZ.iZipA X.K (tCons ta (tCons tb' tNil))) g tb) (sForZ t ks pa pb sb) :=
  ⟨ps_for bd.po bd.calm (RZ.pi_zipA hgl hm (pa_cons ha.pe (pa_cons hb'.pe pa_nil hs1) hs) hs hpl) hg.pg hb.ps hf, fun B env σ H hF => by
    unfold sForZ
    split
    · rename_i xs hxs
      split
      · rename_i ys hys
        split
        · rename_i him
          obtain ⟨i1, i2⟩ := him
          refine Ss.of fun D0 c => ha.ok B env σ H hF _ hxs _ fun x H1 B1 hF1 sB rx => hb'.ok B1 env σ H1 hF1 _ hys _ fun y H2 B2 hF2 sB2 ry => ?_
          have rx := RpV.mono sB2.1 _ _ rx
          have c2 := (c.under sB).under sB2
          rw [RpV] at rx ry
          obtain ⟨a', us, rfl, s1, r1⟩ := rx
          obtain ⟨b', ws, rfl, s2, r2⟩ := ry
          have sub : ∀ H', Same B2.hp H' → SqT X.K H' a' us ∧ SqT X.K H' b' ws := fun H' s => ⟨sqt_same (K := X.G) s s1, sqt_same (K := X.G) s s2⟩
          have h2 := sub H2 (fr_sub hF2)
          refine ⟨a', b', us, ws, rfl, .inr ⟨h2.1, h2.2, ?_⟩⟩
          refine for_pairs (walk_zipT rfl) hg hb hF2 c2 (by rw [List.length_zipWith, r1.length, r2.length]) sub fun i x y e1 e2 => ?_
          obtain ⟨d1, hd1, q1⟩ := r1.get' e1
          obtain ⟨d2, hd2, q2⟩ := r2.get' e2
          exact ⟨d1, d2, by rw [List.getElem?_zipWith, hd1, hd2], imms_get i1 hd1, imms_get i2 hd2, q1, q2⟩
        · exact Ss.stuck
      · exact Ss.stuck
    · exact Ss.stuck⟩
theorem js_forE {a : Expr} {ta : TE} {pa : PX} {elts : List Expr} {kk : Nat} {tpos p zpos pos : Pos} {g : TG} {t : D → En → Option En} {ks : List Nat} {body : List Stmt} {tb : TS} {sb : En → Ou} (bd : Bd X W) (hgl : Gl X "enumerate") (hm : X.mg "enumerate" = none)
    (ha : JF X W a ta pa) (hg : JTg X (.Tuple elts kk tpos) g t) (hb : JSs X W body tb sb)
    (hs : starEach [a] X.env = [(false, eval a X.env)] := by rfl)
    (hf : ∀ x, foldedSetIterable (.Call (.Name "enumerate" p) [a] [] zpos) X.env x = pure x := by intro _; rfl) :
    JS X W (.For (.Tuple elts kk tpos) (.Call (.Name "enumerate" p) [a] [] zpos) body [] pos) (tFor (iEnum X.K (tCons ta tNil)) g tb) (sForE t ks pa sb) :=
  ⟨ps_for bd.po bd.calm (pi_enum hgl hm (pa_cons ha.pe pa_nil hs) hs) hg.pg hb.ps hf, fun B env σ H hF => by
    unfold sForE
    split
    · rename_i xs hxs
      split
      · rename_i i1
        refine Ss.of fun D0 c => ha.ok B env σ H hF _ hxs _ fun x H1 B1 hF1 sB rx => ?_
        have c1 := c.under sB
        rw [RpV] at rx
        obtain ⟨a', us, rfl, s1, r1⟩ := rx
        have sub : ∀ H', Same B1.hp H' → SqL X.K H' a' us := fun H' s => SqL.of (s _ _ s1)
        refine ⟨a', us, rfl, sub H1 (fr_sub hF1), ?_⟩
        refine for_pairs walk_enum hg hb hF1 c1 (by rw [List.length_zipWith, List.length_range, r1.length]; simp) sub fun i x y e1 e2 => ?_
        obtain ⟨d2, hd2, q2⟩ := r1.get' e2
        have hlt := (List.getElem?_eq_some_iff.mp hd2).1
        refine ⟨.v (.int (i : Int)), d2, by rw [List.getElem?_zipWith, hd2, List.getElem?_range hlt], rfl, imms_get i1 hd2, ?_, q2⟩
        rw [RpV]
        exact (Option.some.inj e1).symm
      · exact Ss.stuck
    · exact Ss.stuck⟩
end
end Gw
namespace Gw
open PySem PySem.Spec PyProof.Rows L2
/-- list(range(n)) -/
def pLstR (p : PX) : PX := fun e => (p e).bind fun d => match d with
  | .v (.int j) => if -(2 ^ 62) ≤ j ∧ j ≤ 16777216 then .ok (.lst (rngL 0 j.toNat)) else .stuck
  | _ => .stuck
theorem rgV_rp {K : Kb} {H : Hp} {j : Int} : RpVs K H (rgV 0 j) (rngL 0 j.toNat) := by
  unfold rgV rngL
  rw [Int.sub_zero]
  generalize List.range j.toNat = l
  induction l with
  | nil => rw [List.map_nil, List.map_nil, RpVs]; trivial
  | cons a l ih => rw [List.map_cons, List.map_cons, RpVs]; exact ⟨by rw [RpV], ih⟩
theorem jo_listR {X : Cx} {W : WX} {a : Expr} {ta : TE} {pa : PX} {p p2 p3 pos : Pos} (hc : X.calm = true) (hg : Gl X "list") (hm : X.mg "list" = none) (hg2 : Gl X "range") (hm2 : X.mg "range" = none) (ha : JV X W a ta pa)
    (na : starEach [a] X.env = (false, eval a X.env) :: starEach [] X.env := by rfl) (nb : starEach [.Call (.Name "range" p2) [a] [] p3] X.env = (false, eval (.Call (.Name "range" p2) [a] [] p3) X.env) :: starEach [] X.env := by rfl) :
    JO X W (.Call (.Name "list" p) [.Call (.Name "range" p2) [a] [] p3] [] pos) (tLstRg (tRg1 ta)) (pLstR pa) := ⟨pe_listRg hc hg hm (prg_1 hg2 hm2 ha.pe na) nb, fun env σ H hv =>
  (ha.sv env σ H hv).bind (u := fun (x : V) H1 (Q : VK) => ∃ n, x = .int n ∧ RgOk 0 n ∧ ∀ q, H1 q = none → Q (.ref q) (upd H1 q (.lst (rgV 0 n)))) (R' := RO X.G H) fun x d H1 e s r => by
    split
    · rename_i j
      split
      · rename_i hj
        have ex := r.atom
        subst ex
        refine (Do.newL (ds := rngL 0 j.toNat) (xs := rgV 0 j) rgV_rp (by simp) fun Q h => ⟨j, rfl, ⟨by omega, by omega, by omega, by omega, by omega⟩, h⟩).imp fun _ _ _ _ q => q.back s
      · exact Do.stuck
    · exact Do.stuck⟩
@[simp] theorem pLstR_e {p : PX} {e : En} : pLstR p e = (p e).bind fun d => match d with
  | .v (.int j) => if -(2 ^ 62) ≤ j ∧ j ≤ 16777216 then .ok (.lst (rngL 0 j.toNat)) else .stuck
  | _ => .stuck := (rfl)
@[simp] theorem sForZ_e {t : D → En → Option En} {ks : List Nat} {p q : PX} {body : En → Ou} {e : En} : sForZ t ks p q body e = (match p e with
  | .ok (.tup xs) => (match q e with
    | .ok (.tup ys) => if imms xs = true ∧ imms ys = true then forL t ks body (List.zipWith (fun a b => D.tup [a, b]) xs ys) (kills ks e) else .stuck
    | _ => .stuck)
  | _ => .stuck) := (rfl)
@[simp] theorem sForE_e {t : D → En → Option En} {ks : List Nat} {p : PX} {body : En → Ou} {e : En} : sForE t ks p body e = (match p e with
  | .ok (.lst xs) => if imms xs = true then forL t ks body (List.zipWith (fun (i : Nat) b => D.tup [.v (.int (i : Int)), b]) (List.range xs.length) xs) (kills ks e) else .stuck
  | _ => .stuck) := (rfl)
end Gw

/-! GxR: the order of rows (by length, then by the first sign that differs), as numbers to the base 8; nested rows taken apart. -/
namespace Gw
open PySem PySem.Spec PyProof.Rows L2
def val (w : List Int) : Nat := w.foldl (fun n d => n * 8 + (d + 1).toNat) 0
def wok (w : List Int) : Prop := ∀ d ∈ w, 0 ≤ d ∧ d ≤ 6
theorem wok_app {u v : List Int} : wok (u ++ v) ↔ wok u ∧ wok v := by
  unfold wok
  constructor
  · intro h; exact ⟨fun d hd => h d (by simp [hd]), fun d hd => h d (by simp [hd])⟩
  · rintro ⟨h1, h2⟩ d hd
    rcases List.mem_append.mp hd with hd | hd
    · exact h1 d hd
    · exact h2 d hd
theorem val_from (u : List Int) : ∀ n : Nat, u.foldl (fun n d => n * 8 + (d + 1).toNat) n = n * 8 ^ u.length + val u := by
  induction u with
  | nil => intro n; simp [val]
  | cons a u ih =>
    intro n
    unfold val
    rw [List.foldl_cons, List.foldl_cons, ih, ih, List.length_cons, Nat.pow_succ]
    have e1 : (n * 8 + (a + 1).toNat) * 8 ^ u.length = n * (8 ^ u.length * 8) + (a + 1).toNat * 8 ^ u.length := by
      rw [Nat.add_mul, Nat.mul_assoc, Nat.mul_comm 8 (8 ^ u.length)]
    rw [e1]
    have e2 : (0 * 8 + (a + 1).toNat) * 8 ^ u.length = (a + 1).toNat * 8 ^ u.length := by rw [Nat.zero_mul, Nat.zero_add]
    rw [e2]
    omega
theorem val_app (u x : List Int) : val (u ++ x) = val u * 8 ^ x.length + val x := by
  rw [← val_from]
  unfold val
  rw [List.foldl_append]
theorem val_cons (a : Int) (u : List Int) : val (a :: u) = (a + 1).toNat * 8 ^ u.length + val u := by
  have := val_app [a] u
  rw [List.singleton_append] at this
  rw [this]
  simp [val]
theorem val_lt {u : List Int} (h : wok u) : val u < 8 ^ u.length := by
  induction u with
  | nil => simp [val]
  | cons a u ih =>
    have ha := h a (by simp)
    have ih := ih fun d hd => h d (by simp [hd])
    rw [val_cons, List.length_cons, Nat.pow_succ]
    have : (a + 1).toNat * 8 ^ u.length ≤ 7 * 8 ^ u.length := Nat.mul_le_mul_right _ (by omega)
    omega
theorem val_ge {a : Int} {u : List Int} (h : wok (a :: u)) : 8 ^ u.length ≤ val (a :: u) := by
  have ha := h a (by simp)
  rw [val_cons]
  have : 1 * 8 ^ u.length ≤ (a + 1).toNat * 8 ^ u.length := Nat.mul_le_mul_right _ (by omega)
  omega
theorem val_len {u v : List Int} (hu : wok u) (hv : wok v) (h : u.length < v.length) : val u < val v := by
  cases v with
  | nil => simp at h
  | cons a v =>
    have h1 := val_lt hu
    have h2 := val_ge hv
    have : 8 ^ u.length ≤ 8 ^ v.length := Nat.pow_le_pow_right (by decide) (by simp at h; omega)
    omega
theorem len_le {u v : List Int} (hu : wok u) (hv : wok v) (h : val u ≤ val v) : u.length ≤ v.length := by
  rcases Nat.lt_or_ge v.length u.length with hl | hl
  · have := val_len hv hu hl; omega
  · exact hl
/-- the first difference -/
def ltx : List Int → List Int → Bool
  | a :: u, b :: v => if a ≠ b then decide (a < b) else ltx u v
  | _, _ => false
theorem ltx_val : ∀ {u v : List Int}, wok u → wok v → u.length = v.length → (ltx u v = true ↔ val u < val v)
  | [], [], _, _, _ => by simp [ltx, val]
  | a :: u, b :: v, hu, hv, hl => by
    have ha := hu a (by simp)
    have hb := hv b (by simp)
    have hu' : wok u := fun d hd => hu d (by simp [hd])
    have hv' : wok v := fun d hd => hv d (by simp [hd])
    have hl' : u.length = v.length := by simpa using hl
    have ih := ltx_val hu' hv' hl'
    have l1 := val_lt hu'
    have l2 := val_lt hv'
    rw [val_cons, val_cons, ltx, ← hl']
    rw [← hl'] at l2
    split
    · next hne =>
      rw [decide_eq_true_eq]
      constructor
      · intro h
        have : ((a + 1).toNat + 1) * 8 ^ u.length ≤ (b + 1).toNat * 8 ^ u.length := Nat.mul_le_mul_right _ (by omega)
        rw [Nat.add_mul] at this
        omega
      · intro h
        rcases Int.lt_or_lt_of_ne hne with h2 | h2
        · exact h2
        · have : ((b + 1).toNat + 1) * 8 ^ u.length ≤ (a + 1).toNat * 8 ^ u.length := Nat.mul_le_mul_right _ (by omega)
          rw [Nat.add_mul] at this
          omega
    · next he =>
      have he : a = b := by omega
      subst he
      rw [ih]
      omega
  | [], _ :: _, _, _, h => by simp at h
  | _ :: _, [], _, _, h => by simp at h
theorem val_inj_len : ∀ {u v : List Int}, wok u → wok v → u.length = v.length → val u = val v → u = v
  | [], [], _, _, _, _ => rfl
  | a :: u, b :: v, hu, hv, hl, h => by
    have ha := hu a (by simp)
    have hb := hv b (by simp)
    have hu' : wok u := fun d hd => hu d (by simp [hd])
    have hv' : wok v := fun d hd => hv d (by simp [hd])
    have hl' : u.length = v.length := by simpa using hl
    have l1 := val_lt hu'
    have l2 := val_lt hv'
    rw [val_cons, val_cons, ← hl'] at h
    rw [← hl'] at l2
    have e : a = b := by
      rcases Int.lt_trichotomy a b with h2 | h2 | h2
      · have : ((a + 1).toNat + 1) * 8 ^ u.length ≤ (b + 1).toNat * 8 ^ u.length := Nat.mul_le_mul_right _ (by omega)
        rw [Nat.add_mul] at this
        omega
      · exact h2
      · have : ((b + 1).toNat + 1) * 8 ^ u.length ≤ (a + 1).toNat * 8 ^ u.length := Nat.mul_le_mul_right _ (by omega)
        rw [Nat.add_mul] at this
        omega
    subst e
    rw [val_inj_len hu' hv' hl' (by omega)]
  | [], _ :: _, _, _, h, _ => by simp at h
  | _ :: _, [], _, _, h, _ => by simp at h
theorem val_inj {u v : List Int} (hu : wok u) (hv : wok v) (h : val u = val v) : u = v := by
  have h1 := len_le hu hv (by omega)
  have h2 := len_le hv hu (by omega)
  exact val_inj_len hu hv (by omega) h
theorem val_appR {u v : List Int} (x : List Int) (h : val u ≤ val v) : val (u ++ x) ≤ val (v ++ x) := by
  rw [val_app, val_app]
  have := Nat.mul_le_mul_right (8 ^ x.length) h
  omega
theorem val_appL {u v : List Int} (hu : wok u) (hv : wok v) (x : List Int) (h : val u ≤ val v) : val (x ++ u) ≤ val (x ++ v) := by
  rw [val_app, val_app]
  have hl := len_le hu hv h
  have : val x * 8 ^ u.length ≤ val x * 8 ^ v.length := Nat.mul_le_mul_left _ (Nat.pow_le_pow_right (by decide) hl)
  omega

/-! ### nested rows taken apart -/
theorem nst_shift {p h : Int} : ∀ {r : List Int} {d : Int}, nst p h r d = true → ∀ (x : List Int) (e : Int), 0 ≤ e → nst p h (r ++ x) (d + e) = nst p h x e
  | [], d, hd, x, e, he => by
    simp [nst] at hd
    subst hd
    simp
  | s :: r, d, hd, x, e, he => by
    rw [nst] at hd
    rw [List.cons_append, nst]
    split at hd
    · cases hd
    next h1 =>
    rw [if_neg h1]
    split at hd
    next h2 =>
      simp at hd
      rw [if_pos h2, show d + e - 1 = (d - 1) + e by omega, nst_shift hd.2 x e he]
      have : 0 ≤ d - 1 + e := by omega
      simp only [this, decide_true, Bool.true_and]
    next h2 =>
      rw [if_neg h2]
      split at hd
      next h3 => rw [if_pos h3, show d + e + 1 = (d + 1) + e by omega, nst_shift hd x e he]
      next h3 => rw [if_neg h3, nst_shift hd x e he]
theorem bal_of {p h : Int} {r : List Int} (hr : nst p h r 0 = true) : bal p h r := fun x e he => by
  have := nst_shift hr x e he
  rwa [Int.zero_add] at this
theorem bal_app {p h : Int} {a b : List Int} (ha : bal p h a) (hb : bal p h b) : bal p h (a ++ b) := fun r e he => by
  rw [List.append_assoc, ha _ e he, hb r e he]
/-- a sign, or a call with its row and the end -/
def itemR (p h : Int) (x : Int × List Int) : List Int := if p ≤ x.1 then x.1 :: (x.2 ++ [p + h]) else [x.1]
def itemOk (p h : Int) (x : Int × List Int) : Prop := 0 ≤ x.1 ∧ x.1 < p + h ∧ (p ≤ x.1 → bal p h x.2)
theorem item_bal {p h : Int} {x : Int × List Int} (k : itemOk p h x) : bal p h (itemR p h x) := by
  obtain ⟨k0, k1, k2⟩ := k
  intro r e he
  unfold itemR
  split
  · next q =>
    rw [List.cons_append, List.append_assoc, nst, if_neg (by omega), if_neg (by omega), if_pos q, k2 q _ _ (by omega), List.singleton_append, nst, if_neg (by omega), if_pos rfl]
    have : (0 ≤ e + 1 - 1) := by omega
    simp only [this, decide_true, Bool.true_and]
    rw [show e + 1 - 1 = e by omega]
  · next q =>
    rw [List.singleton_append, nst, if_neg (by omega), if_neg (by omega), if_neg q]
theorem items_bal {p h : Int} {l : List (Int × List Int)} (H : ∀ x ∈ l, itemOk p h x) : bal p h (l.flatMap (itemR p h)) := by
  induction l with
  | nil => intro r e he; simp
  | cons x l ih => rw [List.flatMap_cons]; exact bal_app (item_bal (H x (by simp))) (ih fun y hy => H y (by simp [hy]))
/-- up to the end that closes depth d -/
theorem nst_close1 {p h : Int} (h0 : 0 < p + h) : ∀ (n : Nat) (r : List Int) (d : Int), r.length ≤ n → 0 ≤ d → nst p h r (d + 1) = true → ∃ a b, r = a ++ (p + h) :: b ∧ nst p h a 0 = true ∧ nst p h b d = true := by
  intro n
  induction n with
  | zero =>
    intro r d hl hd hr
    have : r = [] := List.eq_nil_of_length_eq_zero (by omega)
    subst this
    simp [nst] at hr
    omega
  | succ n ih =>
    intro r d hl hd hr
    cases r with
    | nil => simp [nst] at hr; omega
    | cons s r =>
      simp at hl
      rw [nst] at hr
      split at hr
      · cases hr
      next h1 =>
      split at hr
      next h2 =>
        simp at hr
        refine ⟨[], r, by rw [h2]; rfl, by simp [nst], ?_⟩
        exact hr.2
      next h2 =>
        split at hr
        next h3 =>
          -- an inner call: its own close, then ours
          obtain ⟨a1, b1, e1, n1, m1⟩ := ih r (d + 1) hl (by omega) hr
          have lb : b1.length ≤ n := by rw [e1] at hl; simp at hl; omega
          obtain ⟨a2, b2, e2, n2, m2⟩ := ih b1 d lb hd m1
          refine ⟨s :: (a1 ++ (p + h) :: a2), b2, by rw [e1, e2]; simp, ?_, m2⟩
          have k : itemOk p h (s, a1) := ⟨by omega, by omega, fun _ => bal_of n1⟩
          have := item_bal k a2 0 (by omega)
          unfold itemR at this
          rw [if_pos h3] at this
          simp at this
          rw [this]
          exact n2
        next h3 =>
          obtain ⟨a1, b1, e1, n1, m1⟩ := ih r d hl hd hr
          refine ⟨s :: a1, b1, by rw [e1]; rfl, ?_, m1⟩
          rw [nst, if_neg h1, if_neg h2, if_neg h3]
          exact n1
theorem decomp {p h : Int} (h0 : 0 < p + h) : ∀ (n : Nat) (r : List Int), r.length ≤ n → nst p h r 0 = true → ∃ l : List (Int × List Int), r = l.flatMap (itemR p h) ∧ ∀ x ∈ l, itemOk p h x ∧ (p ≤ x.1 → x.2.length < r.length) := by
  intro n
  induction n with
  | zero =>
    intro r hl hr
    exact ⟨[], by rw [List.eq_nil_of_length_eq_zero (by omega : r.length = 0)]; rfl, fun x hx => by cases hx⟩
  | succ n ih =>
    intro r hl hr
    cases r with
    | nil => exact ⟨[], rfl, fun x hx => by cases hx⟩
    | cons s r =>
      simp at hl
      rw [nst] at hr
      split at hr
      · cases hr
      next h1 =>
      split at hr
      next h2 => simp at hr
      next h2 =>
        split at hr
        next h3 =>
          obtain ⟨a, b, e, na, nb⟩ := nst_close1 h0 r.length r 0 (Nat.le_refl _) (by omega) hr
          have lb : b.length ≤ n := by rw [e] at hl; simp at hl; omega
          obtain ⟨l, el, hl2⟩ := ih b lb nb
          refine ⟨(s, a) :: l, ?_, ?_⟩
          · rw [List.flatMap_cons, ← el, e]
            simp [itemR, h3]
          · intro x hx
            rcases List.mem_cons.mp hx with rfl | hx
            · refine ⟨⟨by simp only; omega, by simp only; omega, fun _ => bal_of na⟩, fun _ => ?_⟩
              rw [e]; simp; omega
            · obtain ⟨k1, k2⟩ := hl2 x hx
              refine ⟨k1, fun q => ?_⟩
              have := k2 q
              rw [e]; simp; omega
        next h3 =>
          obtain ⟨l, el, hl2⟩ := ih r hl hr
          refine ⟨(s, []) :: l, ?_, ?_⟩
          · rw [List.flatMap_cons, ← el]
            simp [itemR, h3]
          · intro x hx
            rcases List.mem_cons.mp hx with rfl | hx
            · exact ⟨⟨by simp only; omega, by simp only; omega, fun q => absurd q h3⟩, fun q => absurd q h3⟩
            · obtain ⟨k1, k2⟩ := hl2 x hx
              exact ⟨k1, fun q => by have := k2 q; simp; omega⟩
def itemP (p h : Int) (x : Int × List Int) : List (Int × List Int) := if p ≤ x.1 then ptsOf p h x.2 (x.1 - p) else []
theorem pst_items {p h t : Int} : ∀ (l : List (Int × List Int)), (∀ x ∈ l, itemOk p h x) → ∀ (due : List (Int × List Int)) (w : List Int),
    pst p h (l.flatMap (itemR p h)) ⟨due, [t], [w]⟩ = ⟨due ++ l.flatMap (itemP p h), [t], [w ++ l.map Prod.fst]⟩
  | [], _, due, w => by simp [pst]
  | x :: l, H, due, w => by
    obtain ⟨k0, k1, k2⟩ := H x (by simp)
    have ih := pst_items (t := t) l fun y hy => H y (by simp [hy])
    rw [List.flatMap_cons, List.flatMap_cons]
    have n1 : ¬ x.1 = p + h := by omega
    by_cases q : p ≤ x.1
    · have hb := k2 q
      obtain ⟨U, v, hr⟩ := pst_bot (t := x.1 - p) hb.nst
      have run := pst_run ((p + h) :: l.flatMap (itemR p h)) x.2 ⟨[], [x.1 - p], [[]]⟩ due [t] [w ++ [x.1]] (by simpa using hb.nst) rfl (by simp)
      rw [hr] at run
      simp at run
      simp [itemR, itemP, q, ptsOf, hr, pst, n1]
      rw [run]
      simp [pst]
      rw [ih]
      simp
    · simp [itemR, itemP, q, pst, n1]
      rw [ih]
      simp
theorem pts_items {p h t : Int} {l : List (Int × List Int)} (H : ∀ x ∈ l, itemOk p h x) : ptsOf p h (l.flatMap (itemR p h)) t = l.flatMap (itemP p h) ++ [(t, l.map Prod.fst)] := by
  unfold ptsOf
  rw [pst_items l H [] []]
  simp

/-! ### rows by letters -/
def rowO (R : List (Option (List Int))) (j : Int) : Option (List Int) := (R[j.toNat]?).join
def mk (p h : Int) (R : List (Option (List Int))) (l : Int) : Option (List Int) := if p ≤ l then (rowO R (l - p)).map fun r => l :: (r ++ [p + h]) else some [l]
def cat (M : Int → Option (List Int)) : List Int → Option (List Int)
  | [] => some []
  | l :: w => match M l, cat M w with
    | some a, some b => some (a ++ b)
    | _, _ => none
theorem cat_cons {M : Int → Option (List Int)} {l : Int} {w r : List Int} (h : cat M (l :: w) = some r) : ∃ a b, M l = some a ∧ cat M w = some b ∧ r = a ++ b := by
  rw [cat] at h
  split at h
  · rename_i a b e1 e2
    cases h
    exact ⟨a, b, e1, e2, rfl⟩
  · cases h
theorem cat_cons' {M : Int → Option (List Int)} {l : Int} {w a b : List Int} (h1 : M l = some a) (h2 : cat M w = some b) : cat M (l :: w) = some (a ++ b) := by
  rw [cat, h1, h2]
theorem cat_app {M : Int → Option (List Int)} : ∀ {u v a b : List Int}, cat M u = some a → cat M v = some b → cat M (u ++ v) = some (a ++ b)
  | [], v, a, b, h1, h2 => by
    rw [cat] at h1; cases h1
    exact h2
  | l :: u, v, a, b, h1, h2 => by
    obtain ⟨x, y, e1, e2, rfl⟩ := cat_cons h1
    rw [List.cons_append, cat_cons' e1 (cat_app e2 h2), List.append_assoc]
theorem cat_split {M : Int → Option (List Int)} : ∀ {u v r : List Int}, cat M (u ++ v) = some r → ∃ a b, cat M u = some a ∧ cat M v = some b ∧ r = a ++ b
  | [], v, r, h => ⟨[], r, rfl, h, rfl⟩
  | l :: u, v, r, h => by
    obtain ⟨x, y, e1, e2, rfl⟩ := cat_cons h
    obtain ⟨a, b, e3, e4, rfl⟩ := cat_split e2
    exact ⟨x ++ a, b, cat_cons' e1 e3, e4, by rw [List.append_assoc]⟩
/-- what a works answers to a nested row -/
def accOf' (p : Int) (Hs : List House) (row : List Int) (t : Int) : Bool := (ptsOf p Hs.length row t).all fun x => (Hs.getD x.1.toNat ⟨[], []⟩).mark ((Hs.getD x.1.toNat ⟨[], []⟩).walk 0 x.2) != 0
def hsAt (Hs : List House) (t : Int) : House := Hs.getD t.toNat ⟨[], []⟩
theorem accOf_items {p t : Int} {Hs : List House} {l : List (Int × List Int)} (H : ∀ x ∈ l, itemOk p Hs.length x) :
    accOf' p Hs (l.flatMap (itemR p Hs.length)) t = ((l.all fun x => !decide (p ≤ x.1) || accOf' p Hs x.2 (x.1 - p)) && (hsAt Hs t).mark ((hsAt Hs t).walk 0 (l.map Prod.fst)) != 0) := by
  unfold accOf'
  rw [pts_items H, List.all_append, List.all_flatMap]
  congr 1
  · congr 1
    funext x
    unfold itemP
    by_cases q : p ≤ x.1
    · simp [q]
    · simp [q]
  · simp [hsAt]
theorem row_wok {p h : Int} {r : List Int} (ph : p + h ≤ 6) (hr : nst p h r 0 = true) : wok r := fun d hd => by
  have := nst_mem hr d hd
  omega
structure RowsOk (p : Int) (Hs : List House) (R : List (Option (List Int))) : Prop where
  bal : ∀ j r, 0 ≤ j → rowO R j = some r → nst p Hs.length r 0 = true
  acc : ∀ j r, 0 ≤ j → rowO R j = some r → accOf' p Hs r j = true
/-- the items of a word of letters -/
def itOf (p : Int) (R : List (Option (List Int))) (l : Int) : Int × List Int := (l, if p ≤ l then (rowO R (l - p)).getD [] else [])
theorem cat_items {p : Int} {Hs : List House} {R : List (Option (List Int))} (k : RowsOk p Hs R) : ∀ {w r : List Int}, (∀ l ∈ w, 0 ≤ l ∧ l < p + Hs.length) → cat (mk p Hs.length R) w = some r →
    r = (w.map (itOf p R)).flatMap (itemR p Hs.length) ∧ ∀ x ∈ w.map (itOf p R), itemOk p Hs.length x ∧ (p ≤ x.1 → accOf' p Hs x.2 (x.1 - p) = true)
  | [], r, _, h => by
    rw [cat] at h; cases h
    exact ⟨rfl, fun x hx => by cases hx⟩
  | l :: w, r, hw, h => by
    obtain ⟨a, b, e1, e2, rfl⟩ := cat_cons h
    obtain ⟨i1, i2⟩ := cat_items k (fun x hx => hw x (by simp [hx])) e2
    have hl := hw l (by simp)
    rw [List.map_cons, List.flatMap_cons, ← i1]
    unfold mk at e1
    by_cases q : p ≤ l
    · rw [if_pos q] at e1
      cases hr : rowO R (l - p) with
      | none => rw [hr] at e1; cases e1
      | some r =>
        rw [hr] at e1
        have e1 : some (l :: (r ++ [p + (Hs.length : Int)])) = some a := e1
        cases e1
        refine ⟨by simp [itemR, itOf, q, hr], fun x hx => ?_⟩
        rcases List.mem_cons.mp hx with rfl | hx
        · have n := k.bal (l - p) r (by omega) hr
          have ac := k.acc (l - p) r (by omega) hr
          simp only [itOf, if_pos q, hr, Option.getD_some]
          exact ⟨⟨hl.1, hl.2, fun _ => bal_of n⟩, fun _ => ac⟩
        · exact i2 x hx
    · rw [if_neg q] at e1
      cases e1
      refine ⟨by simp [itemR, itOf, q], fun x hx => ?_⟩
      rcases List.mem_cons.mp hx with rfl | hx
      · exact ⟨⟨hl.1, hl.2, fun z => absurd z q⟩, fun z => absurd z q⟩
      · exact i2 x hx
/-- a word of letters that a house takes: a nested row that is accepted -/
theorem cat_good {p t : Int} {Hs : List House} {R : List (Option (List Int))} (k : RowsOk p Hs R) {w r : List Int} (hw : ∀ l ∈ w, 0 ≤ l ∧ l < p + Hs.length) (hc : cat (mk p Hs.length R) w = some r) (hm : (hsAt Hs t).mark ((hsAt Hs t).walk 0 w) ≠ 0) :
    nst p Hs.length r 0 = true ∧ accOf' p Hs r t = true := by
  obtain ⟨e, i⟩ := cat_items k hw hc
  have b := items_bal fun x hx => (i x hx).1
  rw [← e] at b
  refine ⟨b.nst, ?_⟩
  rw [e, accOf_items fun x hx => (i x hx).1]
  have mf : (w.map (itOf p R)).map Prod.fst = w := by
    rw [List.map_map]
    have : (Prod.fst ∘ itOf p R) = id := by funext l; rfl
    rw [this, List.map_id]
  rw [mf, Bool.and_eq_true]
  refine ⟨List.all_eq_true.mpr fun x hx => ?_, by simpa using hm⟩
  by_cases q : p ≤ x.1
  · simp [(i x hx).2 q]
  · simp [q]
/-- the rows are least among all nested rows that are accepted -/
theorem least {p : Int} {Hs : List House} {R : List (Option (List Int))} (ph : p + Hs.length ≤ 6) (p0 : 1 ≤ p) (k : RowsOk p Hs R)
    (C : ∀ (t : Int) (w r : List Int), 0 ≤ t → t < Hs.length → (∀ l ∈ w, 0 ≤ l ∧ l < p + Hs.length) → cat (mk p Hs.length R) w = some r → (hsAt Hs t).mark ((hsAt Hs t).walk 0 w) ≠ 0 → ∃ s, rowO R t = some s ∧ val s ≤ val r) :
    ∀ (n : Nat) (r : List Int) (t : Int), r.length ≤ n → nst p Hs.length r 0 = true → accOf' p Hs r t = true → 0 ≤ t → t < Hs.length → ∃ s, rowO R t = some s ∧ val s ≤ val r := by
  intro n
  induction n with
  | zero =>
    intro r t hl hr ha t0 t1
    have e : r = [] := List.eq_nil_of_length_eq_zero (by omega)
    subst e
    have hm : (hsAt Hs t).mark ((hsAt Hs t).walk 0 []) ≠ 0 := by
      have := accOf_items (p := p) (t := t) (Hs := Hs) (l := []) (fun x hx => by cases hx)
      rw [List.flatMap_nil, ha] at this
      simpa using this.symm
    exact C t [] [] t0 t1 (fun l hl => by cases hl) rfl hm
  | succ n ih =>
    intro r t hl hr ha t0 t1
    obtain ⟨l, e, hi⟩ := decomp (h := Hs.length) (by omega) r.length r (Nat.le_refl _) hr
    have hok : ∀ x ∈ l, itemOk p Hs.length x := fun x hx => (hi x hx).1
    have ha' := ha
    rw [e, accOf_items hok, Bool.and_eq_true] at ha'
    obtain ⟨ha1, ha2⟩ := ha'
    have ha1 := List.all_eq_true.mp ha1
    have inner : ∀ x ∈ l, p ≤ x.1 → ∃ s, rowO R (x.1 - p) = some s ∧ val s ≤ val x.2 := by
      intro x hx q
      obtain ⟨⟨k0, k1, k2⟩, k3⟩ := hi x hx
      have := ha1 x hx
      simp [q] at this
      exact ih x.2 (x.1 - p) (by have := k3 q; omega) (k2 q).nst this (by omega) (by omega)
    have key : ∀ l' : List (Int × List Int), (∀ x ∈ l', x ∈ l) → ∃ r', cat (mk p Hs.length R) (l'.map Prod.fst) = some r' ∧ val r' ≤ val (l'.flatMap (itemR p Hs.length)) ∧ wok r' ∧ wok (l'.flatMap (itemR p Hs.length)) := by
      intro l'
      induction l' with
      | nil => intro _; exact ⟨[], rfl, Nat.le_refl _, (fun d hd => by cases hd), (fun d hd => by cases hd)⟩
      | cons x l' ih2 =>
        intro hm
        obtain ⟨r', c1, c2, c3, c4⟩ := ih2 fun y hy => hm y (by simp [hy])
        have hx := hm x (by simp)
        obtain ⟨k0, k1, k2⟩ := hok x hx
        have one : ∃ a, mk p Hs.length R x.1 = some a ∧ val a ≤ val (itemR p Hs.length x) ∧ wok a ∧ wok (itemR p Hs.length x) := by
          have wi : wok (itemR p Hs.length x) := row_wok ph (item_bal (hok x hx)).nst
          by_cases q : p ≤ x.1
          · obtain ⟨s, s1, s2⟩ := inner x hx q
            have ws : wok s := row_wok ph (k.bal _ _ (by omega) s1)
            have wx : wok x.2 := row_wok ph (k2 q).nst
            refine ⟨x.1 :: (s ++ [p + (Hs.length : Int)]), by unfold mk; rw [if_pos q, s1]; rfl, ?_, ?_, wi⟩
            · unfold itemR
              rw [if_pos q]
              have a1 := val_appR [p + (Hs.length : Int)] s2
              have wz : wok [p + (Hs.length : Int)] := fun d hd => by rw [List.mem_singleton.mp hd]; omega
              exact val_appL (wok_app.mpr ⟨ws, wz⟩) (wok_app.mpr ⟨wx, wz⟩) [x.1] a1
            · intro d hd
              rcases List.mem_cons.mp hd with rfl | hd
              · omega
              · rcases List.mem_append.mp hd with hd | hd
                · exact ws d hd
                · rw [List.mem_singleton.mp hd]; omega
          · refine ⟨[x.1], by unfold mk; rw [if_neg q], by unfold itemR; rw [if_neg q]; exact Nat.le_refl _, fun d hd => by rw [List.mem_singleton.mp hd]; omega, wi⟩
        obtain ⟨a, a1, a2, a3, a4⟩ := one
        rw [List.map_cons, List.flatMap_cons]
        refine ⟨a ++ r', cat_cons' a1 c1, ?_, wok_app.mpr ⟨a3, c3⟩, wok_app.mpr ⟨a4, c4⟩⟩
        exact Nat.le_trans (val_appR r' a2) (val_appL c3 c4 _ c2)
    obtain ⟨r', c1, c2, _, _⟩ := key l fun x hx => hx
    obtain ⟨s, s1, s2⟩ := C t (l.map Prod.fst) r' t0 t1 (fun y hy => by
      obtain ⟨x, hx, rfl⟩ := List.mem_map.mp hy
      exact ⟨(hok x hx).1, (hok x hx).2.1⟩) c1 (by simpa using ha2)
    exact ⟨s, s1, by rw [e]; omega⟩

/-- letters that are good, by words of good letters: every row that is accepted has its letter good -/
theorem good_all {p : Int} {Hs : List House} {G : Int → Prop} (p0 : 1 ≤ p)
    (C : ∀ (t : Int) (w : List Int), 0 ≤ t → t < Hs.length → (∀ l ∈ w, (0 ≤ l ∧ l < p + Hs.length) ∧ (p ≤ l → G l)) → (hsAt Hs t).mark ((hsAt Hs t).walk 0 w) ≠ 0 → G (p + t)) :
    ∀ (n : Nat) (r : List Int) (t : Int), r.length ≤ n → nst p Hs.length r 0 = true → accOf' p Hs r t = true → 0 ≤ t → t < Hs.length → G (p + t) := by
  intro n
  induction n with
  | zero =>
    intro r t hl hr ha t0 t1
    have e : r = [] := List.eq_nil_of_length_eq_zero (by omega)
    subst e
    have hm : (hsAt Hs t).mark ((hsAt Hs t).walk 0 []) ≠ 0 := by
      have := accOf_items (p := p) (t := t) (Hs := Hs) (l := []) (fun x hx => by cases hx)
      rw [List.flatMap_nil, ha] at this
      simpa using this.symm
    exact C t [] t0 t1 (fun l hl => by cases hl) hm
  | succ n ih =>
    intro r t hl hr ha t0 t1
    obtain ⟨l, e, hi⟩ := decomp (h := Hs.length) (by omega) r.length r (Nat.le_refl _) hr
    have hok : ∀ x ∈ l, itemOk p Hs.length x := fun x hx => (hi x hx).1
    rw [e, accOf_items hok, Bool.and_eq_true] at ha
    obtain ⟨ha1, ha2⟩ := ha
    have ha1 := List.all_eq_true.mp ha1
    refine C t (l.map Prod.fst) t0 t1 (fun y hy => ?_) (by simpa using ha2)
    obtain ⟨x, hx, rfl⟩ := List.mem_map.mp hy
    obtain ⟨⟨k0, k1, k2⟩, k3⟩ := hi x hx
    refine ⟨⟨k0, k1⟩, fun q => ?_⟩
    have := ha1 x hx
    simp [q] at this
    have g := ih x.2 (x.1 - p) (by have := k3 q; omega) (k2 q).nst this (by omega) (by omega)
    rwa [show p + (x.1 - p) = x.1 by omega] at g
/-! ### a row or none -/
def rowD : Option (List Int) → D
  | some w => .tup (w.map D.i)
  | none => .v .non
@[simp] theorem imm_rowD {o : Option (List Int)} : imm (rowD o) = true := by cases o <;> simp [rowD]
@[simp] theorem dok_rowD {n : Nat} {o : Option (List Int)} : dok (n + 1) (rowD o) = true := by cases o <;> simp [rowD]
@[simp] theorem rowD_some {w : List Int} : rowD (some w) = .tup (w.map D.i) := rfl
@[simp] theorem rowD_none : rowD none = .v .non := rfl
theorem deqs_ints : ∀ {u v : List Int}, deqs (u.map D.i) (v.map D.i) = decide (u = v)
  | [], [] => by simp
  | a :: u, b :: v => by
    rw [List.map_cons, List.map_cons, deqs_cons, deqs_ints, deq_i]
    by_cases h1 : a = b
    · by_cases h2 : u = v
      · simp [h1, h2]
      · simp [h1, h2]
    · simp [h1]
  | [], b :: v => by rw [List.map_nil, List.map_cons, deqs] <;> simp
  | a :: u, [] => by rw [List.map_nil, List.map_cons, deqs] <;> simp
theorem deq_rowD {a b : Option (List Int)} : deq (rowD a) (rowD b) = decide (a = b) := by
  cases a <;> cases b <;> simp [deqs_ints]
def lsr (a b : Option (List Int)) : Option (List Int) := match a, b with
  | none, b => b
  | some a, none => some a
  | some a, some b => if val b < val a then some b else some a
/-! ### rows to rooms -/
/-- what the found rows are, ahead of and within the rounds -/
structure FInv (H : House) (L : Int) (M : Int → Option (List Int)) (mx : Nat) (F : List (Option (List Int))) : Prop where
  len : F.length = H.marks.length
  zero : ∃ s, rowO F 0 = some s ∧ val s = 0
  real : ∀ room r, 0 ≤ room → rowO F room = some r → ∃ w, (∀ l ∈ w, 0 ≤ l ∧ l < L) ∧ cat M w = some r ∧ H.walk 0 w = room
  wok : ∀ r, some r ∈ F → wok r
  short : ∀ r, some r ∈ F → r.length + mx ≤ (F.filter fun o => o.isSome).length * mx
def muO (B : Nat) (o : Option (List Int)) : Nat := match o with
  | none => B
  | some r => val r
def mu (B : Nat) (F : List (Option (List Int))) : Nat := (F.map (muO B)).sum
/-- one pair of room and letter -/
def relax (H : House) (M : Int → Option (List Int)) (F : List (Option (List Int))) (room l : Int) : List (Option (List Int)) := match rowO F room, M l with
  | some u, some m => F.set (H.go room l).toNat (lsr (rowO F (H.go room l)) (some (u ++ m)))
  | _, _ => F
def closedAt (H : House) (M : Int → Option (List Int)) (F : List (Option (List Int))) (room l : Int) : Prop := ∀ u m, rowO F room = some u → M l = some m → ∃ s, rowO F (H.go room l) = some s ∧ val s ≤ val (u ++ m)
theorem sum_set {B : Nat} : ∀ {F : List (Option (List Int))} {k : Nat} {o o' : Option (List Int)}, F[k]? = some o → mu B (F.set k o') + muO B o = mu B F + muO B o'
  | [], k, o, o', h => by simp at h
  | x :: F, 0, o, o', h => by
    have : x = o := by simpa using h
    subst this
    simp [mu]; omega
  | x :: F, k + 1, o, o', h => by
    have := sum_set (B := B) (F := F) (k := k) (o' := o') (by simpa using h)
    simp [mu] at this ⊢
    omega
theorem rowO_set {F : List (Option (List Int))} {i j : Int} {o : Option (List Int)} (i0 : 0 ≤ i) (j0 : 0 ≤ j) (hi : i < F.length) : rowO (F.set i.toNat o) j = if j = i then o else rowO F j := by
  unfold rowO
  by_cases h : j = i
  · subst h
    rw [if_pos rfl, List.getElem?_set_self (by omega)]
    rfl
  · rw [if_neg h, List.getElem?_set_ne (by omega)]
theorem rowO_get {F : List (Option (List Int))} {i : Int} (i0 : 0 ≤ i) (hi : i < F.length) : F[i.toNat]? = some (rowO F i) := by
  unfold rowO
  have : i.toNat < F.length := by omega
  simp [this]
theorem filter_set : ∀ {F : List (Option (List Int))} {k : Nat} {r : List Int}, k < F.length → (F.filter fun o => o.isSome).length ≤ ((F.set k (some r)).filter fun o => o.isSome).length ∧ (F[k]? = some none → ((F.set k (some r)).filter fun o => o.isSome).length = (F.filter fun o => o.isSome).length + 1)
  | [], k, r, h => by simp at h
  | x :: F, 0, r, h => by
    cases x <;> simp
  | x :: F, k + 1, r, h => by
    obtain ⟨h1, h2⟩ := filter_set (F := F) (k := k) (r := r) (by simpa using h)
    cases x with
    | none => simpa using ⟨h1, h2⟩
    | some y =>
      simp
      refine ⟨h1, fun e => ?_⟩
      exact h2 e
/-- a pair either turns nothing, and then it is closed, or makes the rows smaller -/
theorem relax_ok {H : House} {L : Int} {M : Int → Option (List Int)} {mx : Nat} {F : List (Option (List Int))} {room l : Int} {B : Nat} (k : H.ok L) (hM : ∀ l m, 0 ≤ l → l < L → M l = some m → wok m ∧ m.length ≤ mx) (hB : 8 ^ (H.marks.length * mx) ≤ B) (I : FInv H L M mx F) (r0 : 0 ≤ room) (r1 : room < H.marks.length) (l0 : 0 ≤ l) (l1 : l < L) :
    (relax H M F room l = F ∧ closedAt H M F room l) ∨ (FInv H L M mx (relax H M F room l) ∧ mu B (relax H M F room l) < mu B F) := by
  obtain ⟨_, g2, g3⟩ := dIx_go k r0 r1 l0 l1
  have hl := I.len
  have gl : H.go room l < F.length := by omega
  have rl : room < F.length := by omega
  unfold relax
  cases hu : rowO F room with
  | none => exact .inl ⟨rfl, fun u m e => by rw [hu] at e; cases e⟩
  | some u =>
    cases hm : M l with
    | none => exact .inl ⟨rfl, fun u m _ e => by rw [hm] at e; cases e⟩
    | some m =>
      simp only
      obtain ⟨wm, lm⟩ := hM l m l0 l1 hm
      have mu_ : some u ∈ F := List.mem_of_getElem? (by rw [rowO_get r0 rl, hu])
      have wu := I.wok u mu_
      have su := I.short u mu_
      have wn : wok (u ++ m) := wok_app.mpr ⟨wu, wm⟩
      have hget := rowO_get g2 gl
      -- the new row is put there, when it is smaller
      have put : muO B (some (u ++ m)) < muO B (rowO F (H.go room l)) → ((rowO F (H.go room l) = none) ∨ ∃ s, rowO F (H.go room l) = some s ∧ val (u ++ m) < val s) →
          FInv H L M mx (F.set (H.go room l).toNat (some (u ++ m))) ∧ mu B (F.set (H.go room l).toNat (some (u ++ m))) < mu B F := by
        intro hlt hcase
        have hsum := sum_set (B := B) (o' := some (u ++ m)) hget
        obtain ⟨f1, f2⟩ := filter_set (F := F) (k := (H.go room l).toNat) (r := u ++ m) (by omega)
        refine ⟨⟨by rw [List.length_set, hl], ?_, ?_, ?_, ?_⟩, by omega⟩
        · obtain ⟨s, s1, s2⟩ := I.zero
          rw [rowO_set g2 (by decide) gl]
          split
          · next e =>
            rcases hcase with hn | ⟨s', s3, s4⟩
            · rw [← e, s1] at hn; cases hn
            · rw [← e, s1] at s3; cases s3; omega
          · exact ⟨s, s1, s2⟩
        · intro rm r h0 hr
          rw [rowO_set g2 h0 gl] at hr
          split at hr
          · next e =>
            cases hr
            obtain ⟨w, w1, w2, w3⟩ := I.real room u r0 hu
            refine ⟨w ++ [l], fun x hx => ?_, cat_app w2 (by rw [cat, hm, cat]; simp), ?_⟩
            · rcases List.mem_append.mp hx with hx | hx
              · exact w1 x hx
              · rw [List.mem_singleton.mp hx]; exact ⟨l0, l1⟩
            · rw [e]
              unfold House.walk at w3 ⊢
              rw [List.foldl_append, w3]
              rfl
          · exact I.real rm r h0 hr
        · intro r hr
          rcases List.mem_or_eq_of_mem_set hr with h1 | h1
          · exact I.wok r h1
          · cases h1; exact wn
        · intro r hr
          rcases List.mem_or_eq_of_mem_set hr with h1 | h1
          · exact Nat.le_trans (I.short r h1) (Nat.mul_le_mul_right _ f1)
          · cases h1
            rcases hcase with hn | ⟨s, s3, s4⟩
            · rw [f2 (by rw [hget, hn]), Nat.add_mul, List.length_append]
              omega
            · have ms : some s ∈ F := List.mem_of_getElem? (by rw [hget, s3])
              have := len_le wn (I.wok s ms) (by omega)
              exact Nat.le_trans (Nat.add_le_add_right this mx) (Nat.le_trans (I.short s ms) (Nat.mul_le_mul_right _ f1))
      cases ht : rowO F (H.go room l) with
      | none =>
        refine .inr (put ?_ (.inl ht))
        rw [ht]
        show val (u ++ m) < B
        have h1 := val_lt wn
        have cnt : (F.filter fun o => o.isSome).length + 1 ≤ H.marks.length := by
          obtain ⟨f1, f2⟩ := filter_set (F := F) (k := (H.go room l).toNat) (r := u ++ m) (by omega)
          have := f2 (by rw [hget, ht])
          have h3 := List.length_filter_le (fun o : Option (List Int) => o.isSome) (F.set (H.go room l).toNat (some (u ++ m)))
          rw [List.length_set] at h3
          omega
        have h2 : (u ++ m).length ≤ H.marks.length * mx := by
          rw [List.length_append]
          have : ((F.filter fun o => o.isSome).length + 1) * mx ≤ H.marks.length * mx := Nat.mul_le_mul_right _ cnt
          rw [Nat.add_mul] at this
          omega
        have h3 : 8 ^ (u ++ m).length ≤ 8 ^ (H.marks.length * mx) := Nat.pow_le_pow_right (by decide) h2
        omega
      | some s =>
        unfold lsr
        by_cases hlt : val (u ++ m) < val s
        · simp only [if_pos hlt]
          exact .inr (put (by rw [ht]; exact hlt) (.inr ⟨s, ht, hlt⟩))
        · simp only [if_neg hlt]
          refine .inl ⟨?_, fun u' m' e1 e2 => ?_⟩
          · have : F.set (H.go room l).toNat (some s) = F := by
              rw [← ht]
              apply List.ext_getElem?
              intro j
              by_cases hj : j = (H.go room l).toNat
              · subst hj
                rw [List.getElem?_set_self (by omega), hget]
              · rw [List.getElem?_set_ne (Ne.symm hj)]
            exact this
          · rw [hu] at e1; cases e1
            rw [hm] at e2; cases e2
            exact ⟨s, ht, by omega⟩
/-- all pairs closed: least rows -/
theorem closed_least {H : House} {L : Int} {M : Int → Option (List Int)} {mx : Nat} {F : List (Option (List Int))} (k : H.ok L) (I : FInv H L M mx F) (hc : ∀ room l : Int, 0 ≤ room → room < H.marks.length → 0 ≤ l → l < L → closedAt H M F room l) :
    ∀ (n : Nat) (w r : List Int), w.length = n → (∀ l ∈ w, 0 ≤ l ∧ l < L) → cat M w = some r → ∃ s, rowO F (H.walk 0 w) = some s ∧ val s ≤ val r := by
  intro n
  induction n with
  | zero =>
    intro w r hw _ hr
    have e : w = [] := List.eq_nil_of_length_eq_zero hw
    subst e
    obtain ⟨s, s1, s2⟩ := I.zero
    exact ⟨s, s1, by omega⟩
  | succ n ih =>
    intro w r hw hl hr
    obtain ⟨v, x, rfl⟩ : ∃ v x, w = v ++ [x] := ⟨w.dropLast, w.getLast (fun e => by rw [e] at hw; simp at hw), (List.dropLast_concat_getLast _).symm⟩
    obtain ⟨a, b, e1, e2, rfl⟩ := cat_split hr
    obtain ⟨m, b', m1, m2, rfl⟩ := cat_cons e2
    rw [cat] at m2
    cases m2
    have hv : ∀ l ∈ v, 0 ≤ l ∧ l < L := fun l h => hl l (by simp [h])
    obtain ⟨u, u1, u2⟩ := ih v a (by simpa using hw) hv e1
    have p0 : (0 : Int) < H.marks.length := by have := k.pos; omega
    have wi := walk_in k v 0 (by decide) p0 hv
    have hx := hl x (by simp)
    obtain ⟨s, s1, s2⟩ := hc (H.walk 0 v) x wi.1 wi.2 hx.1 hx.2 u m u1 m1
    have e : H.walk 0 (v ++ [x]) = H.go (H.walk 0 v) x := by unfold House.walk; rw [List.foldl_append]; rfl
    rw [e, List.append_nil]
    exact ⟨s, s1, Nat.le_trans s2 (val_appR m u2)⟩
/-- smaller rows of letters, smaller rows of words -/
theorem cat_le {M M' : Int → Option (List Int)} : ∀ {w r : List Int}, (∀ l ∈ w, ∀ m, M l = some m → wok m ∧ ∃ m', M' l = some m' ∧ val m' ≤ val m ∧ wok m') → cat M w = some r → wok r ∧ ∃ r', cat M' w = some r' ∧ val r' ≤ val r ∧ wok r'
  | [], r, _, h => by
    rw [cat] at h; cases h
    exact ⟨(fun d hd => by cases hd), [], rfl, Nat.le_refl _, fun d hd => by cases hd⟩
  | l :: w, r, hM, h => by
    obtain ⟨a, b, e1, e2, rfl⟩ := cat_cons h
    obtain ⟨wa, a', a1, a2, a3⟩ := hM l (by simp) a e1
    obtain ⟨wb, b', b1, b2, b3⟩ := cat_le (fun x hx => hM x (by simp [hx])) e2
    exact ⟨wok_app.mpr ⟨wa, wb⟩, a' ++ b', cat_cons' a1 b1, Nat.le_trans (val_appR b' a2) (val_appL b3 wb a b2), wok_app.mpr ⟨a3, b3⟩⟩
/-! ### rounds -/
/-- the best row of helper j over the letters that R makes -/
def Best (p : Int) (Hs : List House) (R : List (Option (List Int))) (j : Int) (o : Option (List Int)) : Prop :=
  (∀ r, o = some r → ∃ w, (∀ l ∈ w, 0 ≤ l ∧ l < p + Hs.length) ∧ cat (mk p Hs.length R) w = some r ∧ (hsAt Hs j).mark ((hsAt Hs j).walk 0 w) ≠ 0) ∧
  ∀ w r, (∀ l ∈ w, 0 ≤ l ∧ l < p + Hs.length) → cat (mk p Hs.length R) w = some r → (hsAt Hs j).mark ((hsAt Hs j).walk 0 w) ≠ 0 → ∃ s, o = some s ∧ val s ≤ val r
/-- o is there where a is, and no greater -/
def ole (o a : Option (List Int)) : Prop := ∀ s, a = some s → ∃ s', o = some s' ∧ val s' ≤ val s
theorem best_down {p : Int} {Hs : List House} {R R' : List (Option (List Int))} (ph : p + Hs.length ≤ 6) (p0 : 1 ≤ p) (wR : ∀ j r, 0 ≤ j → rowO R j = some r → wok r) (wR' : ∀ j r, 0 ≤ j → rowO R' j = some r → wok r)
    (hle : ∀ j : Int, 0 ≤ j → j < Hs.length → ole (rowO R' j) (rowO R j)) {j : Int} {o o' : Option (List Int)} (b : Best p Hs R j o) (b' : Best p Hs R' j o') : ole o' o := by
  intro s hs
  obtain ⟨w, w1, w2, w3⟩ := b.1 s hs
  obtain ⟨_, r', r1, r2, _⟩ := cat_le (M' := mk p Hs.length R') (fun l hl m hm => by
    have hl := w1 l hl
    unfold mk at hm ⊢
    by_cases q : p ≤ l
    · rw [if_pos q] at hm ⊢
      cases hr : rowO R (l - p) with
      | none => rw [hr] at hm; cases hm
      | some r =>
        rw [hr] at hm
        have hm : some (l :: (r ++ [p + (Hs.length : Int)])) = some m := hm
        cases hm
        obtain ⟨r', e1, e2⟩ := hle (l - p) (by omega) (by omega) r hr
        have wz : wok [p + (Hs.length : Int)] := fun d hd => by rw [List.mem_singleton.mp hd]; omega
        have wl : wok [l] := fun d hd => by rw [List.mem_singleton.mp hd]; omega
        have wr := wok_app.mpr ⟨wR _ _ (by omega) hr, wz⟩
        have wr' := wok_app.mpr ⟨wR' _ _ (by omega) e1, wz⟩
        refine ⟨wok_app.mpr ⟨wl, wr⟩, l :: (r' ++ [p + (Hs.length : Int)]), by rw [e1]; rfl, ?_, wok_app.mpr ⟨wl, wr'⟩⟩
        exact val_appL wr' wr [l] (val_appR _ e2)
    · rw [if_neg q] at hm ⊢
      cases hm
      have wl : wok [l] := fun d hd => by rw [List.mem_singleton.mp hd]; omega
      exact ⟨wl, [l], rfl, Nat.le_refl _, wl⟩) w2
  obtain ⟨s', e1, e2⟩ := b'.2 w r' w1 r1 w3
  exact ⟨s', e1, by omega⟩
end Gw

/-! GxQ: rows from rooms, helpers that are of use, uses as contexts. -/
namespace Gw
open PySem PySem.Spec PyProof.Rows L2
/-! ### rows from rooms -/
structure BInv (H : House) (L : Int) (M : Int → Option (List Int)) (mx : Nat) (F : List (Option (List Int))) : Prop where
  len : F.length = H.marks.length
  zero : ∀ room : Int, 0 ≤ room → room < H.marks.length → H.mark room ≠ 0 → ∃ s, rowO F room = some s
  real : ∀ room r, 0 ≤ room → rowO F room = some r → ∃ w, (∀ l ∈ w, 0 ≤ l ∧ l < L) ∧ cat M w = some r ∧ H.mark (H.walk room w) ≠ 0
  wok : ∀ r, some r ∈ F → wok r
  short : ∀ r, some r ∈ F → r.length ≤ (F.filter fun o => o.isSome).length * mx
def relaxB (H : House) (M : Int → Option (List Int)) (F : List (Option (List Int))) (room l : Int) : List (Option (List Int)) := match rowO F (H.go room l), M l with
  | some u, some m => F.set room.toNat (lsr (rowO F room) (some (m ++ u)))
  | _, _ => F
def closedB (H : House) (M : Int → Option (List Int)) (F : List (Option (List Int))) (room l : Int) : Prop := ∀ u m, rowO F (H.go room l) = some u → M l = some m → ∃ s, rowO F room = some s
theorem relaxB_ok {H : House} {L : Int} {M : Int → Option (List Int)} {mx : Nat} {F : List (Option (List Int))} {room l : Int} {B : Nat} (k : H.ok L) (hM : ∀ l m, 0 ≤ l → l < L → M l = some m → wok m ∧ m.length ≤ mx) (hB : 8 ^ (H.marks.length * mx) ≤ B) (I : BInv H L M mx F) (r0 : 0 ≤ room) (r1 : room < H.marks.length) (l0 : 0 ≤ l) (l1 : l < L) :
    (relaxB H M F room l = F ∧ closedB H M F room l) ∨ (BInv H L M mx (relaxB H M F room l) ∧ mu B (relaxB H M F room l) < mu B F) := by
  obtain ⟨_, g2, g3⟩ := dIx_go k r0 r1 l0 l1
  have hl := I.len
  have gl : H.go room l < F.length := by omega
  have rl : room < F.length := by omega
  unfold relaxB
  cases hu : rowO F (H.go room l) with
  | none => exact .inl ⟨rfl, fun u m e => by rw [hu] at e; cases e⟩
  | some u =>
    cases hm : M l with
    | none => exact .inl ⟨rfl, fun u m _ e => by rw [hm] at e; cases e⟩
    | some m =>
      simp only
      obtain ⟨wm, lm⟩ := hM l m l0 l1 hm
      have mu_ : some u ∈ F := List.mem_of_getElem? (by rw [rowO_get g2 gl, hu])
      have wu := I.wok u mu_
      have su := I.short u mu_
      have wn : wok (m ++ u) := wok_app.mpr ⟨wm, wu⟩
      have hget := rowO_get r0 rl
      have put : muO B (some (m ++ u)) < muO B (rowO F room) → ((rowO F room = none) ∨ ∃ s, rowO F room = some s ∧ val (m ++ u) < val s) →
          BInv H L M mx (F.set room.toNat (some (m ++ u))) ∧ mu B (F.set room.toNat (some (m ++ u))) < mu B F := by
        intro hlt hcase
        have hsum := sum_set (B := B) (o' := some (m ++ u)) hget
        obtain ⟨f1, f2⟩ := filter_set (F := F) (k := room.toNat) (r := m ++ u) (by omega)
        refine ⟨⟨by rw [List.length_set, hl], ?_, ?_, ?_, ?_⟩, by omega⟩
        · intro rm h0 h1 hr
          rw [rowO_set r0 h0 rl]
          split
          · exact ⟨_, rfl⟩
          · exact I.zero rm h0 h1 hr
        · intro rm r h0 hr
          rw [rowO_set r0 h0 rl] at hr
          split at hr
          · next e =>
            cases hr
            obtain ⟨w, w1, w2, w3⟩ := I.real (H.go room l) u g2 hu
            refine ⟨l :: w, fun x hx => ?_, cat_cons' hm w2, ?_⟩
            · rcases List.mem_cons.mp hx with rfl | hx
              · exact ⟨l0, l1⟩
              · exact w1 x hx
            · rw [e]
              exact w3
          · exact I.real rm r h0 hr
        · intro r hr
          rcases List.mem_or_eq_of_mem_set hr with h1 | h1
          · exact I.wok r h1
          · cases h1; exact wn
        · intro r hr
          rcases List.mem_or_eq_of_mem_set hr with h1 | h1
          · exact Nat.le_trans (I.short r h1) (Nat.mul_le_mul_right _ f1)
          · cases h1
            rcases hcase with hn | ⟨s, s3, s4⟩
            · rw [f2 (by rw [hget, hn]), Nat.add_mul, List.length_append]
              omega
            · have ms : some s ∈ F := List.mem_of_getElem? (by rw [hget, s3])
              have := len_le wn (I.wok s ms) (by omega)
              exact Nat.le_trans this (Nat.le_trans (I.short s ms) (Nat.mul_le_mul_right _ f1))
      cases ht : rowO F room with
      | none =>
        refine .inr (put ?_ (.inl ht))
        rw [ht]
        show val (m ++ u) < B
        have h1 := val_lt wn
        have cnt : (F.filter fun o => o.isSome).length + 1 ≤ H.marks.length := by
          obtain ⟨f1, f2⟩ := filter_set (F := F) (k := room.toNat) (r := m ++ u) (by omega)
          have := f2 (by rw [hget, ht])
          have h3 := List.length_filter_le (fun o : Option (List Int) => o.isSome) (F.set room.toNat (some (m ++ u)))
          rw [List.length_set] at h3
          omega
        have h2 : (m ++ u).length ≤ H.marks.length * mx := by
          rw [List.length_append]
          have : ((F.filter fun o => o.isSome).length + 1) * mx ≤ H.marks.length * mx := Nat.mul_le_mul_right _ cnt
          rw [Nat.add_mul] at this
          omega
        have h3 : 8 ^ (m ++ u).length ≤ 8 ^ (H.marks.length * mx) := Nat.pow_le_pow_right (by decide) h2
        omega
      | some s =>
        unfold lsr
        by_cases hlt : val (m ++ u) < val s
        · simp only [if_pos hlt]
          exact .inr (put (by rw [ht]; exact hlt) (.inr ⟨s, ht, hlt⟩))
        · simp only [if_neg hlt]
          refine .inl ⟨?_, fun u' m' e1 e2 => ⟨s, ht⟩⟩
          have : F.set room.toNat (some s) = F := by
            rw [← ht]
            apply List.ext_getElem?
            intro j
            by_cases hj : j = room.toNat
            · subst hj
              rw [List.getElem?_set_self (by omega), hget]
            · rw [List.getElem?_set_ne (Ne.symm hj)]
          exact this
theorem closedB_all {H : House} {L : Int} {M : Int → Option (List Int)} {mx : Nat} {F : List (Option (List Int))} (k : H.ok L) (I : BInv H L M mx F) (hc : ∀ room l : Int, 0 ≤ room → room < H.marks.length → 0 ≤ l → l < L → closedB H M F room l) :
    ∀ (w : List Int) (room : Int) (r : List Int), 0 ≤ room → room < H.marks.length → (∀ l ∈ w, 0 ≤ l ∧ l < L) → cat M w = some r → H.mark (H.walk room w) ≠ 0 → ∃ s, rowO F room = some s
  | [], room, r, r0, r1, _, _, hm => I.zero room r0 r1 hm
  | l :: w, room, r, r0, r1, hw, hr, hm => by
    obtain ⟨a, b, e1, e2, rfl⟩ := cat_cons hr
    have hl := hw l (by simp)
    obtain ⟨_, g2, g3⟩ := dIx_go k r0 r1 hl.1 hl.2
    obtain ⟨s, hs⟩ := closedB_all k I hc w (H.go room l) b g2 g3 (fun x hx => hw x (by simp [hx])) e2 hm
    exact hc room l r0 r1 hl.1 hl.2 s a hs e1
/-! ### helpers that are of use -/
def LtOk (p : Int) (h : Nat) (R : List (Option (List Int))) (l : Int) : Prop := 0 ≤ l ∧ l < p + h ∧ (p ≤ l → ∃ r, rowO R (l - p) = some r)
def Edge (p : Int) (Hs : List House) (R : List (Option (List Int))) (k c : Int) : Prop :=
  0 ≤ c ∧ c < Hs.length ∧ (∃ r, rowO R c = some r) ∧ ∃ w1 w2, (∀ l ∈ w1, LtOk p Hs.length R l) ∧ (∀ l ∈ w2, LtOk p Hs.length R l) ∧ (hsAt Hs k).mark ((hsAt Hs k).walk 0 (w1 ++ (p + c) :: w2)) ≠ 0
inductive Used (p : Int) (Hs : List House) (R : List (Option (List Int))) : Int → Prop
  | zero {r : List Int} : rowO R 0 = some r → Used p Hs R 0
  | step {k c : Int} : Used p Hs R k → Edge p Hs R k c → Used p Hs R c
theorem cat_lt {p : Int} {h : Nat} {R : List (Option (List Int))} : ∀ {w : List Int}, (∀ l ∈ w, LtOk p h R l) → ∃ r, cat (mk p h R) w = some r
  | [], _ => ⟨[], rfl⟩
  | l :: w, hw => by
    obtain ⟨r, hr⟩ := cat_lt (w := w) fun x hx => hw x (by simp [hx])
    obtain ⟨a, b, c⟩ := hw l (by simp)
    by_cases q : p ≤ l
    · obtain ⟨s, hs⟩ := c q
      exact ⟨_, cat_cons' (a := l :: (s ++ [p + (h : Int)])) (by unfold mk; rw [if_pos q, hs]; rfl) hr⟩
    · exact ⟨_, cat_cons' (a := [l]) (by unfold mk; rw [if_neg q]) hr⟩
theorem lt_cat {p : Int} {h : Nat} {R : List (Option (List Int))} : ∀ {w r : List Int}, (∀ l ∈ w, 0 ≤ l ∧ l < p + h) → cat (mk p h R) w = some r → ∀ l ∈ w, LtOk p h R l
  | [], _, _, _, l, hl => by cases hl
  | x :: w, r, hw, hr, l, hl => by
    obtain ⟨a, b, e1, e2, rfl⟩ := cat_cons hr
    rcases List.mem_cons.mp hl with rfl | hl
    · refine ⟨(hw l (by simp)).1, (hw l (by simp)).2, fun q => ?_⟩
      unfold mk at e1
      rw [if_pos q] at e1
      cases ho : rowO R (l - p) with
      | none => rw [ho] at e1; cases e1
      | some s => exact ⟨s, rfl⟩
    · exact lt_cat (fun y hy => hw y (by simp [hy])) e2 l hl
/-- a place for rows of helper k: every one that is accepted there is accepted with it; and what is accepted there by any houses is accepted as a row of k by these -/
def CtxA (p : Int) (Hs : List House) (k : Int) (a b : List Int) : Prop := ∀ y, bal p Hs.length y → accOf' p Hs y k = true → bal p Hs.length (a ++ (y ++ b)) ∧ accOf' p Hs (a ++ (y ++ b)) 0 = true
def CtxR (p : Int) (h : Nat) (k : Int) (a b : List Int) : Prop := ∀ Hs' : List House, Hs'.length = h → ∀ y, bal p h y → accOf' p Hs' (a ++ (y ++ b)) 0 = true → accOf' p Hs' y k = true
structure CtxOk (p : Int) (Hs : List House) (k : Int) (a b : List Int) : Prop where
  ok : CtxA p Hs k a b
  rev : CtxR p Hs.length k a b
theorem ctx_step {p : Int} {Hs : List House} {R : List (Option (List Int))} (ok : RowsOk p Hs R) {k c : Int} {a b hd tl w1 w2 : List Int} (p1 : 1 ≤ p) (C : CtxOk p Hs k a b) (c0 : 0 ≤ c) (c1 : c < Hs.length)
    (h1 : ∀ l ∈ w1, 0 ≤ l ∧ l < p + Hs.length) (h2 : ∀ l ∈ w2, 0 ≤ l ∧ l < p + Hs.length) (e1 : cat (mk p Hs.length R) w1 = some hd) (e2 : cat (mk p Hs.length R) w2 = some tl)
    (hm : (hsAt Hs k).mark ((hsAt Hs k).walk 0 (w1 ++ (p + c) :: w2)) ≠ 0) : CtxOk p Hs c (a ++ (hd ++ [p + c])) ([p + (Hs.length : Int)] ++ (tl ++ b)) := by
  obtain ⟨f1, g1⟩ := cat_items ok h1 e1
  obtain ⟨f2, g2⟩ := cat_items ok h2 e2
  have eq : ∀ y : List Int, (a ++ (hd ++ [p + c])) ++ (y ++ ([p + (Hs.length : Int)] ++ (tl ++ b))) = a ++ ((hd ++ ((p + c) :: (y ++ [p + (Hs.length : Int)]) ++ tl)) ++ b) := fun y => by simp
  refine ⟨fun y hb hy => ?_, fun Hs' hl y hb hy => ?_⟩
  rotate_left
  · have it : itemOk p Hs.length (p + c, y) := ⟨by show 0 ≤ p + c; omega, by show p + c < p + _; omega, fun _ => hb⟩
    have items : ∀ x ∈ w1.map (itOf p R) ++ (p + c, y) :: w2.map (itOf p R), itemOk p Hs.length x := by
      intro x hx
      rcases List.mem_append.mp hx with hx | hx
      · exact (g1 x hx).1
      · rcases List.mem_cons.mp hx with rfl | hx
        · exact it
        · exact (g2 x hx).1
    have row : (w1.map (itOf p R) ++ (p + c, y) :: w2.map (itOf p R)).flatMap (itemR p Hs.length) = hd ++ ((p + c) :: (y ++ [p + (Hs.length : Int)]) ++ tl) := by
      rw [List.flatMap_append, List.flatMap_cons, ← f1, ← f2]
      congr 1
      unfold itemR
      rw [if_pos (show p ≤ (p + c, y).1 by show p ≤ p + c; omega)]
    have ba := items_bal items
    rw [eq, ← row] at hy
    have q := C.rev Hs' hl _ ba hy
    rw [← hl] at items q
    rw [accOf_items (t := k) items, Bool.and_eq_true] at q
    have := List.all_eq_true.mp q.1 (p + c, y) (by simp)
    rw [Bool.or_eq_true] at this
    rcases this with h | h
    · simp at h; omega
    · have h : accOf' p Hs' y (p + c - p) = true := h
      rwa [show p + c - p = c by omega] at h
  have it : itemOk p Hs.length (p + c, y) := ⟨by show 0 ≤ p + c; omega, by show p + c < p + _; omega, fun _ => hb⟩
  have items : ∀ x ∈ w1.map (itOf p R) ++ (p + c, y) :: w2.map (itOf p R), itemOk p Hs.length x ∧ (p ≤ x.1 → accOf' p Hs x.2 (x.1 - p) = true) := by
    intro x hx
    rcases List.mem_append.mp hx with hx | hx
    · exact g1 x hx
    · rcases List.mem_cons.mp hx with rfl | hx
      · exact ⟨it, fun _ => by show accOf' p Hs y (p + c - p) = true; rw [show p + c - p = c by omega]; exact hy⟩
      · exact g2 x hx
  have row : (w1.map (itOf p R) ++ (p + c, y) :: w2.map (itOf p R)).flatMap (itemR p Hs.length) = hd ++ ((p + c) :: (y ++ [p + (Hs.length : Int)]) ++ tl) := by
    rw [List.flatMap_append, List.flatMap_cons, ← f1, ← f2]
    congr 1
    unfold itemR
    rw [if_pos (show p ≤ (p + c, y).1 by show p ≤ p + c; omega)]
  have mf : ∀ w : List Int, (w.map (itOf p R)).map Prod.fst = w := fun w => by
    rw [List.map_map]
    have : (Prod.fst ∘ itOf p R) = id := by funext l; rfl
    rw [this, List.map_id]
  have ba := items_bal fun x hx => (items x hx).1
  have ac := accOf_items (t := k) fun x hx => (items x hx).1
  rw [List.map_append, List.map_cons, mf, mf] at ac
  have acc : accOf' p Hs (hd ++ ((p + c) :: (y ++ [p + (Hs.length : Int)]) ++ tl)) k = true := by
    rw [← row, ac, Bool.and_eq_true]
    refine ⟨List.all_eq_true.mpr fun x hx => ?_, by simpa using hm⟩
    by_cases q : p ≤ x.1
    · simp [(items x hx).2 q]
    · simp [q]
  rw [row] at ba
  have := C.ok _ ba acc
  have e : (a ++ (hd ++ [p + c])) ++ (y ++ ([p + (Hs.length : Int)] ++ (tl ++ b))) = a ++ ((hd ++ ((p + c) :: (y ++ [p + (Hs.length : Int)]) ++ tl)) ++ b) := by simp
  rw [e]
  exact this
/-- in a row that a helper of use accepts all helpers that are called are of use -/
theorem used_calls {p : Int} {Hs : List House} {R : List (Option (List Int))} (p1 : 1 ≤ p)
    (lst : ∀ (r : List Int) (t : Int), nst p Hs.length r 0 = true → accOf' p Hs r t = true → 0 ≤ t → t < Hs.length → ∃ s, rowO R t = some s) :
    ∀ (n : Nat) (row : List Int) (k : Int), row.length ≤ n → Used p Hs R k → nst p Hs.length row 0 = true → accOf' p Hs row k = true → ∀ s ∈ row, p ≤ s → s < p + Hs.length → Used p Hs R (s - p) := by
  intro n
  induction n with
  | zero =>
    intro row k hl _ _ _ s hs
    rw [List.eq_nil_of_length_eq_zero (by omega : row.length = 0)] at hs
    cases hs
  | succ n ih =>
    intro row k hl hu hr ha s hs q1 q2
    obtain ⟨l, e, hi⟩ := decomp (h := Hs.length) (by omega) row.length row (Nat.le_refl _) hr
    have hok : ∀ x ∈ l, itemOk p Hs.length x := fun x hx => (hi x hx).1
    have ha' := ha
    rw [e, accOf_items hok, Bool.and_eq_true] at ha'
    obtain ⟨ha1, ha2⟩ := ha'
    have ha1 := List.all_eq_true.mp ha1
    have good : ∀ x ∈ l, LtOk p Hs.length R x.1 := fun x hx => by
      obtain ⟨k0, k1, k2⟩ := hok x hx
      refine ⟨k0, k1, fun q => ?_⟩
      have := ha1 x hx
      simp [q] at this
      exact lst x.2 (x.1 - p) (k2 q).nst this (by omega) (by omega)
    rw [e] at hs
    obtain ⟨x, hx, hs⟩ := List.mem_flatMap.mp hs
    obtain ⟨k0, k1, k2⟩ := hok x hx
    by_cases q : p ≤ x.1
    · have hacc := ha1 x hx
      simp [q] at hacc
      have ux : Used p Hs R (x.1 - p) := by
        refine .step hu ⟨by omega, by omega, (good x hx).2.2 q, ?_⟩
        obtain ⟨l1, l2, el⟩ := List.append_of_mem hx
        refine ⟨l1.map Prod.fst, l2.map Prod.fst, fun y hy => ?_, fun y hy => ?_, ?_⟩
        · obtain ⟨z, hz, rfl⟩ := List.mem_map.mp hy
          exact good z (by rw [el]; simp [hz])
        · obtain ⟨z, hz, rfl⟩ := List.mem_map.mp hy
          exact good z (by rw [el]; simp [hz])
        · rw [show p + (x.1 - p) = x.1 by omega]
          rw [el, List.map_append, List.map_cons] at ha2
          simpa using ha2
      unfold itemR at hs
      rw [if_pos q] at hs
      rcases List.mem_cons.mp hs with rfl | hs
      · exact ux
      · rcases List.mem_append.mp hs with hs | hs
        · exact ih x.2 (x.1 - p) (by have := (hi x hx).2 q; omega) ux (k2 q).nst hacc s hs q1 q2
        · rw [List.mem_singleton.mp hs] at q2; omega
    · unfold itemR at hs
      rw [if_neg q] at hs
      rw [List.mem_singleton.mp hs] at q1
      omega
end Gw

set_option maxHeartbeats 4000000
/-! GxL: dicts. -/
namespace Gw
open PySem PySem.Spec PyProof.Rows L2

/-! ### keys, as data -/
def kA : D → Option AK
  | .v .non => some .non
  | .v (.int i) => some (.int i)
  | .v (.str x) => some (.str x)
  | _ => none
def kAs : List D → Option (List AK)
  | [] => some []
  | d :: ds => (kA d).bind fun k => (kAs ds).map (k :: ·)
inductive Ky where
  | a (k : AK)
  | t (ks : List AK)
  deriving DecidableEq
def kY : D → Option Ky
  | .tup ds => (kAs ds).map .t
  | d => (kA d).map .a
theorem kA_ak {k : AK} : kA (akD k) = some k := by cases k <;> rfl
theorem kAs_ak : ∀ {l : List AK}, kAs (l.map akD) = some l
  | [] => rfl
  | k :: l => by rw [List.map_cons, kAs, kA_ak, kAs_ak]; rfl
theorem kA_eq {d : D} {k : AK} (h : kA d = some k) : d = akD k := by
  cases d with
  | v x => cases x <;> first | (cases h; rfl) | cases h
  | _ => cases h
theorem kAs_eq : ∀ {ds : List D} {l : List AK}, kAs ds = some l → ds = l.map akD
  | [], _, h => by cases h; rfl
  | d :: ds, l, h => by
    rw [kAs] at h
    obtain ⟨k, h1, h2⟩ := Option.bind_eq_some_iff.mp h
    obtain ⟨r, h3, h4⟩ := Option.map_eq_some_iff.mp h2
    subst h4
    rw [List.map_cons, kA_eq h1, ← kAs_eq h3]
theorem kY_a {k : AK} : kY (akD k) = some (.a k) := by cases k <;> rfl
theorem kY_t {l : List AK} : kY (.tup (l.map akD)) = some (.t l) := by rw [kY, kAs_ak]; rfl
theorem kY_eqa {d : D} {k : AK} (h : kY d = some (.a k)) : d = akD k := by
  have fin : ∀ x : Option AK, x.map Ky.a = some (.a k) → x = some k := fun x q => by
    obtain ⟨k', h1, h2⟩ := Option.map_eq_some_iff.mp q
    cases h2; exact h1
  cases d with
  | tup ds =>
    rw [kY] at h
    obtain ⟨k', h1, h2⟩ := Option.map_eq_some_iff.mp h
    cases h2
  | v x => exact kA_eq (fin _ h)
  | lst ds => exact kA_eq (fin _ h)
  | fro ds => exact kA_eq (fin _ h)
  | dic ks vs => exact kA_eq (fin _ h)
  | obj c ns vs => exact kA_eq (fin _ h)
theorem kY_eqt {d : D} {l : List AK} (h : kY d = some (.t l)) : d = .tup (l.map akD) := by
  have no : ∀ x : Option AK, x.map Ky.a = some (.t l) → False := fun x q => by
    obtain ⟨k', h1, h2⟩ := Option.map_eq_some_iff.mp q
    cases h2
  cases d with
  | tup ds =>
    rw [kY] at h
    obtain ⟨k', h1, h2⟩ := Option.map_eq_some_iff.mp h
    cases h2
    rw [kAs_eq h1]
  | v x => exact (no _ h).elim
  | lst ds => exact (no none h).elim
  | fro ds => exact (no none h).elim
  | dic ks vs => exact (no none h).elim
  | obj c ns vs => exact (no none h).elim
/-- all keys are of one kind -/
def kOk (ks : List D) (y : Ky) : Bool := ks.all fun d => match kY d, y with
  | some (.a _), .a _ => true
  | some (.t _), .t _ => true
  | _, _ => false
/-- where the key stands -/
def kIx (ks : List D) (y : Ky) : Option Nat := ks.findIdx? fun d => decide (kY d = some y)
theorem kIx_nil {y : Ky} : kIx [] y = none := rfl
theorem kIx_cons {d : D} {ks : List D} {y : Ky} : kIx (d :: ks) y = if kY d = some y then some 0 else (kIx ks y).map (· + 1) := by
  unfold kIx
  rw [List.findIdx?_cons]
  by_cases h : kY d = some y
  · simp [h]
  · simp [h]
theorem kIx_a {α : Type} {f : α → AK} {κ : AK} : ∀ {E : List α}, kIx (E.map fun e => akD (f e)) (.a κ) = E.findIdx? fun e => decide (f e = κ)
  | [] => rfl
  | e :: E => by
    rw [List.map_cons, kIx_cons, List.findIdx?_cons, kY_a, kIx_a]
    by_cases h : f e = κ
    · simp [h]
    · rw [if_neg (fun q => h (by cases q; rfl))]; simp [h]
theorem kIx_t {α : Type} {f : α → List AK} {κ : List AK} : ∀ {E : List α}, kIx (E.map fun e => D.tup ((f e).map akD)) (.t κ) = E.findIdx? fun e => decide (f e = κ)
  | [] => rfl
  | e :: E => by
    rw [List.map_cons, kIx_cons, List.findIdx?_cons, kY_t, kIx_t]
    by_cases h : f e = κ
    · simp [h]
    · rw [if_neg (fun q => h (by cases q; rfl))]; simp [h]
theorem find_ix {α : Type} {p : α → Bool} : ∀ {l : List α}, l.find? p = (l.findIdx? p).bind fun j => l[j]?
  | [] => rfl
  | a :: l => by
    rw [List.find?_cons, List.findIdx?_cons]
    cases h : p a with
    | true => simp
    | false =>
      simp only [Bool.false_eq_true, if_false]
      rw [find_ix]
      cases l.findIdx? p <;> simp

/-! ### what stands in the heap -/
section
variable {P : Program} {w : World} {K : Kb} {H : Hp} {h : Heap} {a : Addr} {o : HO} {ks : List D} {xs : List V} {κ : Ky}
theorem empty_ah (dd : h.DictOf (akKind P w) a []) : h.DictOfH (tupleKind (akKind P w)) a [] := by
  obtain ⟨o, es, ep, h1, h2, h3, h4, h5, h6⟩ := dd
  refine ⟨o, es, ep, h1, h2, h3, ?_, (fun _ hx => by simp at hx), List.nodup_nil⟩
  cases q : es.toList with
  | nil => rfl
  | cons e r => rw [q] at h5; cases h5
theorem empty_ha (dd : h.DictOfH (tupleKind (akKind P w)) a []) : h.DictOf (akKind P w) a [] := by
  obtain ⟨o, es, ep, h1, h2, h3, h4, h5, h6⟩ := dd
  have e : es = #[] := Array.toList_inj.mp (by simpa using h4)
  subst e
  exact ⟨o, #[], ep, h1, h2, h3, fun e he => by simp at he, .nil, List.nodup_nil⟩
/-- the dict, by the kind of the key that is asked for -/
def DicH (K : Kb) (h : Heap) (H : Hp) (a : Addr) (ks : List D) (xs : List V) : Ky → Prop
  | .a _ => ∃ E : List (AK × Value), ks = E.map (fun e => akD e.1) ∧ Vals xs (E.map (·.2)) ∧ h.DictOf (akKind K.P K.w) a E ∧ E.length ≤ sizeLine ∧ (a == sysModules) = false
  | .t _ => ∃ E : List (List AK × Addr × Value), ks = E.map (fun e => .tup (e.1.map akD)) ∧ Vals xs (E.map (·.2.2)) ∧ (∀ e ∈ E, SqT K.K H e.2.1 (e.1.map akV)) ∧ h.DictOfH (tupleKind (akKind K.P K.w)) a E ∧ E.length ≤ sizeLine ∧ (a == sysModules) = false
end
section
variable {X : Cx} {pins : List (Addr × Obj)} {σ : L2.St} {H : Hp} {s : Shared} {a b : Addr} {o : HO} {ks : List D} {xs : List V} {κ : Ky} {A : Around} {E : Value → Shared → Prop} {u : Value}
theorem ak_items : ∀ {l : List AK} {us : List Value}, Vals (l.map akV) us → ItemsAre (akKind X.prog X.w) l us
  | [], _, r => by rw [List.map_nil] at r; cases r; exact .nil
  | k :: l, _, r => by
    rw [List.map_cons] at r
    cases r with
    | cons h t => exact .cons (akIs_of h) (ak_items t)
theorem ak_key {l : List AK} (I : Inv X pins σ H s) (e : SqT X.K H b (l.map akV)) : (tupleKind (akKind X.prog X.w)).is s.heap l b := by
  obtain ⟨its, r, ⟨o, h1, h2, n, h3⟩, _⟩ := I.tuple e
  exact ⟨o, its.toArray, n, h1, h2, h3, by simpa using ak_items r⟩
theorem dic_at (I : Inv X pins σ H s) (e : Rd H a o) (r : DicR X.G H a o ks xs) (hk : kOk ks κ = true) : DicH X.G s.heap H a ks xs κ := by
  have ok := e.ok I.hok
  rcases r with ⟨E, rfl, rfl, rv⟩ | ⟨E, rfl, rfl, rv, rt⟩
  · obtain ⟨⟨dd, z, ns⟩, _, _⟩ : (s.heap.DictOf (akKind X.prog X.w) a E ∧ E.length ≤ sizeLine ∧ (a == sysModules) = false) ∧ _ ∧ _ := ok
    cases κ with
    | a k => exact ⟨E, rfl, rv, dd, z, ns⟩
    | t l =>
      cases E with
      | nil => exact ⟨[], rfl, rv, (fun e he => nomatch he), empty_ah dd, z, ns⟩
      | cons e E =>
        rw [kOk, List.map_cons, List.all_cons, kY_a] at hk
        simp at hk
  · obtain ⟨⟨⟨o, es, ep, h1, h2, h3, h4, h5⟩, z, ns⟩, _, _⟩ : ((∃ o es ep, s.heap.get? a = some o ∧ o.ExactDict ∧ o.data = .dict es ep ∧ es.toList = E.map (entryOfKey (tupleKind (akKind X.prog X.w))) ∧ (E.map (fun e : List AK × Addr × Value => e.1)).Nodup) ∧ E.length ≤ sizeLine ∧ (a == sysModules) = false) ∧ _ ∧ _ := ok
    have dd : s.heap.DictOfH (tupleKind (akKind X.prog X.w)) a E := ⟨o, es, ep, h1, h2, h3, h4, fun x hx => ak_key I (rt x hx), h5⟩
    cases κ with
    | t l => exact ⟨E, rfl, rv, rt, dd, z, ns⟩
    | a k =>
      cases E with
      | nil => exact ⟨[], rfl, rv, empty_ha dd, z, ns⟩
      | cons e E =>
        rw [kOk, List.map_cons, List.all_cons, kY_t] at hk
        simp at hk
/-- the value at the key -/
def kGet (ks : List D) (xs : List V) (κ : Ky) : Option V := (kIx ks κ).bind fun j => xs[j]?
theorem val_a {E : List (AK × Value)} {k : AK} (rv : Vals xs (E.map (·.2))) : RelO (kGet (E.map fun e => akD e.1) xs (.a k)) (valueAt E k) := by
  unfold kGet valueAt
  rw [kIx_a, show (fun kv : AK × Value => decide (kv.1 = k)) = (fun e : AK × Value => decide (e.1 = k)) from rfl, find_ix]
  cases hj : E.findIdx? (fun e => decide (e.1 = k)) with
  | none => exact True.intro
  | some j =>
    simp only [Option.bind_some]
    have l := rv.length
    rw [List.length_map] at l
    have hlt : j < E.length := (List.findIdx?_eq_some_iff_getElem.mp hj).1
    have hx : xs[j]? = some xs[j] := List.getElem?_eq_getElem (by omega)
    obtain ⟨u, hu, ru⟩ := rv.get hx
    rw [hx]
    rw [List.getElem?_map] at hu
    rw [hu]
    exact ru
theorem val_t {E : List (List AK × Addr × Value)} {k : List AK} (rv : Vals xs (E.map (·.2.2))) : RelO (kGet (E.map fun e => D.tup (e.1.map akD)) xs (.t k)) ((atKey E k).map (·.2)) := by
  unfold kGet atKey
  rw [kIx_t, find_ix]
  cases hj : E.findIdx? (fun e => decide (e.1 = k)) with
  | none => exact True.intro
  | some j =>
    simp only [Option.bind_some]
    have l := rv.length
    rw [List.length_map] at l
    have hlt : j < E.length := (List.findIdx?_eq_some_iff_getElem.mp hj).1
    have hx : xs[j]? = some xs[j] := List.getElem?_eq_getElem (by omega)
    obtain ⟨u, hu, ru⟩ := rv.get hx
    rw [hx]
    rw [List.getElem?_map] at hu
    rw [Option.map_map]
    show RelO _ ((E[j]?).map fun e => e.2.2)
    rw [hu]
    exact ru
/-- a key, as it stands -/
def KyV (K : Kb) (H : Hp) (y : V) : Ky → Prop
  | .a k => y = akV k
  | .t l => ∃ b, y = .ref b ∧ SqT K.K H b (l.map akV)
theorem akV_rp {K : Kb} : ∀ {l : List AK} {ys : List V}, RpVs K H ys (l.map akD) → ys = l.map akV
  | [], [], _ => rfl
  | k :: l, y :: ys, h => by
    rw [List.map_cons, RpVs] at h
    rw [List.map_cons, akV_rp h.2]
    have e := h.1
    unfold akD at e
    rw [RpV] at e
    rw [e]
  | [], _ :: _, h => by simp [RpVs] at h
  | _ :: _, [], h => by simp [RpVs] at h
theorem kyV_of {K : Kb} {y : V} {k : D} (r : RpV K H y k) (hk : kY k = some κ) : KyV K H y κ := by
  cases κ with
  | a c =>
    rw [kY_eqa hk] at r
    unfold akD at r
    rw [RpV] at r
    exact r
  | t l =>
    rw [kY_eqt hk, RpV] at r
    obtain ⟨b, ys, e, s1, r1⟩ := r
    rw [akV_rp r1] at s1
    exact ⟨b, e, s1⟩
/-- what the dict x holds at the key y -/
def DG (K : Kb) (H : Hp) (x y : V) (r : Option V) : Prop := ∃ a o ks xs κ, x = .ref a ∧ Rd H a o ∧ DicR K H a o ks xs ∧ KyV K H y κ ∧ kOk ks κ = true ∧ r = kGet ks xs κ
theorem dg_get {Q : Value → Shared → Prop} {x y v : V} {u t : Value} (hu : A.units + 1 < cLine) (I : Inv X pins σ H s) (g : DG X.G H x y (some v)) (rx : RelV x u) (ry : RelV y t) (h : ∀ w' s', Inv X pins σ H s' → RelV v w' → Q w' s') :
    wpAny (model X.prog X.w) A (getItem u t) Q E s := by
  obtain ⟨a, o, ks, xs, κ, rfl, e, r, ky, ok, l⟩ := g
  obtain rfl : u = Value.ref a := rx
  have d := dic_at I e r ok
  cases κ with
  | a k =>
    obtain ⟨E, rfl, rv, dd, z, ns⟩ := d
    obtain rfl : y = akV k := ky
    obtain ⟨w', hw, rw'⟩ := RelO.some_of (v := v) (o := valueAt E k) (by rw [l]; exact val_a rv)
    exact wpAny_getItem_of (knd := akKind X.prog X.w) (akIs_of ry) dd.mapOf hw (h w' _ (I.tok _) rw')
  | t k =>
    obtain ⟨E, rfl, rv, rt, dd, z, ns⟩ := d
    obtain ⟨b, rfl, sb⟩ := ky
    obtain rfl : t = Value.ref b := ry
    obtain ⟨w', hw, rw'⟩ := RelO.some_of (v := v) (o := (atKey E k).map (·.2)) (by rw [l]; exact val_t rv)
    obtain ⟨p, hp, hp2⟩ := Option.map_eq_some_iff.mp hw
    refine wpAny_getItem_heap (knd := tupleKind (akKind X.prog X.w)) (tupleKind_room_in1 hu) (ak_key I sb) dd hp ?_
    rw [hp2]
    exact h w' _ (I.tok _) rw'
theorem dg_in {Q : Value → Shared → Prop} {x y : V} {u t : Value} {r : Option V} (hu : A.units + 1 < cLine) (I : Inv X pins σ H s) (g : DG X.G H x y r) (rx : RelV x u) (ry : RelV y t) (h : ∀ s', Inv X pins σ H s' → Q (.bool r.isSome) s') :
    wpAny (model X.prog X.w) A (compareOp .In t u) Q E s := by
  obtain ⟨a, o, ks, xs, κ, rfl, e, r, ky, ok, l⟩ := g
  obtain rfl : u = Value.ref a := rx
  have d := dic_at I e r ok
  cases κ with
  | a k =>
    obtain ⟨E, rfl, rv, dd, z, ns⟩ := d
    obtain rfl : y = akV k := ky
    refine wpAny_in_of (knd := akKind X.prog X.w) (akIs_of ry) ns dd.mapOf ?_
    rw [← (val_a rv).isSome_eq, ← l]
    exact h _ (I.tok _)
  | t k =>
    obtain ⟨E, rfl, rv, rt, dd, z, ns⟩ := d
    obtain ⟨b, rfl, sb⟩ := ky
    obtain rfl : t = Value.ref b := ry
    refine wpAny_in_heap (knd := tupleKind (akKind X.prog X.w)) (tupleKind_room_in1 hu) (ak_key I sb) ns dd ?_
    have q := (val_t (k := k) rv).isSome_eq
    rw [Option.isSome_map] at q
    rw [← q, ← l]
    exact h _ (I.tok _)
theorem dg_notIn {Q : Value → Shared → Prop} {x y : V} {u t : Value} {r : Option V} (hu : A.units + 1 < cLine) (I : Inv X pins σ H s) (g : DG X.G H x y r) (rx : RelV x u) (ry : RelV y t) (h : ∀ s', Inv X pins σ H s' → Q (.bool (!r.isSome)) s') :
    wpAny (model X.prog X.w) A (compareOp .NotIn t u) Q E s := by
  obtain ⟨a, o, ks, xs, κ, rfl, e, r, ky, ok, l⟩ := g
  obtain rfl : u = Value.ref a := rx
  have d := dic_at I e r ok
  cases κ with
  | a k =>
    obtain ⟨E, rfl, rv, dd, z, ns⟩ := d
    obtain rfl : y = akV k := ky
    refine wpAny_notIn_of (knd := akKind X.prog X.w) (akIs_of ry) ns dd.mapOf ?_
    rw [← (val_a rv).isSome_eq, ← l]
    exact h _ (I.tok _)
  | t k =>
    obtain ⟨E, rfl, rv, rt, dd, z, ns⟩ := d
    obtain ⟨b, rfl, sb⟩ := ky
    obtain rfl : t = Value.ref b := ry
    refine wpAny_notIn_heap (knd := tupleKind (akKind X.prog X.w)) (tupleKind_room_in1 hu) (ak_key I sb) ns dd ?_
    have q := (val_t (k := k) rv).isSome_eq
    rw [Option.isSome_map] at q
    rw [← q, ← l]
    exact h _ (I.tok _)
end
end Gw

set_option maxHeartbeats 4000000
/-! GxM: what is done with dicts. -/
namespace Gw
open PySem PySem.Spec PyProof.Rows L2
theorem hu_1 {A : Around} {k : Nat} (hr : Room k A) : A.units + 1 < cLine := by have := hr.un; omega
theorem findIx_some {α : Type} {p : α → Bool} : ∀ {l : List α} {j : Nat}, l.findIdx? p = some j → j < l.length := fun h => (List.findIdx?_eq_some_iff_getElem.mp h).1
theorem kIx_lt {ks : List D} {κ : Ky} {j : Nat} (h : kIx ks κ = some j) : j < ks.length := findIx_some h
theorem kGet_some {ks : List D} {xs : List V} {κ : Ky} (l : xs.length = ks.length) : (kGet ks xs κ).isSome = (kIx ks κ).isSome := by
  unfold kGet
  cases h : kIx ks κ with
  | none => rfl
  | some j =>
    have := kIx_lt h
    simp [l, this]
/-! ### d[k] -/
def rDG (K : Kb) : R2 := fun x y H Q => ∃ v, DG K H x y (some v) ∧ Q v H
section
variable {X : Cx} {W : WX} {a b c e o : Expr} {ta tb tc tk tv to ti : TE} {pa pb pc pi : PX} {ga : En → Eg D} {pos : Pos}
theorem dg_type {pins : List (Addr × Obj)} {σ : L2.St} {H : Hp} {s : Shared} {x y : V} {r : Option V} {u : Value} (I : Inv X pins σ H s) (g : DG X.G H x y r) (rx : RelV x u) : s.TypeIs u "dict" := by
  obtain ⟨a, o, ks, xs, κ, rfl, e, r, ky, ok, l⟩ := g
  obtain rfl : u = Value.ref a := rx
  have d := dic_at I e r ok
  cases κ with
  | a k => obtain ⟨E, _, _, dd, _⟩ := d; exact dd.typeIs
  | t k => obtain ⟨E, _, _, _, dd, _⟩ := d; exact dd.typeIs
theorem ix_dic (hu : X.A.units + 1 < cLine) : IxR X (rDG X.G) := by
  intro value slice pins s σ H x y v u Q I rx ry h hs
  obtain ⟨z, g, q⟩ := h
  exact tail_any (dg_type I g rx) slot_dict_getitem.lookup (dg_get (A := X.A) hu I g rx ry fun w' s' I' rw' => ⟨z, H, I', rw', q⟩) hs
def dDIx : D → D → Ev D
  | .dic ks vs, k => (match kY k with
    | some κ => if kOk ks κ = true then (match (kIx ks κ).bind fun j => vs[j]? with
      | some d => .ok d
      | none => .stuck) else .stuck
    | none => .stuck)
  | _, _ => .stuck
theorem od_dix : OpDV X W (rDG X.G) dDIx := fun σ H x y d e r1 r2 => by
  unfold dDIx
  split
  · split
    · rename_i ks vs k κ hκ
      split
      · rename_i hk
        split
        · rename_i d hd
          rw [RpV] at r1
          obtain ⟨a, o, xs, rfl, h1, h2, h3⟩ := r1
          obtain ⟨j, hj, hv⟩ := Option.bind_eq_some_iff.mp hd
          obtain ⟨z, hz, rz⟩ := h3.get hv
          exact Do.now (fun Q q => ⟨z, ⟨a, o, ks, xs, κ, rfl, h1, h2, kyV_of r2 hκ, hk, by unfold kGet; rw [hj]; exact hz.symm⟩, q⟩) rz
        · exact Do.stuck
      · exact Do.stuck
    · exact Do.stuck
  · exact Do.stuck
theorem jv_dix {k : Nat} (hr : Room k X.A) (ha : JV X W a ta pa) (hb : JV X W b tb pb) (hs : PlainIx b) : JV X W (.Subscript a b pos) (tOp (rDG X.G) ta tb) (p2 dDIx pa pb) := ⟨pe_ix (ix_dic (hu_1 hr)) ha.pe hb.pe hs, sv_op od_dix ha.sv hb.sv⟩
/-! ### k in d -/
def rDIn (K : Kb) (neg : Bool) : R2 := fun y x H Q => ∃ r, DG K H x y r ∧ Q (.bl (if neg then !r.isSome else r.isSome)) H
def dDIn (neg : Bool) : D → D → Ev D
  | k, .dic ks vs => (match kY k with
    | some κ => if kOk ks κ = true then .ok (.b (if neg then !(kIx ks κ).isSome else (kIx ks κ).isSome)) else .stuck
    | none => .stuck)
  | _, _ => .stuck
theorem op_dIn (hu : X.A.units + 1 < cLine) : OpR X (compareOp .In) (rDIn X.G false) := by
  intro pins s σ H y x u v Q I ry rx h
  obtain ⟨r, g, q⟩ := h
  exact dg_in (A := X.A) hu I g rx ry fun s' I' => ⟨.bl r.isSome, H, I', rfl, q⟩
theorem op_dNotIn (hu : X.A.units + 1 < cLine) : OpR X (compareOp .NotIn) (rDIn X.G true) := by
  intro pins s σ H y x u v Q I ry rx h
  obtain ⟨r, g, q⟩ := h
  exact dg_notIn (A := X.A) hu I g rx ry fun s' I' => ⟨.bl (!r.isSome), H, I', rfl, q⟩
theorem od_dIn {neg : Bool} : OpD X W (rDIn X.G neg) (dDIn neg) := fun σ H x y d e r1 r2 => by
  unfold dDIn
  split
  · split
    · rename_i ks vs k κ hκ
      split
      · rename_i hk
        rw [RpV] at r2
        obtain ⟨a, o, xs, rfl, h1, h2, h3⟩ := r2
        rw [← kGet_some (xs := xs) h2.vlen]
        exact Do.now (fun Q q => ⟨_, ⟨a, o, ks, xs, κ, rfl, h1, h2, kyV_of r1 hκ, hk, rfl⟩, q⟩) RO.atom
      · exact Do.stuck
    · exact Do.stuck
  · exact Do.stuck
/-! ### d[k] = v -/
def kPut (ks : List D) (κ : Ky) (k : D) : List D := if (kIx ks κ).isSome = true then ks else ks ++ [k]
def vPut {α : Type} (ks : List D) (xs : List α) (κ : Ky) (v : α) : List α := match kIx ks κ with
  | some j => xs.set j v
  | none => xs ++ [v]
def rSetD (K : Kb) : V → V → V → Hp → (Hp → Prop) → Prop := fun o i v H Q => ∃ a ho ks xs k κ, o = .ref a ∧ H a = some ho ∧ DicR K H a ho ks xs ∧ kY k = some κ ∧ KyV K H i κ ∧ kOk ks κ = true ∧ ks.length < sizeLine ∧
  ∀ ho', Wr ho' → DicR K (upd H a ho') a ho' (kPut ks κ k) (vPut ks xs κ v) → Q (upd H a ho')
theorem exK_ok {P : Program} {w : World} {H : Hp} {h : Heap} {a : Addr} {E : List (AK × Value)} (dd : h.DictOf (akKind P w) a E) (z : E.length ≤ sizeLine) (ns : (a == sysModules) = false) : ObjOk P w H h a (exK P w a E) :=
  ⟨⟨dd, z, ns⟩, let ⟨o, _, _, e, _⟩ := dd; ⟨o, e⟩, fun h1 h2 q k => by
    obtain ⟨⟨o, es, ep, e, r⟩, z, n⟩ := q
    exact ⟨⟨o, es, ep, k _ e, r⟩, z, n⟩⟩
theorem exT_ok {P : Program} {w : World} {H : Hp} {h : Heap} {a : Addr} {E : List (List AK × Addr × Value)} (dd : h.DictOfH (tupleKind (akKind P w)) a E) (z : E.length ≤ sizeLine) (ns : (a == sysModules) = false) : ObjOk P w H h a (exT P w a E) := by
  obtain ⟨o, es, ep, e, h1, h2, h3, _, h4⟩ := dd
  refine ⟨⟨⟨o, es, ep, e, h1, h2, h3, h4⟩, z, ns⟩, ⟨o, e⟩, fun g1 g2 q k => ?_⟩
  obtain ⟨⟨o, es, ep, e, r⟩, z, n⟩ := q
  exact ⟨⟨o, es, ep, k _ e, r⟩, z, n⟩
theorem repl_mod {α κ : Type} [DecidableEq κ] {f : α → κ} {g : α → α} {c : κ} : ∀ {E : List α} {j : Nat}, (E.map f).Nodup → E.findIdx? (fun e => decide (f e = c)) = some j → (E.map fun e => if f e = c then g e else e) = E.modify j g
  | [], j, _, h => by simp at h
  | e :: E, j, n, h => by
    rw [List.map_cons, List.nodup_cons] at n
    rw [List.findIdx?_cons] at h
    by_cases q : f e = c
    · simp [q] at h
      subst h
      have same : (E.map fun e => if f e = c then g e else e) = E := by
        have : ∀ x ∈ E, (if f x = c then g x else x) = x := fun x hx => if_neg fun z => n.1 (by rw [q, ← z]; exact List.mem_map_of_mem hx)
        rw [List.map_congr_left this, List.map_id']
      rw [List.map_cons, if_pos q, same]; rfl
    · simp [q] at h
      obtain ⟨k, hk, e2⟩ := h
      subst e2
      rw [List.map_cons, if_neg q, repl_mod n.2 hk]; rfl
theorem mod_set {α β : Type} {h : α → β} {g : α → α} {u : β} (hg : ∀ a, h (g a) = u) : ∀ {E : List α} {j : Nat}, (E.modify j g).map h = (E.map h).set j u
  | [], j => by simp
  | e :: E, 0 => by simp [hg]
  | e :: E, j + 1 => by simp [mod_set hg]
theorem mod_same {α β : Type} {h : α → β} {g : α → α} (hg : ∀ a, h (g a) = h a) : ∀ {E : List α} {j : Nat}, (E.modify j g).map h = E.map h
  | [], j => by simp
  | e :: E, 0 => by simp [hg]
  | e :: E, j + 1 => by simp [mod_same hg]
theorem any_ix {α : Type} {p : α → Bool} {l : List α} : l.any p = (l.findIdx? p).isSome := by
  rw [List.findIdx?_isSome]
theorem put_a {E : List (AK × Value)} {xs : List V} {c : AK} {v : V} {u : Value} (n : (E.map (·.1)).Nodup) (rv : Vals xs (E.map (·.2))) (r : RelV v u) :
    kPut (E.map fun e => akD e.1) (.a c) (akD c) = (stored E c u).map (fun e => akD e.1) ∧ Vals (vPut (E.map fun e => akD e.1) xs (.a c) v) ((stored E c u).map (·.2)) := by
  unfold kPut vPut stored
  rw [kIx_a, any_ix]
  cases hj : E.findIdx? (fun e => decide (e.1 = c)) with
  | none =>
    have hj' : E.findIdx? (fun kv => decide (kv.1 = c)) = none := hj
    rw [if_neg (by simp), if_neg (by simp [hj'])]
    simp only [List.map_append, List.map_cons, List.map_nil]
    exact ⟨trivial, rv.append (.cons r .nil)⟩
  | some j =>
    have hj' : E.findIdx? (fun kv => decide (kv.1 = c)) = some j := hj
    rw [if_pos (by simp), if_pos (by simp [hj']), repl_mod (f := fun e : AK × Value => e.1) (g := fun kv => (kv.1, u)) n hj]
    exact ⟨(mod_same (h := fun e : AK × Value => akD e.1) (g := fun kv => (kv.1, u)) (fun _ => rfl)).symm, by rw [mod_set (u := u) (fun _ => rfl)]; exact Vals.set r j rv⟩
theorem put_t {E : List (List AK × Addr × Value)} {xs : List V} {c : List AK} {b : Addr} {v : V} {u : Value} (n : (E.map (·.1)).Nodup) (rv : Vals xs (E.map (·.2.2))) (r : RelV v u) :
    kPut (E.map fun e => D.tup (e.1.map akD)) (.t c) (.tup (c.map akD)) = (storedH E c b u).map (fun e => D.tup (e.1.map akD)) ∧ Vals (vPut (E.map fun e => D.tup (e.1.map akD)) xs (.t c) v) ((storedH E c b u).map (·.2.2)) := by
  have hk : (atKey E c).isSome = (E.findIdx? fun e => decide (e.1 = c)).isSome := by
    unfold atKey
    rw [Option.isSome_map, find_ix]
    cases hj : E.findIdx? (fun e => decide (e.1 = c)) with
    | none => rfl
    | some j => simp [findIx_some hj]
  unfold kPut vPut storedH
  rw [kIx_t, hk]
  cases hj : E.findIdx? (fun e => decide (e.1 = c)) with
  | none =>
    rw [if_neg (by simp), if_neg (by simp)]
    simp only [List.map_append, List.map_cons, List.map_nil]
    exact ⟨trivial, rv.append (.cons r .nil)⟩
  | some j =>
    rw [if_pos (by simp), if_pos (by simp), show putAt c u = (fun x : List AK × Addr × Value => if x.1 = c then (x.1, x.2.1, u) else x) from rfl,
      repl_mod (f := fun e : List AK × Addr × Value => e.1) (g := fun x => (x.1, x.2.1, u)) n hj]
    exact ⟨(mod_same (h := fun e : List AK × Addr × Value => D.tup (e.1.map akD)) (g := fun x => (x.1, x.2.1, u)) (fun _ => rfl)).symm, by rw [mod_set (u := u) (fun _ => rfl)]; exact Vals.set r j rv⟩
theorem mem_sto {E : List (List AK × Addr × Value)} {c : List AK} {b : Addr} {u : Value} {x : List AK × Addr × Value} (h : x ∈ storedH E c b u) : (∃ y ∈ E, x.1 = y.1 ∧ x.2.1 = y.2.1) ∨ (x.1 = c ∧ x.2.1 = b) := by
  unfold storedH at h
  split at h
  · obtain ⟨y, hy, e⟩ := List.mem_map.mp h
    subst e
    refine .inl ⟨y, hy, ?_⟩
    unfold putAt
    split <;> exact ⟨rfl, rfl⟩
  · rcases List.mem_append.mp h with h | h
    · exact .inl ⟨x, h, rfl, rfl⟩
    · rw [List.mem_singleton.mp h]
      exact .inr ⟨rfl, rfl⟩
theorem set_dic (hu : X.A.units + 1 < cLine) : PSet X (rSetD X.G) := by
  intro pins s σ H o i v ov iv u Q I ro ri rv h
  obtain ⟨a, ho, ks, xs, k, κ, rfl, hH, dr, hκ, ky, ok, hl, q⟩ := h
  obtain rfl : ov = Value.ref a := ro
  have d := dic_at I (.inl hH) dr ok
  have wr := dr.wr
  cases κ with
  | a c =>
    obtain ⟨E, rfl, vs, dd, z, ns⟩ := d
    obtain rfl : i = akV c := ky
    obtain rfl := kY_eqa hκ
    have n : (E.map (·.1)).Nodup := by obtain ⟨_, _, _, _, _, _, _, _, n⟩ := dd; exact n
    have p := put_a (c := c) (u := u) (v := v) n vs rv
    rw [List.length_map] at hl
    have hz : (stored E c u).length ≤ sizeLine := by have := stored_length_le E c u; omega
    refine wpAny_setItem_pairs (knd := akKind X.prog X.w) (hsz := z) (akIs_of ri) dd fun h' dd' hs => ⟨_, ?_, q (exK X.prog X.w a (stored E c u)) .ext (.inl ⟨_, rfl, p.1, p.2⟩)⟩
    exact d_write I (by rw [hH]; exact wr.mut) hs (let ⟨o, _, _, e, _⟩ := dd'; ⟨o, e⟩) (exK_ok dd' hz ns)
  | t c =>
    obtain ⟨E, rfl, vs, rt, dd, z, ns⟩ := d
    obtain ⟨b, rfl, sb⟩ := ky
    obtain rfl := kY_eqt hκ
    obtain rfl : iv = Value.ref b := ri
    have n : (E.map (·.1)).Nodup := by obtain ⟨_, _, _, _, _, _, _, _, n⟩ := dd; exact n
    have p := put_t (c := c) (b := b) (u := u) (v := v) n vs rv
    rw [List.length_map] at hl
    have hz : (storedH E c b u).length ≤ sizeLine := by have := storedH_length E c b u; omega
    refine wpAny_setItem_heap (knd := tupleKind (akKind X.prog X.w)) (hsz := z) (tupleKind_room_in1 hu) (ak_key I sb) dd fun h' dd' hs => ⟨_, ?_, q (exT X.prog X.w a (storedH E c b u)) .ext (.inr ⟨_, rfl, p.1, p.2, fun e he => ?_⟩)⟩
    · exact d_write I (by rw [hH]; exact wr.mut) hs (let ⟨o, _, _, e, _⟩ := dd'; ⟨o, e⟩) (exT_ok dd' hz ns)
    · refine sqt_kt (Kt.upd hH wr) ?_
      rcases mem_sto he with ⟨y, hy, e1, e2⟩ | ⟨e1, e2⟩
      · rw [e1, e2]; exact rt y hy
      · rw [e1, e2]; exact sb
end
end Gw

set_option maxHeartbeats 4000000
/-! GxO: d[k] = v as a statement; displays of dicts. -/
namespace Gw
open PySem PySem.Spec PyProof.Rows L2
section
variable {K : Kb} {B : Bz} {H H' : Hp} {env : En} {σ : L2.St} {tv : List V} {td : List D}
theorem give_one {xs : List V} {ds : List D} {x : V} {d : D} {fc g : List Addr} (h1 : RpOs K H xs ds fc) (h2 : RpOs K H (x :: tv) (d :: td) g) (n : (fc ++ g).Nodup) :
    ∃ fc' g', RpOs K H (xs ++ [x]) (ds ++ [d]) fc' ∧ RpOs K H tv td g' ∧ (fc' ++ g').Nodup ∧ ∀ b ∈ fc' ++ g', b ∈ fc ++ g := by
  rw [RpOs] at h2
  obtain ⟨g1, g2, e0, r1, r2⟩ := h2
  subst e0
  refine ⟨fc ++ g1, g2, RpOs.append h1 (RpOs.one r1), r2, by rw [List.append_assoc]; exact n, fun b hb => by rw [List.append_assoc] at hb; exact hb⟩
theorem give_put {ks : List D} {κ : Ky} {xs : List V} {ds : List D} {x : V} {d : D} {fc g : List Addr} (hl : ds.length = ks.length) (h1 : RpOs K H xs ds fc) (h2 : RpOs K H (x :: tv) (d :: td) g) (n : (fc ++ g).Nodup) :
    ∃ fc' g', RpOs K H (vPut ks xs κ x) (vPut ks ds κ d) fc' ∧ RpOs K H tv td g' ∧ (fc' ++ g').Nodup ∧ ∀ b ∈ fc' ++ g', b ∈ fc ++ g := by
  unfold vPut
  cases h : kIx ks κ with
  | none => exact give_one h1 h2 n
  | some j => exact give_set (by rw [hl]; exact kIx_lt h) h1 h2 n
theorem Fr.writeD {l : Lv} {x y : V} {d : D} {ks ds : List D} (h : Fr K B env tv td σ H) (hl : atO env l = some (.dic ks ds)) (hx : σ[l.1]? = some (some x)) (hd : lk env l.1 = some d) (hn : NodeV K H x d l.2 y) :
    ∃ a o xs, y = .ref a ∧ H a = some o ∧ DicR K H a o ks xs ∧ RpVs K H xs ds ∧
      ∀ o' ks' ds' xs' tv' td', DicR K (upd H a o') a o' ks' xs' → ((∀ fc g, RpOs K H xs ds fc → RpOs K H tv td g → (fc ++ g).Nodup → ∃ fc' g', RpOs K H xs' ds' fc' ∧ RpOs K H tv' td' g' ∧ (fc' ++ g').Nodup ∧ ∀ b ∈ fc' ++ g', b ∈ fc ++ g) →
        Fr K B (putO env l (.dic ks' ds')) tv' td' σ (upd H a o')) := by
  obtain ⟨s, d2, hs, ho, hd2, he⟩ := atO_lk hl
  rw [hd] at hd2; cases hd2
  obtain ⟨fe, g, r1, r2, n, back⟩ := h.lend hs ho hx hn he
  rw [RpO] at r1
  obtain ⟨a, o, xs, fc, rfl, ha, hdr, rfl, r3⟩ := r1
  refine ⟨a, o, xs, rfl, ha, hdr, RpOs.view _ _ _ r3, fun o' ks' ds' xs' tv' td' dr' give => ?_⟩
  have n2 : (fc ++ g).Nodup := by rw [List.cons_append, List.nodup_cons] at n; exact n.2
  obtain ⟨fc', g', q1, q2, q3, sub⟩ := give fc g r3 r2 n2
  have an : a ∉ fc ++ g := by
    rw [List.cons_append, List.nodup_cons] at n
    exact n.1
  have an' : a ∉ fc' ++ g' := fun hm => an (sub a hm)
  have kt : Kt H (upd H a o') := Kt.upd ha hdr.wr
  have ne : ∀ b, b ≠ a → ∀ o, H b = some o → upd H a o' b = some o := fun b hb o e => by rw [upd_ne hb]; exact e
  unfold putO
  rw [hs]
  simp only [ho]
  refine back (upd H a o') (.dic ks' ds') tv' td' (a :: fc') g' kt ?_ ?_ (RpOs.keep kt _ _ _ (fun b hb o e => ne b (fun q => an' (by rw [← q]; exact List.mem_append_right _ hb)) o e) q2) ?_ (fun b hb => ?_)
  · refine off_same fun b o e1 e2 => ?_
    rw [List.cons_append, List.mem_cons, not_or] at e2
    refine ⟨ne b e2.1 o e1, fun hm => ?_⟩
    rw [List.cons_append, List.mem_cons] at hm
    rcases hm with hm | hm
    · exact e2.1 hm
    · exact e2.2 (sub b hm)
  · rw [RpO]
    exact ⟨a, o', xs', fc', rfl, upd_same, dr', rfl, RpOs.keep kt _ _ _ (fun b hb o e => ne b (fun q => an' (by rw [← q]; exact List.mem_append_left _ hb)) o e) q1⟩
  · rw [List.cons_append, List.nodup_cons]
    exact ⟨an', q3⟩
  · rw [List.cons_append, List.mem_cons] at hb
    rw [List.cons_append, List.mem_cons]
    rcases hb with hb | hb
    · exact .inl (.inl hb)
    · exact .inl (.inr (sub b hb))
end
section
variable {X : Cx} {W : WX} {a b c e o i : Expr} {ta tb tc tk tv to ti : TE} {pa pb pc pi pk pv : PX} {ga : En → Eg D} {pl : En → Ev Lv} {pos tpos : Pos}
def sSetD (p : En → Ev Lv) (q : PX) (g : En → Eg D) : En → Ou := fun env => match g env with
  | .ok d e => (match p e with
    | .ok l => (match q e with
      | .ok k => (match atO e l, kY k with
        | some (.dic ks ds), some κ => if kOk ks κ = true ∧ ks.length < sizeLine ∧ ds.length = ks.length then .nx (putO e l (.dic (kPut ks κ k) (vPut ks ds κ d))) else .stuck
        | _, _ => .stuck)
      | _ => .stuck)
    | _ => .stuck)
  | .exc x e => .exc x e
  | .stuck => .stuck
theorem KyV.mono {K : Kb} {H H' : Hp} {y : V} {κ : Ky} (s : Same H H') (h : KyV K H y κ) : KyV K H' y κ := by
  cases κ with
  | a k => exact h
  | t l => obtain ⟨b, e, sb⟩ := h; exact ⟨b, e, sqt_same s sb⟩
theorem js_setD {k : Nat} (hr : Room k X.A) (h : JG X W a ta ga) (hl : JL X W o to pl) (hi : JV X W i ti pi)
    (hs : swapsWithSole [.Subscript o i tpos] a pos.line X.env = pure false := by rfl) (hw : swappedStores [.Subscript o i tpos] a X.env = pure none := by rfl) (h1 : (assignEach [.Subscript o i tpos] X.env).map (·.2) = [assign (.Subscript o i tpos) X.env] := by rfl)
    (ha : ∀ v, assign (.Subscript o i tpos) X.env v = (do
      let ov ← holding [v] (eval o X.env)
      let iv ← holding [v, ov] (eval i X.env)
      standAt tpos
      holding [v, ov, iv] (setItem ov iv v)
      release [v, ov, iv] []) := by intro _; rfl) :
    JS X W (.Assign [.Subscript o i tpos] a pos) (tAsg ta (gSub to ti (rSetD X.G))) (sSetD pl pi ga) := ⟨ps_asg h.pe (pg_sub hl.pe hi.pe (set_dic (hu_1 hr)) ha) hs hw h1, fun B env σ H hF => by
  have q := h.sg B env [] [] σ H hF
  unfold sSetD
  cases ho : ga env with
  | exc y e => exact ⟨fun _ q => (by cases q), fun _ _ q => (by cases q), fun _ q => (by cases q), fun _ q => (by cases q), fun y' e' q' D hD => (by cases q'; exact q.ex _ _ ho _ fun cls dd H' hF' r => hD cls dd σ H' hF' r)⟩
  | stuck => exact Ss.stuck
  | ok d e =>
    simp only
    cases hp : pl e with
    | exc y => exact Ss.stuck
    | stuck => exact Ss.stuck
    | ok l =>
      simp only
      cases hq : pi e with
      | exc y => exact Ss.stuck
      | stuck => exact Ss.stuck
      | ok kd =>
        simp only
        split
        · rename_i ks ds κ h1 hκ
          split
          · rename_i hc
            obtain ⟨c1, c2, c3⟩ := hc
            refine ⟨fun e' q' D hD => ?_, fun _ _ q => (by cases q), fun _ q => (by cases q), fun _ q => (by cases q), fun _ _ q => (by cases q)⟩
            cases q'
            refine q.ok d e ho _ fun z H1 hF1 => ?_
            refine hl.at_ e σ H1 hF1.vw l hp _ fun x0 d0 y H2 s2 e1 e2 hn => ?_
            refine (hi.sv e σ H2 (hF1.mono s2).vw).ok _ hq _ fun w H3 s3 rw_ => ?_
            have hF3 := (hF1.mono s2).mono s3
            obtain ⟨a1, o1, xs, rfl, hp1, dr, rs, wr⟩ := hF3.writeD h1 e1 e2 (NodeV.mono s3 hn)
            exact ⟨a1, o1, ks, xs, kd, κ, rfl, hp1, dr, hκ, kyV_of rw_ hκ, c1, c2, fun ho' wr' dr' => hD _ _ (wr ho' _ _ _ _ _ dr' fun fc g r1 r2 n => give_put c3 r1 r2 n)⟩
          · exact Ss.stuck
        · exact Ss.stuck⟩
/-! ### {} and {k: v} -/
theorem exK_new {P : Program} {w : World} {H : Hp} (h : Heap) (hb : sysModules < h.objs.size) : ObjOk P w H (h.push { cls := .type "dict", data := .dict #[] }) h.objs.size (exK P w h.objs.size []) :=
  exK_ok (Heap.DictOf.new h) (Nat.zero_le _) (beq_eq_false_iff_ne.mpr (Ne.symm (Nat.ne_of_lt hb)))
def tDic0 (K : Kb) : TE := fun _ H Q => ∀ p, H p = none → Q (.ref p) (upd H p (exK K.P K.w p []))
theorem pe_dic0 : PE X (.Dict [] [] pos) (tDic0 X.G) := ⟨fun pins s σ H Q I h =>
  wpAny_Dict_empty ⟨.ref s.heap.objs.size, _, I.laid (a := s.heap.objs.size) (o := exK X.prog X.w s.heap.objs.size []) (t' := s.toks) (fun _ _ q => Heap.get?_push_of_some _ q) (Nat.le_refl _) (exK_new s.heap I.big), rfl, h _ (I.hok.fresh (Nat.le_refl _))⟩⟩
def pDic0 : PX := fun _ => .ok (.dic [] [])
theorem jo_dic0 : JO X W (.Dict [] [] pos) (tDic0 X.G) pDic0 := ⟨pe_dic0, fun env σ H hv => ⟨fun d' e Q hQ => fun p np => by
  cases e
  refine hQ _ _ (same_new np) ⟨[p], ?_, (List.nodup_cons.mpr ⟨List.not_mem_nil, List.nodup_nil⟩), fun a ha => by rw [List.mem_singleton.mp ha]; exact np⟩
  rw [RpO]
  exact ⟨p, _, [], [], rfl, upd_same, .inl ⟨[], rfl, rfl, .nil⟩, rfl, by rw [RpOs]⟩, fun _ q => (by cases q)⟩⟩
def tDic1 (K : Kb) (tk tv : TE) : TE := fun σ H Q => ∀ p, H p = none → tk σ (upd H p (exK K.P K.w p [])) fun x H1 => tv σ H1 fun y H2 => H2 p = some (exK K.P K.w p []) ∧ ∃ k κ, kY k = some κ ∧ KyV K H2 x κ ∧
  ∀ ho', Wr ho' → DicR K (upd H2 p ho') p ho' [k] [y] → Q (.ref p) (upd H2 p ho')
theorem pe_dic1 {k v : Expr} {n : Nat} (hr : Room n X.A) (hk : PE X k tk) (hv : PE X v tv) : PE X (.Dict [some k] [v] pos) (tDic1 X.G tk tv) := by
  refine ⟨fun pins s σ H Q I q => ?_⟩
  have hn := I.hok.fresh (Nat.le_refl s.heap.objs.size)
  have I1 := I.laid (a := s.heap.objs.size) (o := exK X.prog X.w s.heap.objs.size []) (h' := s.heap.push { cls := .type "dict", data := .dict #[] }) (t' := s.toks) (fun _ _ q => Heap.get?_push_of_some _ q) (Nat.le_refl _) (exK_new s.heap I.big)
  refine wpAny_Dict_any rfl rfl (by simp) (by simp) (pairTrees_cons_walk (thn (hk.run pins _ σ _ _ I1 (q _ hn)) fun u s1 ⟨x, H1, I2, rx, q1⟩ => thn (hv.run pins s1 σ H1 _ I2 q1) fun w2 s2 ⟨y, H2, I3, ry, e, kd, κ, hκ, ky, q2⟩ => pairTrees_nil_walk ?_))
  have hlen : (0 : Nat) + 1 ≤ sizeLine := by decide
  have new : DicR X.G H2 s.heap.objs.size (exK X.prog X.w s.heap.objs.size []) [] [] := .inl ⟨[], rfl, rfl, .nil⟩
  have d := dic_at (κ := κ) I3 (.inl e) new rfl
  cases κ with
  | a c =>
    obtain ⟨E, hE, vs, dd, z, ns⟩ := d
    obtain rfl : E = [] := List.map_eq_nil_iff.mp hE.symm
    obtain rfl : x = akV c := ky
    obtain rfl := kY_eqa hκ
    refine wpAny_storeAll (knd := akKind X.prog X.w) [(u, w2)] [(c, w2)] [] s2 _ ⟨akIs_of rx, rfl, True.intro⟩ dd hlen fun h' dd' hs => ⟨.ref s.heap.objs.size, _, ?_, rfl, q2 (exK X.prog X.w s.heap.objs.size (merged [] [(c, w2)])) .ext (.inl ⟨_, rfl, rfl, .cons ry .nil⟩)⟩
    exact d_write I3 (by rw [e]; exact True.intro) hs (let ⟨o, _, _, e, _⟩ := dd'; ⟨o, e⟩) (exK_ok dd' hlen ns)
  | t c =>
    obtain ⟨E, hE, vs, rt, dd, z, ns⟩ := d
    obtain rfl : E = [] := List.map_eq_nil_iff.mp hE.symm
    obtain ⟨b, rfl, sb⟩ := ky
    obtain rfl := kY_eqt hκ
    obtain rfl : u = Value.ref b := rx
    refine wpAny_storeAllH (knd := tupleKind (akKind X.prog X.w)) (show X.A.units < cLine by have := hr.un; omega) [(.ref b, w2)] [(c, b, w2)] [] s2 _ ⟨rfl, rfl, ak_key I3 sb, True.intro⟩ dd hlen fun h' tk' dd' hs => ⟨.ref s.heap.objs.size, _, ?_, rfl, q2 (exT X.prog X.w s.heap.objs.size (storedAllH [] [(c, b, w2)])) .ext (.inr ⟨_, rfl, rfl, .cons ry .nil, fun e' he' => ?_⟩)⟩
    · exact d_write I3 (by rw [e]; exact True.intro) hs (let ⟨o, _, _, e, _⟩ := dd'; ⟨o, e⟩) (exT_ok dd' hlen ns)
    · have : e' = (c, b, w2) := List.mem_singleton.mp he'
      subst this
      exact sqt_kt (K := X.G) (Kt.upd e .ext) sb
def pDic1 (pk pv : PX) : PX := fun env => (pk env).bind fun k => (pv env).bind fun d => match kY k with
  | some _ => .ok (.dic [k] [d])
  | none => .stuck
theorem jo_dic1 {k v : Expr} {n : Nat} (hr : Room n X.A) (hk : JV X W k tk pk) (hv : JO X W v tv pv) : JO X W (.Dict [some k] [v] pos) (tDic1 X.G tk tv) (pDic1 pk pv) := ⟨pe_dic1 hr hk.pe hv.pe, fun env σ H hvw => by
  unfold pDic1
  cases h1 : pk env with
  | stuck => exact Do.stuck
  | exc y => exact ⟨fun _ q => (by cases q), fun e q Q hQ p np => (by cases q; exact (hk.sv env σ _ (hvw.mono (same_new np))).ex _ h1 _ fun cls dd H' s r => hQ cls dd H' ((same_new np).trans s) r)⟩
  | ok kd =>
    simp only [Ev.bind]
    cases h2 : pv env with
    | stuck => exact Do.stuck
    | exc y => exact ⟨fun _ q => (by cases q), fun e q Q hQ p np => (by
        cases q
        exact (hk.sv env σ _ (hvw.mono (same_new np))).ok _ h1 _ fun x H1 s1 r1 => (hv.so env σ H1 ((hvw.mono (same_new np)).mono s1)).ex _ h2 _ fun cls dd H' s r => hQ cls dd H' (((same_new np).trans s1).trans s) r)⟩
    | ok d =>
      simp only
      split
      · rename_i κ hκ
        refine ⟨fun d' e Q hQ p np => ?_, fun _ q => (by cases q)⟩
        cases e
        refine (hk.sv env σ _ (hvw.mono (same_new np))).ok _ h1 _ fun x H1 s1 r1 => (hv.so env σ H1 ((hvw.mono (same_new np)).mono s1)).ok _ h2 _ fun y H2 s2 r2 => ?_
        have e2 : H2 p = some (exK X.prog X.w p []) := s2 _ _ (s1 _ _ upd_same)
        obtain ⟨f, ro, nf, wf⟩ := r2
        have pf : p ∉ f := fun hm => by have := wf p hm; rw [s1 _ _ upd_same] at this; cases this
        refine ⟨e2, kd, κ, hκ, (kyV_of r1 hκ).mono s2, fun ho' wr' dr => hQ _ _ (same_mut (((same_new np).trans s1).trans s2) np) ⟨p :: f, ?_, List.nodup_cons.mpr ⟨pf, nf⟩, fun b hb => ?_⟩⟩
        · rw [RpO]
          refine ⟨p, ho', [y], f, rfl, upd_same, dr, rfl, RpOs.one (RpO.keep (Kt.upd e2 .ext) _ _ _ (fun b hb o q => ?_) ro)⟩
          rw [upd_ne (fun q' => pf (by rw [← q']; exact hb))]; exact q
        · rcases List.mem_cons.mp hb with q | hb
          · rw [q]; exact np
          · exact ((same_new np).trans s1).free (wf b hb)
      · exact Do.stuck⟩
end
end Gw

set_option maxHeartbeats 4000000
/-! GxP: int(x), sorted(ints). -/
namespace Gw
open PySem PySem.Spec PyProof.Rows L2
section
variable {X : Cx} {W : WX} {e : Expr} {es : List Expr} {tes : TA} {ps : En → Ev (List D)} {pos : Pos}
def bInt : List D → Ev D
  | [.v (.int i)] => .ok (.i i)
  | [.v (.bl k)] => .ok (.i (if k then 1 else 0))
  | _ => .stuck
def rIntU : List V → Hp → VK → Prop := fun xs H Q => (∃ i, xs = [.int i] ∧ Q (.int i) H) ∨ ∃ k, xs = [.bl k] ∧ Q (.int (if k then 1 else 0)) H
theorem cd_int : CaD X W rIntU bInt := fun σ H xs ds r => by
  unfold bInt
  split
  · obtain ⟨x, rfl, r1⟩ := r.one
    rw [r1.atom]
    exact Do.now (fun Q h => .inl ⟨_, rfl, h⟩) RO.atom
  · obtain ⟨x, rfl, r1⟩ := r.one
    rw [r1.atom]
    exact Do.now (fun Q h => .inr ⟨_, rfl, h⟩) RO.atom
  · exact Do.stuck
theorem jo_int1 {p : Pos} (hg : Gl X "int") (hm : X.mg "int" = none) (ha : JAs X W (e :: es) tes ps)
    (he : starEach (e :: es) X.env = (false, eval e X.env) :: starEach es X.env := by rfl) (hpl : (backTo pos (starEach es X.env)).any (·.1) = false := by rfl) : JO X W (.Call (.Name "int" p) (e :: es) [] pos) (tCB rIntU tes) (pCall bInt ps) :=
  jo_bty call_int1 cd_int hg hm (by decide +kernel) ha (by decide) (by decide) he hpl
/-! ### sorted(ints) -/
def intsD : List D → Option (List Int)
  | [] => some []
  | .v (.int i) :: ds => (intsD ds).map (i :: ·)
  | _ :: _ => none
theorem intsD_eq : ∀ {ds : List D} {ns : List Int}, intsD ds = some ns → ds = ns.map D.i
  | [], _, h => by cases h; rfl
  | .v (.int i) :: ds, ns, h => by
    rw [intsD] at h
    obtain ⟨r, h1, h2⟩ := Option.map_eq_some_iff.mp h
    subst h2
    rw [List.map_cons, ← intsD_eq h1]
  | .v .non :: _, _, h => nomatch h
  | .v (.bl _) :: _, _, h => nomatch h
  | .v (.str _) :: _, _, h => nomatch h
  | .v (.ref _) :: _, _, h => nomatch h
  | .v (.ty _) :: _, _, h => nomatch h
  | .v (.byt _) :: _, _, h => nomatch h
  | .tup _ :: _, _, h => nomatch h
  | .lst _ :: _, _, h => nomatch h
  | .fro _ :: _, _, h => nomatch h
  | .dic _ _ :: _, _, h => nomatch h
  | .obj _ _ _ :: _, _, h => nomatch h
theorem intsD_map : ∀ {ns : List Int}, intsD (ns.map D.i) = some ns
  | [] => rfl
  | n :: ns => by rw [List.map_cons, intsD, intsD_map]; rfl
def insI (x : Int) : List Int → List Int
  | [] => [x]
  | y :: r => if x ≤ y then x :: y :: r else y :: insI x r
def sortI : List Int → List Int
  | [] => []
  | x :: r => insI x (sortI r)
theorem insI_perm {x : Int} : ∀ {l : List Int}, (insI x l).Perm (x :: l)
  | [] => List.Perm.refl _
  | y :: r => by
    unfold insI
    split
    · exact List.Perm.refl _
    · exact (insI_perm.cons y).trans (List.Perm.swap x y r)
theorem sortI_perm : ∀ {l : List Int}, (sortI l).Perm l
  | [] => List.Perm.refl _
  | x :: r => insI_perm.trans (sortI_perm.cons x)
theorem insI_srt {x : Int} : ∀ {l : List Int}, l.Pairwise (· ≤ ·) → (insI x l).Pairwise (· ≤ ·)
  | [], _ => by unfold insI; simp
  | y :: r, h => by
    unfold insI
    rw [List.pairwise_cons] at h
    split
    · rename_i hx
      rw [List.pairwise_cons, List.pairwise_cons]
      exact ⟨fun z hz => by
        rcases List.mem_cons.mp hz with e | hz
        · rw [e]; exact hx
        · exact Int.le_trans hx (h.1 z hz), h⟩
    · rename_i hx
      rw [List.pairwise_cons]
      exact ⟨fun z hz => by
        rcases List.mem_cons.mp (insI_perm.mem_iff.mp hz) with e | hz
        · rw [e]; omega
        · exact h.1 z hz, insI_srt h.2⟩
theorem sortI_srt : ∀ {l : List Int}, (sortI l).Pairwise (· ≤ ·)
  | [] => List.Pairwise.nil
  | x :: r => insI_srt sortI_srt
theorem srt_eq : ∀ {l m : List Int}, l.Perm m → l.Pairwise (· ≤ ·) → m.Pairwise (· ≤ ·) → l = m
  | [], m, p, _, _ => (List.nil_perm.mp p).symm
  | x :: l, [], p, _, _ => by simpa using p.length_eq
  | x :: l, y :: m, p, h1, h2 => by
    rw [List.pairwise_cons] at h1 h2
    have a : x ∈ y :: m := p.mem_iff.mp List.mem_cons_self
    have b : y ∈ x :: l := p.mem_iff.mpr List.mem_cons_self
    have e : x = y := by
      rcases List.mem_cons.mp a with e | a
      · exact e
      · rcases List.mem_cons.mp b with e | b
        · exact e.symm
        · exact Int.le_antisymm (h1.1 y b) (h2.1 x a)
    subst e
    rw [srt_eq (List.perm_cons x |>.mp p) h1.2 h2.2]
def bSortI : List D → Ev D
  | [.lst ds] => (match intsD ds with
    | some ns => .ok (.lst ((sortI ns).map D.i))
    | none => .stuck)
  | [.fro ds] => (match intsD ds with
    | some ns => .ok (.lst ((sortI ns).map D.i))
    | none => .stuck)
  | _ => .stuck
theorem ints_rp {K : Kb} {H : Hp} : ∀ {ns : List Int} {xs : List V}, RpVs K H xs (ns.map D.i) → xs = ns.map V.int
  | [], [], _ => rfl
  | n :: ns, x :: xs, h => by
    rw [List.map_cons, RpVs] at h
    rw [List.map_cons, ints_rp h.2, h.1.atom]
  | [], _ :: _, h => by simp [RpVs] at h
  | _ :: _, [], h => by simp [RpVs] at h
theorem rp_ints {K : Kb} {H : Hp} : ∀ {ns : List Int}, RpVs K H (ns.map V.int) (ns.map D.i)
  | [] => by rw [List.map_nil, List.map_nil, RpVs]; trivial
  | n :: ns => by rw [List.map_cons, List.map_cons, RpVs]; exact ⟨by rw [RpV], rp_ints⟩
theorem imms_ints : ∀ {ns : List Int}, imms (ns.map D.i) = true
  | [] => by rw [List.map_nil, imms]
  | n :: ns => by rw [List.map_cons, imms, imms_ints]; rfl
theorem cd_sortI : CaD X W (rSortedI X.K) bSortI := fun σ H xs ds r => by
  unfold bSortI
  split
  · split
    · rename_i ds ns hn
      obtain ⟨x, rfl, r1⟩ := r.one
      rw [intsD_eq hn, RpV] at r1
      obtain ⟨a, ys, rfl, h1, h2⟩ := r1
      rw [ints_rp h2] at h1
      exact Do.newL (xs := (sortI ns).map V.int) rp_ints imms_ints fun Q h => ⟨a, ns, rfl, SqL.of h1, fun ns' p hp hs np => by
        rw [srt_eq (hp.trans sortI_perm.symm) hs sortI_srt]; exact h p np⟩
    · exact Do.stuck
  · split
    · rename_i ds ns hn
      obtain ⟨x, rfl, r1⟩ := r.one
      rw [intsD_eq hn, RpV] at r1
      obtain ⟨a, ys, rfl, h1, h2⟩ := r1
      rw [ints_rp h2] at h1
      exact Do.newL (xs := (sortI ns).map V.int) rp_ints imms_ints fun Q h => ⟨a, ns, rfl, h1, fun ns' p hp hs np => by
        rw [srt_eq (hp.trans sortI_perm.symm) hs sortI_srt]; exact h p np⟩
    · exact Do.stuck
  · exact Do.stuck
theorem jo_sortI {p : Pos} (hg : Gl X "sorted") (hm : X.mg "sorted" = none) (ha : JAs X W (e :: es) tes ps)
    (he : starEach (e :: es) X.env = (false, eval e X.env) :: starEach es X.env := by rfl) (hpl : (backTo pos (starEach es X.env)).any (·.1) = false := by rfl) : JO X W (.Call (.Name "sorted" p) (e :: es) [] pos) (tCB (rSortedI X.K) tes) (pCall bSortI ps) :=
  jo_blt cr_sortedI cd_sortI hg hm (by decide +kernel) ha (by decide) (by decide) he hpl
end
/-! ### rules for simp -/
@[simp] theorem pDic0_e {e : En} : pDic0 e = .ok (.dic [] []) := (rfl)
@[simp] theorem pDic1_e {pk pv : PX} {e : En} : pDic1 pk pv e = (pk e).bind fun k => (pv e).bind fun d => match kY k with
  | some _ => .ok (.dic [k] [d])
  | none => .stuck := (rfl)
@[simp] theorem sSetD_e {p : En → Ev Lv} {q : PX} {g : En → Eg D} {e : En} : sSetD p q g e = (match g e with
  | .ok d e => (match p e with
    | .ok l => (match q e with
      | .ok k => (match atO e l, kY k with
        | some (.dic ks ds), some κ => if kOk ks κ = true ∧ ks.length < sizeLine ∧ ds.length = ks.length then .nx (putO e l (.dic (kPut ks κ k) (vPut ks ds κ d))) else .stuck
        | _, _ => .stuck)
      | _ => .stuck)
    | _ => .stuck)
  | .exc x e => .exc x e
  | .stuck => .stuck) := (rfl)
@[simp] theorem dDIx_e {ks vs : List D} {k : D} : dDIx (.dic ks vs) k = (match kY k with
    | some κ => if kOk ks κ = true then (match (kIx ks κ).bind fun j => vs[j]? with
      | some d => .ok d
      | none => .stuck) else .stuck
    | none => .stuck) := (rfl)
@[simp] theorem dDIn_e {neg : Bool} {ks vs : List D} {k : D} : dDIn neg k (.dic ks vs) = (match kY k with
    | some κ => if kOk ks κ = true then .ok (.b (if neg then !(kIx ks κ).isSome else (kIx ks κ).isSome)) else .stuck
    | none => .stuck) := (rfl)
@[simp] theorem bInt_i {i : Int} : bInt [.v (.int i)] = .ok (.i i) := (rfl)
@[simp] theorem bInt_b {k : Bool} : bInt [.v (.bl k)] = .ok (.i (if k then 1 else 0)) := (rfl)
@[simp] theorem bSortI_l {ns : List Int} : bSortI [.lst (ns.map D.i)] = .ok (.lst ((sortI ns).map D.i)) := by rw [bSortI, intsD_map]
end Gw

namespace K82
open PySem PySem.Spec PyProof.Rows L2 Gw
def topS (i : Nat) : Stmt := PySem.Challenge.pw_guesswide_k82_whole_works_told_apart.main.body.getD i (.Pass ⟨0, 0, 0, 0⟩)
def tbl_AskError_BadHouse_BadWord : Str → Option (Bool × Bool × Bool) := fun n => if n = "AskError" then some (true, false, false) else if n = "BadHouse" then some (true, true, false) else if n = "BadWord" then some (true, false, true) else none
/-! ### less -/
abbrev st_less : Stmt := topS 5
abbrev N_less : List Str := ["word", "other", "mine", "theirs"]
theorem sc_less : FnScope N_less ["word", "other"] (defScope st_less) := ⟨rfl, rfl, rfl, by decide +kernel, rfl, by decide +kernel, by decide +kernel⟩
def less_b1 : En → Ou :=
    (sIf (qB (p2 (dEq true) (pV 2) (pV 3)))
    (sRet (gL (p2 dLt (pV 2) (pV 3))))
    sNil)
def less_s : En → Ou :=
    (sSeq (sIf (qB (p2 (dEq true) (pCall bLen (aCons (pV 0) aNil)) (pCall bLen (aCons (pV 1) aNil))))
    (sRet (gL (p2 dLt (pCall bLen (aCons (pV 0) aNil)) (pCall bLen (aCons (pV 1) aNil)))))
    sNil)
    (sSeq (sForZ (nTup (nsCons (nTg 2) (nsCons (nTg 3) nsNil))) [2, 3] (pFz 0) (pFz 1)
    less_b1)
    (sRet (gL (pC (.bl false))))))
def less_d : List D → Ev D := fnD 4 less_s
/-! ### spread -/
abbrev st_spread : Stmt := topS 7
abbrev N_spread : List Str := ["plain", "helpers", "local", "rows", "signs", "sign"]
theorem sc_spread : FnScope N_spread ["plain", "helpers", "local", "rows"] (defScope st_spread) := ⟨rfl, rfl, rfl, by decide +kernel, rfl, by decide +kernel, by decide +kernel⟩
def spread_b1 : En → Ou :=
    (sSeq (sAppend 4 (gL (pImm (pV 5))))
    (sIf (qB (p2 dGe (pV 5) (pV 0)))
    (sSeq (sExpr (gM (lVar 4) fxExtend (aCons (p2 dIx (pV 3) (p2 dSub (pV 5) (pV 0))) aNil)))
    (sAppend 4 (gL (p2 dAdd (pV 0) (pV 1)))))
    sNil))
def spread_s : En → Ou :=
    (sSeq (sSet 4 (gL (pLst aNil)))
    (sSeq (sFor (nTg 5) [5] (pFz 2)
    spread_b1)
    (sRet (gL (pCall bTuple (aCons (pV 4) aNil))))))
def spread_d : List D → Ev D := fnD 6 spread_s
/-! ### letters_made -/
abbrev st_letters_made : Stmt := topS 9
abbrev N_letters_made : List Str := ["works", "rows", "plain", "houses", "made", "helper", "letter"]
theorem sc_letters_made : FnScope N_letters_made ["works", "rows"] (defScope st_letters_made) := ⟨rfl, rfl, rfl, by decide +kernel, rfl, by decide +kernel, by decide +kernel⟩
def letters_made_b1 : En → Ou :=
    (sIf (qB (p2 (dIsN false) (p2 dIx (pV 1) (pV 5)) (pC .non)))
    (sAppend 4 (gL (pC .non)))
    (sAppend 4 (gL (pCall spread_d (aCons (pV 2) (aCons (pCall bLen (aCons (pV 3) aNil)) (aCons (pTup (aCons (p2 dAdd (pV 2) (pV 5)) aNil)) (aCons (pV 1) aNil))))))))
def letters_made_s : En → Ou :=
    (sSeq (sUn (nTup (nsCons (nTg 2) (nsCons (nTg 3) nsNil))) (pFz 0))
    (sSeq (sSet 4 (gL (pCompR (nTg 6) qYes (pTup (aCons (pImm (pV 6)) aNil)) [6] (pV 2))))
    (sSeq (sForR (nTg 5) [5] (pCall bLen (aCons (pV 3) aNil))
    letters_made_b1)
    (sRet (gTake 4)))))
def letters_made_d : List D → Ev D := fnD 7 letters_made_s
/-! ### lesser -/
abbrev st_lesser : Stmt := topS 10
abbrev N_lesser : List Str := ["row", "other"]
theorem sc_lesser : FnScope N_lesser ["row", "other"] (defScope st_lesser) := ⟨rfl, rfl, rfl, by decide +kernel, rfl, by decide +kernel, by decide +kernel⟩
def lesser_s : En → Ou :=
    (sSeq (sIf (qOr (qB (p2 (dIsN false) (pV 0) (pC .non))) (qAnd (qB (p2 (dIsN true) (pV 1) (pC .non))) (fun e => ((pCall less_d (aCons (pV 1) (aCons (pV 0) aNil))) e).bind dTruth)))
    (sRet (gTake 1))
    sNil)
    (sRet (gTake 0)))
def lesser_d : List D → Ev D := fnD 2 lesser_s
/-! ### rows_to_rooms -/
abbrev st_rows_to_rooms : Stmt := topS 11
abbrev N_rows_to_rooms : List Str := ["house", "made", "found", "turned", "room", "letter", "to", "row"]
theorem sc_rows_to_rooms : FnScope N_rows_to_rooms ["house", "made"] (defScope st_rows_to_rooms) := ⟨rfl, rfl, rfl, by decide +kernel, rfl, by decide +kernel, by decide +kernel⟩
noncomputable def rows_to_rooms_b1 : En → Ou :=
    (sIf (qAnd (qB (p2 (dIsN true) (p2 dIx (pV 2) (pV 4)) (pC .non))) (qB (p2 (dIsN true) (p2 dIx (pV 1) (pV 5)) (pC .non))))
    (sSeq (sSet 6 (gL (pImm (p2 dIx (p2 dIx (p2 dIx (pV 0) (pC (.int 2))) (pV 4)) (pV 5)))))
    (sSeq (sSet 7 (gL (pCall lesser_d (aCons (p2 dIx (pV 2) (pV 6)) (aCons (p2 dAdd (p2 dIx (pV 2) (pV 4)) (p2 dIx (pV 1) (pV 5))) aNil)))))
    (sIf (qB (p2 (dEq true) (pV 7) (p2 dIx (pV 2) (pV 6))))
    (sSeq (sSetItem (lVar 2) (pV 6) (gTake 7))
    (sSet 3 (gL (pC (.bl true)))))
    sNil)))
    sNil)
noncomputable def rows_to_rooms_b2 : En → Ou :=
    (sForR (nTg 5) [5, 6, 7] (p2 dIx (pV 0) (pC (.int 0)))
    rows_to_rooms_b1)
noncomputable def rows_to_rooms_b3 : En → Ou :=
    (sSeq (sSet 3 (gL (pC (.bl false))))
    (sForR (nTg 4) [4, 5, 6, 7] (pCall bLen (aCons (pV 2) aNil))
    rows_to_rooms_b2))
noncomputable def rows_to_rooms_s : En → Ou :=
    (sSeq (sSet 2 (gL (p2 dMul (pLst (aCons (pC .non) aNil)) (pCall bLen (aCons (p2 dIx (pV 0) (pC (.int 1))) aNil)))))
    (sSeq (sSetItem (lVar 2) (pC (.int 0)) (gL (pTup aNil)))
    (sSeq (sSet 3 (gL (pC (.bl true))))
    (sSeq (sWhile (fun e => ((pV 3) e).bind dTruth) [4, 5, 6, 7]
    rows_to_rooms_b3)
    (sRet (gTake 2))))))
noncomputable def rows_to_rooms_d : List D → Ev D := fnD 8 rows_to_rooms_s
/-! ### shortest -/
abbrev st_shortest : Stmt := topS 12
abbrev N_shortest : List Str := ["works", "rows", "turned", "made", "helper", "house", "best", "room", "row"]
theorem sc_shortest : FnScope N_shortest ["works"] (defScope st_shortest) := ⟨rfl, rfl, rfl, by decide +kernel, rfl, by decide +kernel, by decide +kernel⟩
noncomputable def shortest_b1 : En → Ou :=
    (sIf (qB (p2 (dEq true) (p2 dIx (p2 dIx (pV 5) (pC (.int 1))) (pV 7)) (pC (.int 0))))
    (sSet 6 (gL (pCall lesser_d (aCons (pV 6) (aCons (pV 8) aNil)))))
    sNil)
noncomputable def shortest_b2 : En → Ou :=
    (sSeq (sSet 5 (gL (pImm (p2 dIx (p2 dIx (pV 0) (pC (.int 1))) (pV 4)))))
    (sSeq (sSet 6 (gL (pC .non)))
    (sSeq (sForE (nTup (nsCons (nTg 7) (nsCons (nTg 8) nsNil))) [7, 8] (pCall rows_to_rooms_d (aCons (pV 5) (aCons (pV 3) aNil)))
    shortest_b1)
    (sIf (qB (p2 (dEq true) (pV 6) (p2 dIx (pV 1) (pV 4))))
    (sSeq (sSetItem (lVar 1) (pV 4) (gTake 6))
    (sSet 2 (gL (pC (.bl true)))))
    sNil))))
noncomputable def shortest_b3 : En → Ou :=
    (sSeq (sSet 2 (gL (pC (.bl false))))
    (sSeq (sSet 3 (gL (pCall letters_made_d (aCons (pV 0) (aCons (pV 1) aNil)))))
    (sForR (nTg 4) [4, 5, 6, 7, 8] (pCall bLen (aCons (pV 1) aNil))
    shortest_b2)))
noncomputable def shortest_s : En → Ou :=
    (sSeq (sSet 1 (gL (p2 dMul (pLst (aCons (pC .non) aNil)) (pCall bLen (aCons (p2 dIx (pV 0) (pC (.int 1))) aNil)))))
    (sSeq (sSet 2 (gL (pC (.bl true))))
    (sSeq (sWhile (fun e => ((pV 2) e).bind dTruth) [3, 4, 5, 6, 7, 8]
    shortest_b3)
    (sRet (gTake 1)))))
noncomputable def shortest_d : List D → Ev D := fnD 9 shortest_s
/-! ### rows_from_rooms -/
abbrev st_rows_from_rooms : Stmt := topS 13
abbrev N_rows_from_rooms : List Str := ["house", "made", "found", "room", "turned", "letter", "last", "row"]
theorem sc_rows_from_rooms : FnScope N_rows_from_rooms ["house", "made"] (defScope st_rows_from_rooms) := ⟨rfl, rfl, rfl, by decide +kernel, rfl, by decide +kernel, by decide +kernel⟩
noncomputable def rows_from_rooms_b1 : En → Ou :=
    (sIf (qB (p2 (dEq true) (p2 dIx (p2 dIx (pV 0) (pC (.int 1))) (pV 3)) (pC (.int 0))))
    (sSetItem (lVar 2) (pV 3) (gL (pTup aNil)))
    sNil)
noncomputable def rows_from_rooms_b2 : En → Ou :=
    (sSeq (sSet 6 (gL (pImm (p2 dIx (pV 2) (p2 dIx (p2 dIx (p2 dIx (pV 0) (pC (.int 2))) (pV 3)) (pV 5))))))
    (sIf (qAnd (qB (p2 (dIsN true) (pV 6) (pC .non))) (qB (p2 (dIsN true) (p2 dIx (pV 1) (pV 5)) (pC .non))))
    (sSeq (sSet 7 (gL (pCall lesser_d (aCons (p2 dIx (pV 2) (pV 3)) (aCons (p2 dAdd (p2 dIx (pV 1) (pV 5)) (pV 6)) aNil)))))
    (sIf (qB (p2 (dEq true) (pV 7) (p2 dIx (pV 2) (pV 3))))
    (sSeq (sSetItem (lVar 2) (pV 3) (gTake 7))
    (sSet 4 (gL (pC (.bl true)))))
    sNil))
    sNil))
noncomputable def rows_from_rooms_b3 : En → Ou :=
    (sForR (nTg 5) [5, 6, 7] (p2 dIx (pV 0) (pC (.int 0)))
    rows_from_rooms_b2)
noncomputable def rows_from_rooms_b4 : En → Ou :=
    (sSeq (sSet 4 (gL (pC (.bl false))))
    (sForR (nTg 3) [3, 5, 6, 7] (pCall bLen (aCons (pV 2) aNil))
    rows_from_rooms_b3))
noncomputable def rows_from_rooms_s : En → Ou :=
    (sSeq (sSet 2 (gL (p2 dMul (pLst (aCons (pC .non) aNil)) (pCall bLen (aCons (p2 dIx (pV 0) (pC (.int 1))) aNil)))))
    (sSeq (sForR (nTg 3) [3] (pCall bLen (aCons (pV 2) aNil))
    rows_from_rooms_b1)
    (sSeq (sSet 4 (gL (pC (.bl true))))
    (sSeq (sWhile (fun e => ((pV 4) e).bind dTruth) [3, 5, 6, 7]
    rows_from_rooms_b4)
    (sRet (gTake 2))))))
noncomputable def rows_from_rooms_d : List D → Ev D := fnD 8 rows_from_rooms_s
/-! ### calls_within -/
abbrev st_calls_within : Stmt := topS 14
abbrev N_calls_within : List Str := ["house", "plain", "made", "heads", "tails", "found", "room", "letter", "tail"]
theorem sc_calls_within : FnScope N_calls_within ["house", "plain", "made"] (defScope st_calls_within) := ⟨rfl, rfl, rfl, by decide +kernel, rfl, by decide +kernel, by decide +kernel⟩
noncomputable def calls_within_b1 : En → Ou :=
    (sSeq (sSet 8 (gL (pImm (p2 dIx (pV 4) (p2 dIx (p2 dIx (p2 dIx (pV 0) (pC (.int 2))) (pV 6)) (pV 7))))))
    (sIf (qAnd (qB (p2 (dIsN true) (p2 dIx (pV 3) (pV 6)) (pC .non))) (qAnd (qB (p2 (dIsN true) (p2 dIx (pV 2) (pV 7)) (pC .non))) (qB (p2 (dIsN true) (pV 8) (pC .non)))))
    (sAppend 5 (gL (pTup (aCons (p2 dSub (pV 7) (pV 1)) (aCons (pImm (p2 dIx (pV 3) (pV 6))) (aCons (pImm (pV 8)) aNil))))))
    sNil))
noncomputable def calls_within_b2 : En → Ou :=
    (sForR2 (nTg 7) [7, 8] (pV 1) (p2 dIx (pV 0) (pC (.int 0)))
    calls_within_b1)
noncomputable def calls_within_s : En → Ou :=
    (sSeq (sSet 3 (gL (pCall rows_to_rooms_d (aCons (pV 0) (aCons (pV 2) aNil)))))
    (sSeq (sSet 4 (gL (pCall rows_from_rooms_d (aCons (pV 0) (aCons (pV 2) aNil)))))
    (sSeq (sSet 5 (gL (pLst aNil)))
    (sSeq (sForR (nTg 6) [6, 7, 8] (pCall bLen (aCons (pV 3) aNil))
    calls_within_b2)
    (sRet (gTake 5))))))
noncomputable def calls_within_d : List D → Ev D := fnD 9 calls_within_s
/-! ### uses_of -/
abbrev st_uses_of : Stmt := topS 15
abbrev N_uses_of : List Str := ["works", "plain", "houses", "rows", "made", "found", "waiting", "helper", "ahead", "within", "behind", "other", "head", "tail"]
theorem sc_uses_of : FnScope N_uses_of ["works"] (defScope st_uses_of) := ⟨rfl, rfl, rfl, by decide +kernel, rfl, by decide +kernel, by decide +kernel⟩
noncomputable def uses_of_b1 : En → Ou :=
    (sIf (qB (p2 (dIsN false) (p2 dIx (pV 5) (pV 11)) (pC .non)))
    (sSeq (sSetItem (lVar 5) (pV 11) (gL (pTup (aCons (p2 dAdd (pV 8) (pV 12)) (aCons (pImm (p2 dIx (pV 3) (pV 11))) (aCons (p2 dAdd (pV 13) (pV 10)) aNil))))))
    (sAppend 6 (gTake 11)))
    sNil)
noncomputable def uses_of_b2 : En → Ou :=
    (sSeq (sSet 7 (gM (lVar 6) fxPopAt (aCons (pC (.int 0)) aNil)))
    (sSeq (sUn (nTup (nsCons (nTg 8) (nsCons (nTg 9) (nsCons (nTg 10) nsNil)))) (pImm (p2 dIx (pV 5) (pV 7))))
    (sSeq (sIf (qB (p2 dGt (pV 7) (pC (.int 0))))
    (sSeq (sSet 8 (gL (p2 dAdd (pV 8) (pTup (aCons (p2 dAdd (pV 1) (pV 7)) aNil)))))
    (sSet 10 (gL (p2 dAdd (pTup (aCons (p2 dAdd (pV 1) (pCall bLen (aCons (pV 2) aNil))) aNil)) (pV 10)))))
    sNil)
    (sFor (nTup (nsCons (nTg 11) (nsCons (nTg 12) (nsCons (nTg 13) nsNil)))) [11, 12, 13] (pCall calls_within_d (aCons (p2 dIx (pV 2) (pV 7)) (aCons (pV 1) (aCons (pV 4) aNil))))
    uses_of_b1))))
noncomputable def uses_of_t8 : En → Ou :=
    (sRet (gTake 5))
noncomputable def uses_of_t7 : En → Ou :=
    (sSeq (sWhile (qB (p2 dGt (pCall bLen (aCons (pV 6) aNil)) (pC (.int 0)))) [7, 8, 9, 10, 11, 12, 13]
    uses_of_b2)
    uses_of_t8)
noncomputable def uses_of_t6 : En → Ou :=
    (sSeq (sSet 6 (gL (pLst (aCons (pC (.int 0)) aNil))))
    uses_of_t7)
noncomputable def uses_of_t5 : En → Ou :=
    (sSeq (sSetItem (lVar 5) (pC (.int 0)) (gL (pTup (aCons (pTup aNil) (aCons (pImm (p2 dIx (pV 3) (pC (.int 0)))) (aCons (pTup aNil) aNil))))))
    uses_of_t6)
noncomputable def uses_of_t4 : En → Ou :=
    (sSeq (sIf (qB (p2 (dIsN false) (p2 dIx (pV 3) (pC (.int 0))) (pC .non)))
    (sRet (gTake 5))
    sNil)
    uses_of_t5)
noncomputable def uses_of_t3 : En → Ou :=
    (sSeq (sSet 5 (gL (p2 dMul (pLst (aCons (pC .non) aNil)) (pCall bLen (aCons (pV 2) aNil)))))
    uses_of_t4)
noncomputable def uses_of_t2 : En → Ou :=
    (sSeq (sSet 4 (gL (pCall letters_made_d (aCons (pV 0) (aCons (pV 3) aNil)))))
    uses_of_t3)
noncomputable def uses_of_t1 : En → Ou :=
    (sSeq (sSet 3 (gL (pCall shortest_d (aCons (pV 0) aNil))))
    uses_of_t2)
noncomputable def uses_of_s : En → Ou :=
    (sSeq (sUn (nTup (nsCons (nTg 1) (nsCons (nTg 2) nsNil))) (pFz 0))
    uses_of_t1)
noncomputable def uses_of_d : List D → Ev D := fnD 14 uses_of_s
/-! ### used_with -/
abbrev st_used_with : Stmt := topS 16
abbrev N_used_with : List Str := ["works", "helper", "use", "within", "plain", "houses"]
theorem sc_used_with : FnScope N_used_with ["works", "helper", "use", "within"] (defScope st_used_with) := ⟨rfl, rfl, rfl, by decide +kernel, rfl, by decide +kernel, by decide +kernel⟩
def used_with_s : En → Ou :=
    (sSeq (sIf (qB (p2 (dEq false) (pV 1) (pC (.int 0))))
    (sRet (gTake 3))
    sNil)
    (sSeq (sUn (nTup (nsCons (nTg 4) (nsCons (nTg 5) nsNil))) (pFz 0))
    (sRet (gL (p2 dAdd (p2 dAdd (p2 dAdd (p2 dAdd (p2 dIx (pV 2) (pC (.int 0))) (pTup (aCons (p2 dAdd (pV 4) (pV 1)) aNil))) (pV 3)) (pTup (aCons (p2 dAdd (pV 4) (pCall bLen (aCons (pV 5) aNil))) aNil))) (p2 dIx (pV 2) (pC (.int 2))))))))
def used_with_d : List D → Ev D := fnD 6 used_with_s
/-! ### room_next -/
abbrev st_room_next : Stmt := topS 17
abbrev N_room_next : List Str := ["house", "room", "letter", "made"]
theorem sc_room_next : FnScope N_room_next ["house", "room", "letter", "made"] (defScope st_room_next) := ⟨rfl, rfl, rfl, by decide +kernel, rfl, by decide +kernel, by decide +kernel⟩
def room_next_s : En → Ou :=
    (sSeq (sIf (qOr (qB (p2 (dIsN false) (pV 1) (pC .non))) (qB (p2 (dIsN false) (p2 dIx (pV 3) (pV 2)) (pC .non))))
    (sRet (gL (pC .non)))
    sNil)
    (sRet (gL (pImm (p2 dIx (p2 dIx (p2 dIx (pV 0) (pC (.int 2))) (pV 1)) (pV 2))))))
def room_next_d : List D → Ev D := fnD 4 room_next_s
/-! ### taken_at -/
abbrev st_taken_at : Stmt := topS 18
abbrev N_taken_at : List Str := ["house", "room"]
theorem sc_taken_at : FnScope N_taken_at ["house", "room"] (defScope st_taken_at) := ⟨rfl, rfl, rfl, by decide +kernel, rfl, by decide +kernel, by decide +kernel⟩
def taken_at_s : En → Ou :=
    (sRet (gL (pAnd (p2 (dIsN true) (pV 1) (pC .non)) (p2 (dEq true) (p2 dIx (p2 dIx (pV 0) (pC (.int 1))) (pV 1)) (pC (.int 0))))))
def taken_at_d : List D → Ev D := fnD 2 taken_at_s
/-! ### unlike_word -/
abbrev st_unlike_word : Stmt := topS 19
abbrev N_unlike_word : List Str := ["house", "made", "other", "others_made", "words", "waiting", "pair", "letter", "one", "two"]
theorem sc_unlike_word : FnScope N_unlike_word ["house", "made", "other", "others_made"] (defScope st_unlike_word) := ⟨rfl, rfl, rfl, by decide +kernel, rfl, by decide +kernel, by decide +kernel⟩
noncomputable def unlike_word_b1 : En → Ou :=
    (sSeq (sSet 8 (gL (pCall room_next_d (aCons (pV 0) (aCons (p2 dIx (pV 6) (pC (.int 0))) (aCons (pV 7) (aCons (pV 1) aNil)))))))
    (sSeq (sSet 9 (gL (pCall room_next_d (aCons (pV 2) (aCons (p2 dIx (pV 6) (pC (.int 1))) (aCons (pV 7) (aCons (pV 3) aNil)))))))
    (sIf (qB (p2 (dDIn true) (pTup (aCons (pV 8) (aCons (pV 9) aNil))) (pV 4)))
    (sSeq (sSetD (lVar 4) (pTup (aCons (pV 8) (aCons (pV 9) aNil))) (gL (p2 dAdd (p2 dDIx (pV 4) (pV 6)) (pTup (aCons (pV 7) aNil)))))
    (sAppend 5 (gL (pTup (aCons (pImm (pV 8)) (aCons (pImm (pV 9)) aNil))))))
    sNil)))
noncomputable def unlike_word_b2 : En → Ou :=
    (sSeq (sSet 6 (gM (lVar 5) fxPopAt (aCons (pC (.int 0)) aNil)))
    (sSeq (sIf (qB (p2 (dEq true) (pCall taken_at_d (aCons (pV 0) (aCons (p2 dIx (pV 6) (pC (.int 0))) aNil))) (pCall taken_at_d (aCons (pV 2) (aCons (p2 dIx (pV 6) (pC (.int 1))) aNil)))))
    (sRet (gL (pImm (p2 dDIx (pV 4) (pV 6)))))
    sNil)
    (sForR (nTg 7) [7, 8, 9] (p2 dIx (pV 0) (pC (.int 0)))
    unlike_word_b1)))
noncomputable def unlike_word_s : En → Ou :=
    (sSeq (sSet 4 (gL (pDic1 (pTup (aCons (pC (.int 0)) (aCons (pC (.int 0)) aNil))) (pTup aNil))))
    (sSeq (sSet 5 (gL (pLst (aCons (pTup (aCons (pC (.int 0)) (aCons (pC (.int 0)) aNil))) aNil))))
    (sSeq (sWhile (qB (p2 dGt (pCall bLen (aCons (pV 5) aNil)) (pC (.int 0)))) [6, 7, 8, 9]
    unlike_word_b2)
    (sRet (gL (pC .non))))))
noncomputable def unlike_word_d : List D → Ev D := fnD 10 unlike_word_s
/-! ### told_word -/
abbrev st_told_word : Stmt := topS 20
abbrev N_told_word : List Str := ["works", "helper", "made", "local", "room", "letter"]
theorem sc_told_word : FnScope N_told_word ["works", "helper", "made", "local"] (defScope st_told_word) := ⟨rfl, rfl, rfl, by decide +kernel, rfl, by decide +kernel, by decide +kernel⟩
def told_word_b1 : En → Ou :=
    (sSet 4 (gL (pCall room_next_d (aCons (p2 dIx (p2 dIx (pV 0) (pC (.int 1))) (pV 1)) (aCons (pV 4) (aCons (pV 5) (aCons (pV 2) aNil)))))))
def told_word_s : En → Ou :=
    (sSeq (sSet 4 (gL (pC (.int 0))))
    (sSeq (sFor (nTg 5) [5] (pFz 3)
    told_word_b1)
    (sRet (gL (pCall taken_at_d (aCons (p2 dIx (p2 dIx (pV 0) (pC (.int 1))) (pV 1)) (aCons (pV 4) aNil)))))))
def told_word_d : List D → Ev D := fnD 6 told_word_s
/-! ### works_difference -/
abbrev st_works_difference : Stmt := topS 21
abbrev N_works_difference : List Str := ["works", "other", "uses", "helper", "one", "two", "rows", "made", "local", "side", "within"]
theorem sc_works_difference : FnScope N_works_difference ["works", "other"] (defScope st_works_difference) := ⟨rfl, rfl, rfl, by decide +kernel, rfl, by decide +kernel, by decide +kernel⟩
noncomputable def works_difference_b1 : En → Ou :=
    (sSeq (sSet 4 (gL (pImm (p2 dIx (p2 dIx (pV 2) (pC (.int 0))) (pV 3)))))
    (sSeq (sSet 5 (gL (pImm (p2 dIx (p2 dIx (pV 2) (pC (.int 1))) (pV 3)))))
    (sSeq (sIf (qAnd (qB (p2 (dIsN false) (pV 4) (pC .non))) (qB (p2 (dIsN true) (pV 5) (pC .non))))
    (sRet (gL (pCall used_with_d (aCons (pV 1) (aCons (pV 3) (aCons (pV 5) (aCons (p2 dIx (pV 5) (pC (.int 1))) aNil)))))))
    sNil)
    (sIf (qAnd (qB (p2 (dIsN true) (pV 4) (pC .non))) (qB (p2 (dIsN false) (pV 5) (pC .non))))
    (sRet (gL (pCall used_with_d (aCons (pV 0) (aCons (pV 3) (aCons (pV 4) (aCons (p2 dIx (pV 4) (pC (.int 1))) aNil)))))))
    sNil))))
noncomputable def works_difference_b2 : En → Ou :=
    (sIf (qB (p2 (dIsN true) (p2 dIx (p2 dIx (pV 2) (pC (.int 0))) (pV 3)) (pC .non)))
    (sSeq (sSet 8 (gL (pCall unlike_word_d (aCons (p2 dIx (p2 dIx (pV 0) (pC (.int 1))) (pV 3)) (aCons (p2 dIx (pV 7) (pC (.int 0))) (aCons (p2 dIx (p2 dIx (pV 1) (pC (.int 1))) (pV 3)) (aCons (p2 dIx (pV 7) (pC (.int 1))) aNil)))))))
    (sIf (qB (p2 (dIsN true) (pV 8) (pC .non)))
    (sSeq (sSet 9 (gL (p2 dSub (pC (.int 1)) (pCall bInt (aCons (pCall told_word_d (aCons (pV 0) (aCons (pV 3) (aCons (p2 dIx (pV 7) (pC (.int 0))) (aCons (pV 8) aNil))))) aNil)))))
    (sSeq (sSet 10 (gL (pCall spread_d (aCons (p2 dIx (pV 0) (pC (.int 0))) (aCons (pCall bLen (aCons (p2 dIx (pV 0) (pC (.int 1))) aNil)) (aCons (pV 8) (aCons (p2 dIx (pV 6) (pV 9)) aNil)))))))
    (sRet (gL (pCall used_with_d (aCons (pV 0) (aCons (pV 3) (aCons (p2 dIx (p2 dIx (pV 2) (pV 9)) (pV 3)) (aCons (pV 10) aNil)))))))))
    sNil))
    sNil)
noncomputable def works_difference_s : En → Ou :=
    (sSeq (sIf (qOr (qB (p2 (dEq true) (p2 dIx (pV 0) (pC (.int 0))) (p2 dIx (pV 1) (pC (.int 0))))) (qB (p2 (dEq true) (pCall bLen (aCons (p2 dIx (pV 0) (pC (.int 1))) aNil)) (pCall bLen (aCons (p2 dIx (pV 1) (pC (.int 1))) aNil)))))
    (sRaise (Str.ofString "BadHouse"))
    sNil)
    (sSeq (sSet 2 (gL (pLst (aCons (pCall uses_of_d (aCons (pV 0) aNil)) (aCons (pCall uses_of_d (aCons (pV 1) aNil)) aNil)))))
    (sSeq (sForR (nTg 3) [3, 4, 5] (pCall bLen (aCons (p2 dIx (pV 0) (pC (.int 1))) aNil))
    works_difference_b1)
    (sSeq (sSet 6 (gL (pLst (aCons (pCall shortest_d (aCons (pV 0) aNil)) (aCons (pCall shortest_d (aCons (pV 1) aNil)) aNil)))))
    (sSeq (sSet 7 (gL (pLst (aCons (pCall letters_made_d (aCons (pV 0) (aCons (p2 dIx (pV 6) (pC (.int 0))) aNil))) (aCons (pCall letters_made_d (aCons (pV 1) (aCons (p2 dIx (pV 6) (pC (.int 1))) aNil))) aNil)))))
    (sSeq (sForR (nTg 3) [3, 8, 9, 10] (pCall bLen (aCons (p2 dIx (pV 0) (pC (.int 1))) aNil))
    works_difference_b2)
    (sRet (gL (pC .non)))))))))
noncomputable def works_difference_d : List D → Ev D := fnD 11 works_difference_s
/-! ### _law_cell_at -/
abbrev st__law_cell_at : Stmt := topS 23
abbrev N__law_cell_at : List Str := ["script", "k"]
theorem sc__law_cell_at : FnScope N__law_cell_at ["script", "k"] (defScope st__law_cell_at) := ⟨rfl, rfl, rfl, by decide +kernel, rfl, by decide +kernel, by decide +kernel⟩
def _law_cell_at_s : En → Ou :=
    (sSeq (sIf (qB (p2 dLt (pV 1) (pCall bLen (aCons (pV 0) aNil))))
    (sRet (gL (pImm (p2 dIx (pV 0) (pV 1)))))
    sNil)
    (sRet (gL (pC (.int 0)))))
def _law_cell_at_d : List D → Ev D := fnD 2 _law_cell_at_s
/-! ### _law_whole -/
abbrev st__law_whole : Stmt := topS 24
abbrev N__law_whole : List Str := ["found"]
theorem sc__law_whole : FnScope N__law_whole ["found"] (defScope st__law_whole) := ⟨rfl, rfl, rfl, by decide +kernel, rfl, by decide +kernel, by decide +kernel⟩
def _law_whole_s : En → Ou :=
    (sRet (gL (pAnd (pCall bIsi (aCons (pV 0) (aCons (pC (.ty "int")) aNil))) (pNot (pCall bIsi (aCons (pV 0) (aCons (pC (.ty "bool")) aNil)))))))
def _law_whole_d : List D → Ev D := fnD 1 _law_whole_s
/-! ### _law_nest -/
abbrev st__law_nest : Stmt := topS 25
abbrev N__law_nest : List Str := ["flow", "plain", "helpers", "row", "deep", "cell", "sign"]
theorem sc__law_nest : FnScope N__law_nest ["flow", "plain", "helpers"] (defScope st__law_nest) := ⟨rfl, rfl, rfl, by decide +kernel, rfl, by decide +kernel, by decide +kernel⟩
def _law_nest_b1 : En → Ou :=
    (sSeq (sSet 6 (gL (p2 dMod (pV 5) (p2 dAdd (p2 dAdd (pV 1) (pV 2)) (pC (.int 1))))))
    (sSeq (sIf (qAnd (qB (p2 (dEq false) (pV 6) (p2 dAdd (pV 1) (pV 2)))) (qB (p2 (dEq false) (pV 4) (pC (.int 0)))))
    (sSet 6 (gL (p2 dMod (p2 dDiv (pV 5) (pC (.int 13))) (pV 1))))
    sNil)
    (sSeq (sIf (qB (p2 (dEq false) (pV 6) (p2 dAdd (pV 1) (pV 2))))
    (sSet 4 (gL (p2 dSub (pV 4) (pC (.int 1)))))
    (sIf (qB (p2 dGe (pV 6) (pV 1)))
    (sSet 4 (gL (p2 dAdd (pV 4) (pC (.int 1)))))
    sNil))
    (sAppend 3 (gTake 6)))))
def _law_nest_s : En → Ou :=
    (sSeq (sSet 3 (gL (pLst aNil)))
    (sSeq (sSet 4 (gL (pC (.int 0))))
    (sSeq (sFor (nTg 5) [5, 6] (pFz 0)
    _law_nest_b1)
    (sRet (gL (p2 dAdd (pV 3) (p2 dMul (pLst (aCons (p2 dAdd (pV 1) (pV 2)) aNil)) (pV 4))))))))
def _law_nest_d : List D → Ev D := fnD 7 _law_nest_s
/-! ### _law_nested -/
abbrev st__law_nested : Stmt := topS 26
abbrev N__law_nested : List Str := ["plain", "helpers", "signs", "waiting", "sign"]
theorem sc__law_nested : FnScope N__law_nested ["plain", "helpers", "signs"] (defScope st__law_nested) := ⟨rfl, rfl, rfl, by decide +kernel, rfl, by decide +kernel, by decide +kernel⟩
def _law_nested_b1 : En → Ou :=
    (sSeq (sIf (qOr (qB (p2 dLt (pV 4) (pC (.int 0)))) (qB (p2 dGt (pV 4) (p2 dAdd (pV 0) (pV 1)))))
    (sRet (gL (pC (.bl false))))
    sNil)
    (sIf (qB (p2 (dEq false) (pV 4) (p2 dAdd (pV 0) (pV 1))))
    (sSeq (sIf (qB (p2 (dEq false) (pCall bLen (aCons (pV 3) aNil)) (pC (.int 0))))
    (sRet (gL (pC (.bl false))))
    sNil)
    (sExpr (gM (lVar 3) fxPop aNil)))
    (sIf (qB (p2 dGe (pV 4) (pV 0)))
    (sAppend 3 (gTake 4))
    sNil)))
def _law_nested_s : En → Ou :=
    (sSeq (sSet 3 (gL (pLst aNil)))
    (sSeq (sFor (nTg 4) [4] (pFz 2)
    _law_nested_b1)
    (sRet (gL (p2 (dEq false) (pCall bLen (aCons (pV 3) aNil)) (pC (.int 0)))))))
def _law_nested_d : List D → Ev D := fnD 5 _law_nested_s
/-! ### _law_parts -/
abbrev st__law_parts : Stmt := topS 27
abbrev N__law_parts : List Str := ["plain", "helpers", "signs", "top", "due", "called", "words", "sign"]
theorem sc__law_parts : FnScope N__law_parts ["plain", "helpers", "signs", "top"] (defScope st__law_parts) := ⟨rfl, rfl, rfl, by decide +kernel, rfl, by decide +kernel, by decide +kernel⟩
def _law_parts_b1 : En → Ou :=
    (sIf (qB (p2 (dEq false) (pV 7) (p2 dAdd (pV 0) (pV 1))))
    (sAppend 4 (gTup (gCons (gM (lVar 5) fxPop aNil) (gCons (gM (lVar 6) fxPop aNil) gNil))))
    (sSeq (sExpr (gM (lIx (lVar 6) (p1 dNeg (pC (.int 1)))) fxAppend (aCons (pImm (pV 7)) aNil)))
    (sIf (qB (p2 dGe (pV 7) (pV 0)))
    (sSeq (sAppend 5 (gL (p2 dSub (pV 7) (pV 0))))
    (sAppend 6 (gL (pLst aNil))))
    sNil)))
def _law_parts_s : En → Ou :=
    (sSeq (sSet 4 (gL (pLst aNil)))
    (sSeq (sSet 5 (gL (pLst (aCons (pImm (pV 3)) aNil))))
    (sSeq (sSet 6 (gL (pLst (aCons (pLst aNil) aNil))))
    (sSeq (sFor (nTg 7) [7] (pFz 2)
    _law_parts_b1)
    (sSeq (sAppend 4 (gTup (gCons (gTake 3) (gCons (gMoveIx 6 (pC (.int 0))) gNil))))
    (sRet (gTake 4)))))))
def _law_parts_d : List D → Ev D := fnD 8 _law_parts_s
/-! ### _law_draw -/
abbrev st__law_draw : Stmt := topS 28
abbrev N__law_draw : List Str := ["flow", "k", "many", "cell", "mixed"]
theorem sc__law_draw : FnScope N__law_draw ["flow", "k", "many"] (defScope st__law_draw) := ⟨rfl, rfl, rfl, by decide +kernel, rfl, by decide +kernel, by decide +kernel⟩
def _law_draw_s : En → Ou :=
    (sSeq (sIf (qB (p2 dLt (pV 1) (pCall bLen (aCons (pV 0) aNil))))
    (sRet (gL (p2 dMod (p2 dIx (pV 0) (pV 1)) (pV 2))))
    sNil)
    (sSeq (sIf (qB (p2 (dEq false) (pCall bLen (aCons (pV 0) aNil)) (pC (.int 0))))
    (sRet (gL (pC (.int 0))))
    sNil)
    (sSeq (sSet 3 (gL (p2 dMod (p2 dIx (pV 0) (p2 dMod (pV 1) (pCall bLen (aCons (pV 0) aNil)))) (pC (.int 2147483647)))))
    (sSeq (sSet 4 (gL (p2 dMod (p2 dMul (p2 dAdd (p2 dAdd (pV 3) (p2 dMul (pV 1) (pV 1))) (pC (.int 1))) (pC (.int 48271))) (pC (.int 2147483647)))))
    (sRet (gL (p2 dMod (p2 dMod (p2 dMul (pV 4) (pV 4)) (pC (.int 1000000007))) (pV 2))))))))
def _law_draw_d : List D → Ev D := fnD 5 _law_draw_s
/-! ### _law_house_by -/
abbrev st__law_house_by : Stmt := topS 29
abbrev N__law_house_by : List Str := ["flow", "at", "letters", "rooms", "marks", "ways", "room", "first", "mark", "letter"]
theorem sc__law_house_by : FnScope N__law_house_by ["flow", "at", "letters"] (defScope st__law_house_by) := ⟨rfl, rfl, rfl, by decide +kernel, rfl, by decide +kernel, by decide +kernel⟩
def _law_house_by_b1 : En → Ou :=
    (sSeq (sSet 7 (gL (p2 dAdd (p2 dAdd (pV 1) (pC (.int 1))) (p2 dMul (pV 6) (pC (.int 7))))))
    (sSeq (sSet 8 (gL (pCall _law_draw_d (aCons (pV 0) (aCons (pV 7) (aCons (pC (.int 4000000000)) aNil))))))
    (sSeq (sIf (qB (p2 (dEq false) (p2 dMod (pV 8) (pC (.int 4))) (pC (.int 0))))
    (sAppend 4 (gL (pC (.int 0))))
    (sAppend 4 (gL (p2 dAdd (pC (.int 1)) (p2 dDiv (pV 8) (pC (.int 4)))))))
    (sAppend 5 (gL (pCall bTuple (aCons (pCompR (nTg 9) qYes (pCall _law_draw_d (aCons (pV 0) (aCons (p2 dAdd (p2 dAdd (pV 7) (pC (.int 1))) (pV 9)) (aCons (pV 3) aNil)))) [9] (pV 2)) aNil)))))))
def _law_house_by_s : En → Ou :=
    (sSeq (sSet 3 (gL (p2 dAdd (pC (.int 1)) (pCall _law_draw_d (aCons (pV 0) (aCons (pV 1) (aCons (pC (.int 4)) aNil)))))))
    (sSeq (sSet 4 (gL (pLst aNil)))
    (sSeq (sSet 5 (gL (pLst aNil)))
    (sSeq (sForR (nTg 6) [6, 7, 8] (pV 3)
    _law_house_by_b1)
    (sRet (gL (pTup (aCons (pImm (pV 2)) (aCons (pCall bTuple (aCons (pV 4) aNil)) (aCons (pCall bTuple (aCons (pV 5) aNil)) aNil))))))))))
def _law_house_by_d : List D → Ev D := fnD 10 _law_house_by_s
/-! ### _law_works_by -/
abbrev st__law_works_by : Stmt := topS 30
abbrev N__law_works_by : List Str := ["flow", "plain", "helpers", "j"]
theorem sc__law_works_by : FnScope N__law_works_by ["flow", "plain", "helpers"] (defScope st__law_works_by) := ⟨rfl, rfl, rfl, by decide +kernel, rfl, by decide +kernel, by decide +kernel⟩
def _law_works_by_s : En → Ou :=
    (sRet (gL (pTup (aCons (pImm (pV 1)) (aCons (pCall bTuple (aCons (pCompR (nTg 3) qYes (pCall _law_house_by_d (aCons (pV 0) (aCons (p2 dMul (pC (.int 29)) (pV 3)) (aCons (p2 dAdd (pV 1) (pV 2)) aNil)))) [3] (pV 2)) aNil)) aNil)))))
def _law_works_by_d : List D → Ev D := fnD 4 _law_works_by_s
/-! ### _law_answer -/
abbrev st__law_answer : Stmt := topS 31
abbrev N__law_answer : List Str := ["house", "word", "room", "letter"]
theorem sc__law_answer : FnScope N__law_answer ["house", "word"] (defScope st__law_answer) := ⟨rfl, rfl, rfl, by decide +kernel, rfl, by decide +kernel, by decide +kernel⟩
def _law_answer_b1 : En → Ou :=
    (sSet 2 (gL (pImm (p2 dIx (p2 dIx (p2 dIx (pV 0) (pC (.int 2))) (pV 2)) (pV 3)))))
def _law_answer_s : En → Ou :=
    (sSeq (sSet 2 (gL (pC (.int 0))))
    (sSeq (sFor (nTg 3) [3] (pFz 1)
    _law_answer_b1)
    (sRet (gL (pImm (p2 dIx (p2 dIx (pV 0) (pC (.int 1))) (pV 2)))))))
def _law_answer_d : List D → Ev D := fnD 4 _law_answer_s
/-! ### _law_accepted -/
abbrev st__law_accepted : Stmt := topS 32
abbrev N__law_accepted : List Str := ["works", "signs", "top", "j", "word"]
theorem sc__law_accepted : FnScope N__law_accepted ["works", "signs", "top"] (defScope st__law_accepted) := ⟨rfl, rfl, rfl, by decide +kernel, rfl, by decide +kernel, by decide +kernel⟩
def _law_accepted_b1 : En → Ou :=
    (sIf (qB (p2 (dEq false) (pCall _law_answer_d (aCons (p2 dIx (p2 dIx (pV 0) (pC (.int 1))) (pV 3)) (aCons (pV 4) aNil))) (pC (.int 0))))
    (sRet (gL (pC (.bl false))))
    sNil)
def _law_accepted_s : En → Ou :=
    (sSeq (sFor (nTup (nsCons (nTg 3) (nsCons (nTg 4) nsNil))) [3, 4] (pCall _law_parts_d (aCons (p2 dIx (pV 0) (pC (.int 0))) (aCons (pCall bLen (aCons (p2 dIx (pV 0) (pC (.int 1))) aNil)) (aCons (pV 1) (aCons (pV 2) aNil)))))
    _law_accepted_b1)
    (sRet (gL (pC (.bl true)))))
def _law_accepted_d : List D → Ev D := fnD 5 _law_accepted_s
/-! ### _law_other_works -/
abbrev st__law_other_works : Stmt := topS 33
abbrev N__law_other_works : List Str := ["works", "flow", "way", "cell", "houses", "j", "letters", "marks", "ways", "room", "row", "rows"]
theorem sc__law_other_works : FnScope N__law_other_works ["works", "flow", "way", "cell"] (defScope st__law_other_works) := ⟨rfl, rfl, rfl, by decide +kernel, rfl, by decide +kernel, by decide +kernel⟩
def _law_other_works_t8 : En → Ou :=
    (sRet (gL (pTup (aCons (pImm (p2 dIx (pV 0) (pC (.int 0)))) (aCons (pCall bTuple (aCons (pV 4) aNil)) aNil)))))
def _law_other_works_t7 : En → Ou :=
    (sSeq (sIf (qB (p2 (dEq false) (pV 2) (pC (.int 4))))
    (sRet (gL (pCall _law_works_by_d (aCons (pV 1) (aCons (p2 dIx (pV 0) (pC (.int 0))) (aCons (pCall bLen (aCons (pV 4) aNil)) aNil))))))
    sNil)
    _law_other_works_t8)
def _law_other_works_t6 : En → Ou :=
    (sSeq (sIf (qB (p2 (dEq false) (pV 2) (pC (.int 3))))
    (sSetItem (lVar 4) (pV 5) (gL (pCall _law_house_by_d (aCons (pV 1) (aCons (pC (.int 0)) (aCons (pV 6) aNil))))))
    sNil)
    _law_other_works_t7)
def _law_other_works_t5 : En → Ou :=
    (sSeq (sIf (qB (p2 (dEq false) (pV 2) (pC (.int 2))))
    (sSeq (sSet 11 (gL (pComp (nTg 10) qYes (pCall bList (aCons (pV 10) aNil)) [10] (pV 8))))
    (sSeq (sSetItem (lIx (lVar 11) (pV 9)) (p2 dMod (p2 dDiv (pV 3) (pC (.int 31))) (pV 6)) (gL (p2 dMod (p2 dDiv (pV 3) (pC (.int 1009))) (pCall bLen (aCons (pV 7) aNil)))))
    (sSetItem (lVar 4) (pV 5) (gL (pTup (aCons (pImm (pV 6)) (aCons (pImm (pV 7)) (aCons (pCall bTuple (aCons (pComp (nTg 10) qYes (pCall bTuple (aCons (pV 10) aNil)) [10] (pV 11)) aNil)) aNil))))))))
    sNil)
    _law_other_works_t6)
def _law_other_works_t4 : En → Ou :=
    (sSeq (sIf (qB (p2 (dEq false) (pV 2) (pC (.int 1))))
    (sSeq (sSet 10 (gL (pCall bList (aCons (pV 7) aNil))))
    (sSeq (sSetItem (lVar 10) (pV 9) (gL (pImm (p2 dIx (p2 dIx (pLst (aCons (pLst (aCons (pC (.int 0)) (aCons (pC (.int 1000000000)) (aCons (pC (.int 0)) (aCons (pC (.int 1)) aNil))))) (aCons (pLst (aCons (pC (.int 1)) (aCons (pC (.int 1000000000)) (aCons (pC (.int 7)) (aCons (pC (.int 0)) aNil))))) aNil))) (pCall bInt (aCons (p2 (dEq false) (p2 dIx (pV 10) (pV 9)) (pC (.int 0))) aNil))) (p2 dMod (p2 dDiv (pV 3) (pC (.int 31))) (pC (.int 4)))))))
    (sSetItem (lVar 4) (pV 5) (gL (pTup (aCons (pImm (pV 6)) (aCons (pCall bTuple (aCons (pV 10) aNil)) (aCons (pImm (pV 8)) aNil))))))))
    sNil)
    _law_other_works_t5)
def _law_other_works_t3 : En → Ou :=
    (sSeq (sSet 9 (gL (p2 dMod (p2 dDiv (pV 3) (pC (.int 7))) (pCall bLen (aCons (pV 7) aNil)))))
    _law_other_works_t4)
def _law_other_works_t2 : En → Ou :=
    (sSeq (sUn (nTup (nsCons (nTg 6) (nsCons (nTg 7) (nsCons (nTg 8) nsNil)))) (pImm (p2 dIx (pV 4) (pV 5))))
    _law_other_works_t3)
def _law_other_works_t1 : En → Ou :=
    (sSeq (sSet 5 (gL (p2 dMod (pV 3) (pCall bLen (aCons (pV 4) aNil)))))
    _law_other_works_t2)
def _law_other_works_s : En → Ou :=
    (sSeq (sSet 4 (gL (pCall bList (aCons (p2 dIx (pV 0) (pC (.int 1))) aNil))))
    _law_other_works_t1)
def _law_other_works_d : List D → Ev D := fnD 12 _law_other_works_s
/-! ### _law_refused -/
abbrev st__law_refused : Stmt := topS 34
abbrev N__law_refused : List Str := ["works", "other", "caught", "e"]
theorem sc__law_refused : FnScope N__law_refused ["works", "other"] (defScope st__law_refused) := ⟨rfl, rfl, rfl, by decide +kernel, rfl, by decide +kernel, by decide +kernel⟩
noncomputable def _law_refused_s : En → Ou :=
    (sSeq (sSet 2 (gL (pC (.bl false))))
    (sSeq (sTryIs works_difference_d (aCons (pV 0) (aCons (pV 1) aNil)) 3 2 tbl_AskError_BadHouse_BadWord)
    (sRet (gTake 2))))
noncomputable def _law_refused_d : List D → Ev D := fnD 4 _law_refused_s
/-! ### _law_bare -/
abbrev st__law_bare : Stmt := topS 35
abbrev N__law_bare : List Str := ["plain", "helpers", "letters", "house"]
theorem sc__law_bare : FnScope N__law_bare ["plain", "helpers"] (defScope st__law_bare) := ⟨rfl, rfl, rfl, by decide +kernel, rfl, by decide +kernel, by decide +kernel⟩
def _law_bare_s : En → Ou :=
    (sSeq (sSet 2 (gL (p2 dAdd (pV 0) (pV 1))))
    (sSeq (sSet 3 (gL (pTup (aCons (pImm (pV 2)) (aCons (pTup (aCons (pC (.int 1)) aNil)) (aCons (pTup (aCons (pCall bTuple (aCons (p2 dMul (pLst (aCons (pC (.int 0)) aNil)) (pV 2)) aNil)) aNil)) aNil))))))
    (sRet (gL (pTup (aCons (pImm (pV 0)) (aCons (pCall bTuple (aCons (p2 dMul (pLst (aCons (pImm (pV 3)) aNil)) (pV 1)) aNil)) aNil)))))))
def _law_bare_d : List D → Ev D := fnD 4 _law_bare_s
/-! ### _law_row_good -/
abbrev st__law_row_good : Stmt := topS 36
abbrev N__law_row_good : List Str := ["works", "found", "sign"]
theorem sc__law_row_good : FnScope N__law_row_good ["works", "found"] (defScope st__law_row_good) := ⟨rfl, rfl, rfl, by decide +kernel, rfl, by decide +kernel, by decide +kernel⟩
def _law_row_good_b1 : En → Ou :=
    (sIf (qNot (fun e => ((pCall _law_whole_d (aCons (pV 2) aNil)) e).bind dTruth))
    (sRet (gL (pC (.bl false))))
    sNil)
def _law_row_good_s : En → Ou :=
    (sSeq (sIf (qOr (qNot (fun e => ((pCall bIsi (aCons (pV 1) (aCons (pC (.ty "tuple")) aNil))) e).bind dTruth)) (qB (p2 dGt (pCall bLen (aCons (pV 1) aNil)) (pC (.int 4000)))))
    (sRet (gL (pC (.bl false))))
    sNil)
    (sSeq (sFor (nTg 2) [2] (pFz 1)
    _law_row_good_b1)
    (sRet (gL (pCall _law_nested_d (aCons (p2 dIx (pV 0) (pC (.int 0))) (aCons (pCall bLen (aCons (p2 dIx (pV 0) (pC (.int 1))) aNil)) (aCons (pV 1) aNil))))))))
def _law_row_good_d : List D → Ev D := fnD 3 _law_row_good_s
/-! ### _law_rooms_to -/
abbrev st__law_rooms_to : Stmt := topS 37
abbrev N__law_rooms_to : List Str := ["house", "letters", "rooms", "at", "letter"]
theorem sc__law_rooms_to : FnScope N__law_rooms_to ["house", "letters"] (defScope st__law_rooms_to) := ⟨rfl, rfl, rfl, by decide +kernel, rfl, by decide +kernel, by decide +kernel⟩
noncomputable def _law_rooms_to_b1 : En → Ou :=
    (sIf (qB (p2 (dIn true) (p2 dIx (p2 dIx (p2 dIx (pV 0) (pC (.int 2))) (p2 dIx (pV 2) (pV 3))) (pV 4)) (pV 2)))
    (sAppend 2 (gL (pImm (p2 dIx (p2 dIx (p2 dIx (pV 0) (pC (.int 2))) (p2 dIx (pV 2) (pV 3))) (pV 4)))))
    sNil)
noncomputable def _law_rooms_to_b2 : En → Ou :=
    (sSeq (sFor (nTg 4) [4] (pFz 1)
    _law_rooms_to_b1)
    (sSet 3 (gL (p2 dAdd (pV 3) (pC (.int 1))))))
noncomputable def _law_rooms_to_s : En → Ou :=
    (sSeq (sSet 2 (gL (pLst (aCons (pC (.int 0)) aNil))))
    (sSeq (sSet 3 (gL (pC (.int 0))))
    (sSeq (sWhile (qB (p2 dLt (pV 3) (pCall bLen (aCons (pV 2) aNil)))) [4]
    _law_rooms_to_b2)
    (sRet (gTake 2)))))
noncomputable def _law_rooms_to_d : List D → Ev D := fnD 5 _law_rooms_to_s
/-! ### _law_letters_good -/
abbrev st__law_letters_good : Stmt := topS 38
abbrev N__law_letters_good : List Str := ["works", "plain", "good", "turn", "j", "room"]
theorem sc__law_letters_good : FnScope N__law_letters_good ["works"] (defScope st__law_letters_good) := ⟨rfl, rfl, rfl, by decide +kernel, rfl, by decide +kernel, by decide +kernel⟩
noncomputable def _law_letters_good_b1 : En → Ou :=
    (sIf (qAnd (qB (p2 (dEq true) (p2 dIx (p2 dIx (p2 dIx (p2 dIx (pV 0) (pC (.int 1))) (pV 4)) (pC (.int 1))) (pV 5)) (pC (.int 0)))) (qB (p2 (dIn true) (p2 dAdd (pV 1) (pV 4)) (pV 2))))
    (sAppend 2 (gL (p2 dAdd (pV 1) (pV 4))))
    sNil)
noncomputable def _law_letters_good_b2 : En → Ou :=
    (sFor (nTg 5) [5] (pCall _law_rooms_to_d (aCons (p2 dIx (p2 dIx (pV 0) (pC (.int 1))) (pV 4)) (aCons (pV 2) aNil)))
    _law_letters_good_b1)
noncomputable def _law_letters_good_b3 : En → Ou :=
    (sForR (nTg 4) [4, 5] (pCall bLen (aCons (p2 dIx (pV 0) (pC (.int 1))) aNil))
    _law_letters_good_b2)
noncomputable def _law_letters_good_s : En → Ou :=
    (sSeq (sSet 1 (gL (pImm (p2 dIx (pV 0) (pC (.int 0))))))
    (sSeq (sSet 2 (gL (pLstR (pV 1))))
    (sSeq (sForR (nTg 3) [3, 4, 5] (pCall bLen (aCons (p2 dIx (pV 0) (pC (.int 1))) aNil))
    _law_letters_good_b3)
    (sRet (gTake 2)))))
noncomputable def _law_letters_good_d : List D → Ev D := fnD 6 _law_letters_good_s
/-! ### _law_rooms_from -/
abbrev st__law_rooms_from : Stmt := topS 39
abbrev N__law_rooms_from : List Str := ["house", "letters", "rooms", "turn", "room", "letter"]
theorem sc__law_rooms_from : FnScope N__law_rooms_from ["house", "letters"] (defScope st__law_rooms_from) := ⟨rfl, rfl, rfl, by decide +kernel, rfl, by decide +kernel, by decide +kernel⟩
def _law_rooms_from_b1 : En → Ou :=
    (sIf (qAnd (qB (p2 (dIn false) (p2 dIx (p2 dIx (p2 dIx (pV 0) (pC (.int 2))) (pV 4)) (pV 5)) (pV 2))) (qB (p2 (dIn true) (pV 4) (pV 2))))
    (sAppend 2 (gL (pImm (pV 4))))
    sNil)
def _law_rooms_from_b2 : En → Ou :=
    (sFor (nTg 5) [5] (pFz 1)
    _law_rooms_from_b1)
def _law_rooms_from_b3 : En → Ou :=
    (sForR (nTg 4) [4, 5] (pCall bLen (aCons (p2 dIx (pV 0) (pC (.int 1))) aNil))
    _law_rooms_from_b2)
def _law_rooms_from_s : En → Ou :=
    (sSeq (sSet 2 (gL (pCompR (nTg 4) (qB (p2 (dEq true) (p2 dIx (p2 dIx (pV 0) (pC (.int 1))) (pV 4)) (pC (.int 0)))) (pImm (pV 4)) [4] (pCall bLen (aCons (p2 dIx (pV 0) (pC (.int 1))) aNil)))))
    (sSeq (sForR (nTg 3) [3, 4, 5] (pCall bLen (aCons (p2 dIx (pV 0) (pC (.int 1))) aNil))
    _law_rooms_from_b3)
    (sRet (gTake 2))))
def _law_rooms_from_d : List D → Ev D := fnD 6 _law_rooms_from_s
/-! ### _law_of_use -/
abbrev st__law_of_use : Stmt := topS 40
abbrev N__law_of_use : List Str := ["works", "good", "plain", "found", "at", "house", "ends", "room", "sign"]
theorem sc__law_of_use : FnScope N__law_of_use ["works", "good"] (defScope st__law_of_use) := ⟨rfl, rfl, rfl, by decide +kernel, rfl, by decide +kernel, by decide +kernel⟩
noncomputable def _law_of_use_b1 : En → Ou :=
    (sIf (qAnd (qB (p2 dGe (pV 8) (pV 2))) (qB (p2 (dIn false) (p2 dIx (p2 dIx (p2 dIx (pV 5) (pC (.int 2))) (pV 7)) (pV 8)) (pV 6))))
    (sIf (qB (p2 (dIn true) (p2 dSub (pV 8) (pV 2)) (pV 3)))
    (sAppend 3 (gL (p2 dSub (pV 8) (pV 2))))
    sNil)
    sNil)
noncomputable def _law_of_use_b2 : En → Ou :=
    (sFor (nTg 8) [8] (pFz 1)
    _law_of_use_b1)
noncomputable def _law_of_use_b3 : En → Ou :=
    (sSeq (sSet 5 (gL (pImm (p2 dIx (p2 dIx (pV 0) (pC (.int 1))) (p2 dIx (pV 3) (pV 4))))))
    (sSeq (sSet 6 (gL (pCall _law_rooms_from_d (aCons (pV 5) (aCons (pV 1) aNil)))))
    (sSeq (sFor (nTg 7) [7, 8] (pCall _law_rooms_to_d (aCons (pV 5) (aCons (pV 1) aNil)))
    _law_of_use_b2)
    (sSet 4 (gL (p2 dAdd (pV 4) (pC (.int 1))))))))
noncomputable def _law_of_use_s : En → Ou :=
    (sSeq (sSet 2 (gL (pImm (p2 dIx (pV 0) (pC (.int 0))))))
    (sSeq (sIf (qB (p2 (dIn true) (pV 2) (pV 1)))
    (sRet (gL (pLst aNil)))
    sNil)
    (sSeq (sSet 3 (gL (pLst (aCons (pC (.int 0)) aNil))))
    (sSeq (sSet 4 (gL (pC (.int 0))))
    (sSeq (sWhile (qB (p2 dLt (pV 4) (pCall bLen (aCons (pV 3) aNil)))) [5, 6, 7, 8]
    _law_of_use_b3)
    (sRet (gL (pCall bSortI (aCons (pV 3) aNil)))))))))
noncomputable def _law_of_use_d : List D → Ev D := fnD 9 _law_of_use_s
/-! ### _law_houses_unlike -/
abbrev st__law_houses_unlike : Stmt := topS 41
abbrev N__law_houses_unlike : List Str := ["house", "other", "letters", "couples", "at", "one", "two", "letter", "couple"]
theorem sc__law_houses_unlike : FnScope N__law_houses_unlike ["house", "other", "letters"] (defScope st__law_houses_unlike) := ⟨rfl, rfl, rfl, by decide +kernel, rfl, by decide +kernel, by decide +kernel⟩
noncomputable def _law_houses_unlike_b1 : En → Ou :=
    (sSeq (sSet 8 (gL (pTup (aCons (pImm (p2 dIx (p2 dIx (p2 dIx (pV 0) (pC (.int 2))) (pV 5)) (pV 7))) (aCons (pImm (p2 dIx (p2 dIx (p2 dIx (pV 1) (pC (.int 2))) (pV 6)) (pV 7))) aNil)))))
    (sIf (qB (p2 (dIn true) (pV 8) (pV 3)))
    (sAppend 3 (gTake 8))
    sNil))
noncomputable def _law_houses_unlike_b2 : En → Ou :=
    (sSeq (sUn (nTup (nsCons (nTg 5) (nsCons (nTg 6) nsNil))) (pImm (p2 dIx (pV 3) (pV 4))))
    (sSeq (sIf (qB (p2 (dEq true) (p2 (dEq false) (p2 dIx (p2 dIx (pV 0) (pC (.int 1))) (pV 5)) (pC (.int 0))) (p2 (dEq false) (p2 dIx (p2 dIx (pV 1) (pC (.int 1))) (pV 6)) (pC (.int 0)))))
    (sRet (gL (pC (.bl true))))
    sNil)
    (sSeq (sFor (nTg 7) [7, 8] (pFz 2)
    _law_houses_unlike_b1)
    (sSet 4 (gL (p2 dAdd (pV 4) (pC (.int 1))))))))
noncomputable def _law_houses_unlike_s : En → Ou :=
    (sSeq (sSet 3 (gL (pLst (aCons (pTup (aCons (pC (.int 0)) (aCons (pC (.int 0)) aNil))) aNil))))
    (sSeq (sSet 4 (gL (pC (.int 0))))
    (sSeq (sWhile (qB (p2 dLt (pV 4) (pCall bLen (aCons (pV 3) aNil)))) [5, 6, 7, 8]
    _law_houses_unlike_b2)
    (sRet (gL (pC (.bl false)))))))
noncomputable def _law_houses_unlike_d : List D → Ev D := fnD 9 _law_houses_unlike_s
/-! ### _law_unlike -/
abbrev st__law_unlike : Stmt := topS 42
abbrev N__law_unlike : List Str := ["works", "other", "good", "others_good", "used", "letters", "j", "letter"]
theorem sc__law_unlike : FnScope N__law_unlike ["works", "other"] (defScope st__law_unlike) := ⟨rfl, rfl, rfl, by decide +kernel, rfl, by decide +kernel, by decide +kernel⟩
noncomputable def _law_unlike_b1 : En → Ou :=
    (sIf (fun e => ((pCall _law_houses_unlike_d (aCons (p2 dIx (p2 dIx (pV 0) (pC (.int 1))) (pV 6)) (aCons (p2 dIx (p2 dIx (pV 1) (pC (.int 1))) (pV 6)) (aCons (pV 5) aNil)))) e).bind dTruth)
    (sRet (gL (pC (.bl true))))
    sNil)
noncomputable def _law_unlike_s : En → Ou :=
    (sSeq (sSet 2 (gL (pCall _law_letters_good_d (aCons (pV 0) aNil))))
    (sSeq (sSet 3 (gL (pCall _law_letters_good_d (aCons (pV 1) aNil))))
    (sSeq (sSet 4 (gL (pCall _law_of_use_d (aCons (pV 0) (aCons (pV 2) aNil)))))
    (sSeq (sIf (qB (p2 (dEq true) (pV 4) (pCall _law_of_use_d (aCons (pV 1) (aCons (pV 3) aNil)))))
    (sRet (gL (pC (.bl true))))
    sNil)
    (sSeq (sSet 5 (gL (pComp (nTg 7) (qB (p2 (dIn false) (pV 7) (pV 3))) (pImm (pV 7)) [7] (pV 2))))
    (sSeq (sFrz 4 (sFor (nTg 6) [6] (pFz 4)
    _law_unlike_b1))
    (sRet (gL (pC (.bl false))))))))))
noncomputable def _law_unlike_d : List D → Ev D := fnD 8 _law_unlike_s
/-! ### law -/
abbrev st_law : Stmt := topS 43
abbrev N_law : List Str := ["script", "plain", "helpers", "cut", "works", "other", "kinds", "odd_kind", "odd", "told", "row"]
theorem sc_law : FnScope N_law ["script"] (defScope st_law) := ⟨rfl, rfl, rfl, by decide +kernel, rfl, by decide +kernel, by decide +kernel⟩
noncomputable def law_t14 : En → Ou :=
    (sRet (gL (p2 (dEq true) (pCall _law_accepted_d (aCons (pV 4) (aCons (pV 9) (aCons (pC (.int 0)) aNil)))) (pCall _law_accepted_d (aCons (pV 5) (aCons (pV 9) (aCons (pC (.int 0)) aNil)))))))
noncomputable def law_t13 : En → Ou :=
    (sSeq (sIf (qNot (fun e => ((pCall _law_row_good_d (aCons (pV 4) (aCons (pV 9) aNil))) e).bind dTruth))
    (sRet (gL (pC (.bl false))))
    sNil)
    law_t14)
noncomputable def law_t12 : En → Ou :=
    (sSeq (sIf (qB (p2 (dIsN false) (pV 9) (pC .non)))
    (sSeq (sSet 10 (gL (pCall _law_nest_d (aCons (pSl (pV 0) (fun e => ((pV 3) e).bind dInt) (fun e => ((p2 dAdd (pV 3) (pC (.int 100))) e).bind dInt)) (aCons (pV 1) (aCons (pV 2) aNil))))))
    (sRet (gL (p2 (dEq false) (pCall _law_accepted_d (aCons (pV 4) (aCons (pV 10) (aCons (pC (.int 0)) aNil)))) (pCall _law_accepted_d (aCons (pV 5) (aCons (pV 10) (aCons (pC (.int 0)) aNil))))))))
    sNil)
    law_t13)
noncomputable def law_t11 : En → Ou :=
    (sSeq (sIf (qOr (qB (p2 (dEq true) (p2 (dIsN false) (pCall works_difference_d (aCons (pV 5) (aCons (pV 4) aNil))) (pC .non)) (p2 (dIsN false) (pV 9) (pC .non)))) (qB (p2 (dEq true) (p2 (dIsN true) (pV 9) (pC .non)) (pCall _law_unlike_d (aCons (pV 4) (aCons (pV 5) aNil))))))
    (sRet (gL (pC (.bl false))))
    sNil)
    law_t12)
noncomputable def law_t10 : En → Ou :=
    (sSeq (sSet 9 (gL (pCall works_difference_d (aCons (pV 4) (aCons (pV 5) aNil)))))
    law_t11)
noncomputable def law_t9 : En → Ou :=
    (sSeq (sIf (qOr (qNot (fun e => ((pCall _law_refused_d (aCons (pV 4) (aCons (pV 8) aNil))) e).bind dTruth)) (qNot (fun e => ((pCall _law_refused_d (aCons (pV 8) (aCons (pV 4) aNil))) e).bind dTruth)))
    (sRet (gL (pC (.bl false))))
    sNil)
    law_t10)
noncomputable def law_t8 : En → Ou :=
    (sSeq (sSet 8 (gL (pCall _law_bare_d (aCons (p2 dIx (pV 7) (pC (.int 0))) (aCons (p2 dIx (pV 7) (pC (.int 1))) aNil)))))
    law_t9)
noncomputable def law_t7 : En → Ou :=
    (sSeq (sSet 7 (gL (pImm (p2 dIx (pV 6) (p2 dMod (p2 dDiv (pCall _law_cell_at_d (aCons (pV 0) (aCons (pC (.int 2)) aNil))) (pC (.int 5))) (pCall bLen (aCons (pV 6) aNil)))))))
    law_t8)
noncomputable def law_t6 : En → Ou :=
    (sSeq (sSet 6 (gL (pLst (aCons (pTup (aCons (p2 dAdd (p2 dMod (pV 1) (pC (.int 3))) (pC (.int 1))) (aCons (pImm (pV 2)) aNil))) (aCons (pTup (aCons (pImm (pV 1)) (aCons (p2 dAdd (p2 dMod (pV 2) (pC (.int 2))) (pC (.int 1))) aNil))) (aCons (pTup (aCons (p2 dAdd (p2 dMod (pV 1) (pC (.int 3))) (pC (.int 1))) (aCons (p2 dAdd (p2 dMod (pV 2) (pC (.int 2))) (pC (.int 1))) aNil))) aNil))))))
    law_t7)
noncomputable def law_t5 : En → Ou :=
    (sSeq (sIf (qB (p2 (dIsN true) (pCall works_difference_d (aCons (pV 4) (aCons (pV 4) aNil))) (pC .non)))
    (sRet (gL (pC (.bl false))))
    sNil)
    law_t6)
noncomputable def law_t4 : En → Ou :=
    (sSeq (sSet 5 (gL (pCall _law_other_works_d (aCons (pV 4) (aCons (pSl (pV 0) (fun e => ((pV 3) e).bind dInt) (fun _ => .ok none)) (aCons (p2 dMod (pCall _law_cell_at_d (aCons (pV 0) (aCons (pC (.int 2)) aNil))) (pC (.int 5))) (aCons (pCall _law_cell_at_d (aCons (pV 0) (aCons (pC (.int 3)) aNil))) aNil)))))))
    law_t5)
noncomputable def law_t3 : En → Ou :=
    (sSeq (sSet 4 (gL (pCall _law_works_by_d (aCons (pSl (pV 0) (fun e => ((pC (.int 4)) e).bind dInt) (fun e => ((pV 3) e).bind dInt)) (aCons (pV 1) (aCons (pV 2) aNil))))))
    law_t4)
noncomputable def law_t2 : En → Ou :=
    (sSeq (sSet 3 (gL (p2 dAdd (pC (.int 4)) (p2 dMod (pCall _law_cell_at_d (aCons (pV 0) (aCons (pC (.int 1)) aNil))) (pCall bMax (aCons (pC (.int 1)) (aCons (p2 dSub (pCall bLen (aCons (pV 0) aNil)) (pC (.int 3))) aNil)))))))
    law_t3)
noncomputable def law_t1 : En → Ou :=
    (sSeq (sSet 2 (gL (p2 dAdd (pC (.int 1)) (p2 dMod (p2 dDiv (pCall _law_cell_at_d (aCons (pV 0) (aCons (pC (.int 0)) aNil))) (pC (.int 4))) (pCall bMin (aCons (pC (.int 3)) (aCons (p2 dSub (pC (.int 6)) (pV 1)) aNil)))))))
    law_t2)
noncomputable def law_s : En → Ou :=
    (sSeq (sSet 1 (gL (p2 dAdd (pC (.int 1)) (p2 dMod (pCall _law_cell_at_d (aCons (pV 0) (aCons (pC (.int 0)) aNil))) (pC (.int 4))))))
    law_t1)
noncomputable def law_d : List D → Ev D := fnD 11 law_s
section
variable {P : Program} {w : World} {K : PySem.W.Frag} {mg : Str → Option Value} {base : Heap}
set_option maxHeartbeats 4000000 in
theorem ok_less {f : Addr} {fd : FuncData} (F : Fun K "less" "less" st_less f fd)  (m_len : mg "len" = none) (m_zip : mg "zip" = none)   : FnOk P w K mg base (L2.CX P w) 1 f fd ["word", "other"] (spF ⟨K, mg, P, w⟩ mg 2 less_d) :=
  fn_mk (N := N_less) (s := less_s) (k := 0) F sc_less fun cdv A outer s0 H E hr bd => ⟨_, (jss_cons (js_if (jt_cmp (op_neD (hu_64 hr)) od_ne (JO.v (jo_len (by rfl) m_len (ja_cons (jv_var (pv 0)) ja_nil))) (JO.v (jo_len (by rfl) m_len (ja_cons (jv_var (pv 1)) ja_nil))) (nomark _))
    (jss_one (js_ret (JO.g (jo_cmp op_lt od_int0 (JO.v (jo_len (by rfl) m_len (ja_cons (jv_var (pv 0)) ja_nil))) (JO.v (jo_len (by rfl) m_len (ja_cons (jv_var (pv 1)) ja_nil))) (nomark _)))))
    jss_nil)
    (jss_cons (js_forZ (ks := [2, 3]) bd (by rfl) m_zip (jf_var (pv 0)) (jf_var (pv 1)) (jt_tup (n := 2) bd.calm (jts_cons (jt_name bd.nd rfl (Or.inl rfl)) (jts_cons (jt_name bd.nd rfl (Or.inl rfl)) jts_nil)) (by rfl) (by rfl) (nsCons_len (nsCons_len nsNil_len)))
    (jss_one (js_if (jt_cmp (op_neD (hu_64 hr)) od_ne (jv_var (pv 2)) (jv_var (pv 3)) (nomark _))
    (jss_one (js_ret (JO.g (jo_cmp op_lt od_int0 (jv_var (pv 2)) (jv_var (pv 3)) (nomark _)))))
    jss_nil)))
    (jss_one (js_ret (JO.g jo_bl)))))⟩
set_option maxHeartbeats 4000000 in
theorem ok_spread {f : Addr} {fd : FuncData} (F : Fun K "spread" "spread" st_spread f fd)  (m_tuple : mg "tuple" = none)   : FnOk P w K mg base (L2.CX P w) 1 f fd ["plain", "helpers", "local", "rows"] (spF ⟨K, mg, P, w⟩ mg 4 spread_d) :=
  fn_mk (N := N_spread) (s := spread_s) (k := 0) F sc_spread fun cdv A outer s0 H E hr bd => ⟨_, (jss_cons (js_set (i := 4) bd rfl (Or.inl rfl) (JO.g (jo_lst jb_nil)))
    (jss_cons (js_for (ks := [5]) bd (jf_var (pv 2)) (jt_name bd.nd rfl (Or.inl rfl))
    (jss_cons (js_append (pv 4) (JO.g (JV.imm (jv_var (pv 5)))))
    (jss_one (js_if (jt_cmp op_ge od_int0 (jv_var (pv 5)) (jv_var (pv 0)) (nomark _))
    (jss_cons (js_expr (jg_seen PySem.F.slot_list_extend PySem.F.type_list_extend mt_extU lm_extend (jl_var (pv 4)) (ja_cons (jv_ix (jv_var (pv 3)) (JO.v (jo_sub (jv_var (pv 5)) (jv_var (pv 0)))) (fun _ _ => rfl)) ja_nil)))
    (jss_one (js_append (pv 4) (JO.g (jo_add (jv_var (pv 0)) (jv_var (pv 1)))))))
    jss_nil))))
    (jss_one (js_ret (JO.g (jo_tuple (by rfl) m_tuple (ja_cons (jv_var (pv 4)) ja_nil)))))))⟩
set_option maxHeartbeats 4000000 in
theorem ok_letters_made {f : Addr} {fd : FuncData} (F : Fun K "letters_made" "letters_made" st_letters_made f fd) (h_spread : Fd P w K mg base 1 "spread" 4 spread_d) (m_len : mg "len" = none) (m_range : mg "range" = none)   : FnOk P w K mg base (L2.CX P w) 2 f fd ["works", "rows"] (spF ⟨K, mg, P, w⟩ mg 2 letters_made_d) :=
  fn_mk (N := N_letters_made) (s := letters_made_s) (k := 1) F sc_letters_made fun cdv A outer s0 H E hr bd => ⟨_, (jss_cons (js_un (jf_var (pv 0)) (jt_tup (n := 2) bd.calm (jts_cons (jt_name bd.nd rfl (Or.inl rfl)) (jts_cons (jt_name bd.nd rfl (Or.inl rfl)) jts_nil)) (by rfl) (by rfl) (nsCons_len (nsCons_len nsNil_len))))
    (jss_cons (js_setLcR (i := 4) (own := [("letter", 6)]) (g := (gName 6)) (tt := tYes) (te := (tTup (tCons (tVar 6) tNil))) bd (by rfl) m_range (jv_var (pv 2)) (blkOk_by (own := [("letter", 6)]) (N := N_letters_made) (sc := defScope st_letters_made) (by decide +kernel)) (fun _ _ _ _ _ => (jtv_name (by decide) bd.nd rfl (by first | exact Or.inl rfl | exact Or.inr rfl))) (fun _ _ _ _ _ => jts_yes) (fun _ _ _ _ _ => (jo_tup (jb_cons (JV.imm (jv_var (pv 6))) jb_nil))) rfl rfl (sw_true rfl rfl rfl (by decide +kernel)))
    (jss_cons (js_forR (ks := [5]) bd (by rfl) m_range (JO.v (jo_len (by rfl) m_len (ja_cons (jv_var (pv 3)) ja_nil))) (jt_name bd.nd rfl (Or.inl rfl))
    (jss_one (js_if (jt_cmp op_isN' od_isN (jv_ix (jv_var (pv 1)) (jv_var (pv 5)) (fun _ _ => rfl)) (JO.v jo_non) (nomark _))
    (jss_one (js_append (pv 4) (JO.g jo_non)))
    (jss_one (js_append (pv 4) (JO.g (jo_call h_spread (hr.mono (by decide)) (by rfl) bd.tk (ja_cons (jv_var (pv 2)) (ja_cons (JO.v (jo_len (by rfl) m_len (ja_cons (jv_var (pv 3)) ja_nil))) (ja_cons (jv_tup (ja_cons (JO.v (jo_add (jv_var (pv 2)) (jv_var (pv 5)))) ja_nil)) (ja_cons (jv_var (pv 1)) ja_nil)))))))))))
    (jss_one (js_ret (jg_take (pv 4)))))))⟩
set_option maxHeartbeats 4000000 in
theorem ok_lesser {f : Addr} {fd : FuncData} (F : Fun K "lesser" "lesser" st_lesser f fd) (h_less : Fd P w K mg base 1 "less" 2 less_d)    : FnOk P w K mg base (L2.CX P w) 2 f fd ["row", "other"] (spF ⟨K, mg, P, w⟩ mg 2 lesser_d) :=
  fn_mk (N := N_lesser) (s := lesser_s) (k := 1) F sc_lesser fun cdv A outer s0 H E hr bd => ⟨_, (jss_cons (js_if (JW.t (jw_or (jt_cmp op_isN' od_isN (jv_var (pv 0)) (JO.v jo_non) (nomark _)) (jw_or1 (JW.t (jw_and (jt_cmp op_notN' od_isN (jv_var (pv 1)) (JO.v jo_non) (nomark _)) (jw_and1 (jt_truth (JO.v (jo_call h_less (hr.mono (by decide)) (by rfl) bd.tk (ja_cons (jv_var (pv 1)) (ja_cons (jv_var (pv 0)) ja_nil)))))))))))
    (jss_one (js_ret (jg_take (pv 1))))
    jss_nil)
    (jss_one (js_ret (jg_take (pv 0)))))⟩
set_option maxHeartbeats 4000000 in
theorem ok_rows_to_rooms {f : Addr} {fd : FuncData} (F : Fun K "rows_to_rooms" "rows_to_rooms" st_rows_to_rooms f fd) (h_lesser : Fd P w K mg base 2 "lesser" 2 lesser_d) (m_len : mg "len" = none) (m_range : mg "range" = none)   : FnOk P w K mg base (L2.CX P w) 3 f fd ["house", "made"] (spF ⟨K, mg, P, w⟩ mg 2 rows_to_rooms_d) :=
  fn_mk (N := N_rows_to_rooms) (s := rows_to_rooms_s) (k := 2) F sc_rows_to_rooms fun cdv A outer s0 H E hr bd => ⟨_, (jss_cons (js_set (i := 2) bd rfl (Or.inl rfl) (JO.g (jo_mul (JO.v (jo_lst (jb_cons jo_non jb_nil))) (JO.v (jo_len (by rfl) m_len (ja_cons (jv_ix (jv_var (pv 0)) (JO.v jo_int) (fun _ _ => rfl)) ja_nil))))))
    (jss_cons (js_setItem (JO.g (jo_tup jb_nil)) (jl_var (pv 2)) (JO.v jo_int))
    (jss_cons (js_set (i := 3) bd rfl (Or.inl rfl) (JO.g jo_bl))
    (jss_cons (js_while (ks := [4, 5, 6, 7]) bd (jt_truth (jv_var (pv 3)))
    (jss_cons (js_set (i := 3) bd rfl (Or.inl rfl) (JO.g jo_bl))
    (jss_one (js_forR (ks := [4, 5, 6, 7]) bd (by rfl) m_range (JO.v (jo_len (by rfl) m_len (ja_cons (jv_var (pv 2)) ja_nil))) (jt_name bd.nd rfl (Or.inl rfl))
    (jss_one (js_forR (ks := [5, 6, 7]) bd (by rfl) m_range (jv_ix (jv_var (pv 0)) (JO.v jo_int) (fun _ _ => rfl)) (jt_name bd.nd rfl (Or.inl rfl))
    (jss_one (js_if (JW.t (jw_and (jt_cmp op_notN' od_isN (jv_ix (jv_var (pv 2)) (jv_var (pv 4)) (fun _ _ => rfl)) (JO.v jo_non) (nomark _)) (jw_and1 (jt_cmp op_notN' od_isN (jv_ix (jv_var (pv 1)) (jv_var (pv 5)) (fun _ _ => rfl)) (JO.v jo_non) (nomark _)))))
    (jss_cons (js_set (i := 6) bd rfl (Or.inl rfl) (JO.g (JV.imm (jv_ix (jv_ix (jv_ix (jv_var (pv 0)) (JO.v jo_int) (fun _ _ => rfl)) (jv_var (pv 4)) (fun _ _ => rfl)) (jv_var (pv 5)) (fun _ _ => rfl)))))
    (jss_cons (js_set (i := 7) bd rfl (Or.inl rfl) (JO.g (jo_call h_lesser (hr.mono (by decide)) (by rfl) bd.tk (ja_cons (jv_ix (jv_var (pv 2)) (jv_var (pv 6)) (fun _ _ => rfl)) (ja_cons (JO.v (jo_add (jv_ix (jv_var (pv 2)) (jv_var (pv 4)) (fun _ _ => rfl)) (jv_ix (jv_var (pv 1)) (jv_var (pv 5)) (fun _ _ => rfl)))) ja_nil)))))
    (jss_one (js_if (jt_cmp (op_neD (hu_64 hr)) od_ne (jv_var (pv 7)) (jv_ix (jv_var (pv 2)) (jv_var (pv 6)) (fun _ _ => rfl)) (nomark _))
    (jss_cons (js_setItem (jg_take (pv 7)) (jl_var (pv 2)) (jv_var (pv 6)))
    (jss_one (js_set (i := 3) bd rfl (Or.inl rfl) (JO.g jo_bl))))
    jss_nil))))
    jss_nil))))))))
    (jss_one (js_ret (jg_take (pv 2))))))))⟩
set_option maxHeartbeats 4000000 in
theorem ok_shortest {f : Addr} {fd : FuncData} (F : Fun K "shortest" "shortest" st_shortest f fd) (h_lesser : Fd P w K mg base 2 "lesser" 2 lesser_d) (h_letters_made : Fd P w K mg base 2 "letters_made" 2 letters_made_d) (h_rows_to_rooms : Fd P w K mg base 3 "rows_to_rooms" 2 rows_to_rooms_d) (m_enumerate : mg "enumerate" = none) (m_len : mg "len" = none) (m_range : mg "range" = none)   : FnOk P w K mg base (L2.CX P w) 4 f fd ["works"] (spF ⟨K, mg, P, w⟩ mg 1 shortest_d) :=
  fn_mk (N := N_shortest) (s := shortest_s) (k := 3) F sc_shortest fun cdv A outer s0 H E hr bd => ⟨_, (jss_cons (js_set (i := 1) bd rfl (Or.inl rfl) (JO.g (jo_mul (JO.v (jo_lst (jb_cons jo_non jb_nil))) (JO.v (jo_len (by rfl) m_len (ja_cons (jv_ix (jv_var (pv 0)) (JO.v jo_int) (fun _ _ => rfl)) ja_nil))))))
    (jss_cons (js_set (i := 2) bd rfl (Or.inl rfl) (JO.g jo_bl))
    (jss_cons (js_while (ks := [3, 4, 5, 6, 7, 8]) bd (jt_truth (jv_var (pv 2)))
    (jss_cons (js_set (i := 2) bd rfl (Or.inl rfl) (JO.g jo_bl))
    (jss_cons (js_set (i := 3) bd rfl (Or.inl rfl) (JO.g (jo_call h_letters_made (hr.mono (by decide)) (by rfl) bd.tk (ja_cons (jv_var (pv 0)) (ja_cons (jv_var (pv 1)) ja_nil)))))
    (jss_one (js_forR (ks := [4, 5, 6, 7, 8]) bd (by rfl) m_range (JO.v (jo_len (by rfl) m_len (ja_cons (jv_var (pv 1)) ja_nil))) (jt_name bd.nd rfl (Or.inl rfl))
    (jss_cons (js_set (i := 5) bd rfl (Or.inl rfl) (JO.g (JV.imm (jv_ix (jv_ix (jv_var (pv 0)) (JO.v jo_int) (fun _ _ => rfl)) (jv_var (pv 4)) (fun _ _ => rfl)))))
    (jss_cons (js_set (i := 6) bd rfl (Or.inl rfl) (JO.g jo_non))
    (jss_cons (js_forE (ks := [7, 8]) bd (by rfl) m_enumerate (JO.f (jo_call h_rows_to_rooms (hr.mono (by decide)) (by rfl) bd.tk (ja_cons (jv_var (pv 5)) (ja_cons (jv_var (pv 3)) ja_nil)))) (jt_tup (n := 2) bd.calm (jts_cons (jt_name bd.nd rfl (Or.inl rfl)) (jts_cons (jt_name bd.nd rfl (Or.inl rfl)) jts_nil)) (by rfl) (by rfl) (nsCons_len (nsCons_len nsNil_len)))
    (jss_one (js_if (jt_cmp (op_neD (hu_64 hr)) od_ne (jv_ix (jv_ix (jv_var (pv 5)) (JO.v jo_int) (fun _ _ => rfl)) (jv_var (pv 7)) (fun _ _ => rfl)) (JO.v jo_int) (nomark _))
    (jss_one (js_set (i := 6) bd rfl (Or.inl rfl) (JO.g (jo_call h_lesser (hr.mono (by decide)) (by rfl) bd.tk (ja_cons (jv_var (pv 6)) (ja_cons (jv_var (pv 8)) ja_nil))))))
    jss_nil)))
    (jss_one (js_if (jt_cmp (op_neD (hu_64 hr)) od_ne (jv_var (pv 6)) (jv_ix (jv_var (pv 1)) (jv_var (pv 4)) (fun _ _ => rfl)) (nomark _))
    (jss_cons (js_setItem (jg_take (pv 6)) (jl_var (pv 1)) (jv_var (pv 4)))
    (jss_one (js_set (i := 2) bd rfl (Or.inl rfl) (JO.g jo_bl))))
    jss_nil))))))))))
    (jss_one (js_ret (jg_take (pv 1)))))))⟩
set_option maxHeartbeats 4000000 in
theorem ok_rows_from_rooms {f : Addr} {fd : FuncData} (F : Fun K "rows_from_rooms" "rows_from_rooms" st_rows_from_rooms f fd) (h_lesser : Fd P w K mg base 2 "lesser" 2 lesser_d) (m_len : mg "len" = none) (m_range : mg "range" = none)   : FnOk P w K mg base (L2.CX P w) 3 f fd ["house", "made"] (spF ⟨K, mg, P, w⟩ mg 2 rows_from_rooms_d) :=
  fn_mk (N := N_rows_from_rooms) (s := rows_from_rooms_s) (k := 2) F sc_rows_from_rooms fun cdv A outer s0 H E hr bd => ⟨_, (jss_cons (js_set (i := 2) bd rfl (Or.inl rfl) (JO.g (jo_mul (JO.v (jo_lst (jb_cons jo_non jb_nil))) (JO.v (jo_len (by rfl) m_len (ja_cons (jv_ix (jv_var (pv 0)) (JO.v jo_int) (fun _ _ => rfl)) ja_nil))))))
    (jss_cons (js_forR (ks := [3]) bd (by rfl) m_range (JO.v (jo_len (by rfl) m_len (ja_cons (jv_var (pv 2)) ja_nil))) (jt_name bd.nd rfl (Or.inl rfl))
    (jss_one (js_if (jt_cmp (op_neD (hu_64 hr)) od_ne (jv_ix (jv_ix (jv_var (pv 0)) (JO.v jo_int) (fun _ _ => rfl)) (jv_var (pv 3)) (fun _ _ => rfl)) (JO.v jo_int) (nomark _))
    (jss_one (js_setItem (JO.g (jo_tup jb_nil)) (jl_var (pv 2)) (jv_var (pv 3))))
    jss_nil)))
    (jss_cons (js_set (i := 4) bd rfl (Or.inl rfl) (JO.g jo_bl))
    (jss_cons (js_while (ks := [3, 5, 6, 7]) bd (jt_truth (jv_var (pv 4)))
    (jss_cons (js_set (i := 4) bd rfl (Or.inl rfl) (JO.g jo_bl))
    (jss_one (js_forR (ks := [3, 5, 6, 7]) bd (by rfl) m_range (JO.v (jo_len (by rfl) m_len (ja_cons (jv_var (pv 2)) ja_nil))) (jt_name bd.nd rfl (Or.inl rfl))
    (jss_one (js_forR (ks := [5, 6, 7]) bd (by rfl) m_range (jv_ix (jv_var (pv 0)) (JO.v jo_int) (fun _ _ => rfl)) (jt_name bd.nd rfl (Or.inl rfl))
    (jss_cons (js_set (i := 6) bd rfl (Or.inl rfl) (JO.g (JV.imm (jv_ix (jv_var (pv 2)) (jv_ix (jv_ix (jv_ix (jv_var (pv 0)) (JO.v jo_int) (fun _ _ => rfl)) (jv_var (pv 3)) (fun _ _ => rfl)) (jv_var (pv 5)) (fun _ _ => rfl)) (fun _ _ => rfl)))))
    (jss_one (js_if (JW.t (jw_and (jt_cmp op_notN' od_isN (jv_var (pv 6)) (JO.v jo_non) (nomark _)) (jw_and1 (jt_cmp op_notN' od_isN (jv_ix (jv_var (pv 1)) (jv_var (pv 5)) (fun _ _ => rfl)) (JO.v jo_non) (nomark _)))))
    (jss_cons (js_set (i := 7) bd rfl (Or.inl rfl) (JO.g (jo_call h_lesser (hr.mono (by decide)) (by rfl) bd.tk (ja_cons (jv_ix (jv_var (pv 2)) (jv_var (pv 3)) (fun _ _ => rfl)) (ja_cons (JO.v (jo_add (jv_ix (jv_var (pv 1)) (jv_var (pv 5)) (fun _ _ => rfl)) (jv_var (pv 6)))) ja_nil)))))
    (jss_one (js_if (jt_cmp (op_neD (hu_64 hr)) od_ne (jv_var (pv 7)) (jv_ix (jv_var (pv 2)) (jv_var (pv 3)) (fun _ _ => rfl)) (nomark _))
    (jss_cons (js_setItem (jg_take (pv 7)) (jl_var (pv 2)) (jv_var (pv 3)))
    (jss_one (js_set (i := 4) bd rfl (Or.inl rfl) (JO.g jo_bl))))
    jss_nil)))
    jss_nil)))))))))
    (jss_one (js_ret (jg_take (pv 2))))))))⟩
set_option maxHeartbeats 4000000 in
theorem ok_calls_within {f : Addr} {fd : FuncData} (F : Fun K "calls_within" "calls_within" st_calls_within f fd) (h_rows_from_rooms : Fd P w K mg base 3 "rows_from_rooms" 2 rows_from_rooms_d) (h_rows_to_rooms : Fd P w K mg base 3 "rows_to_rooms" 2 rows_to_rooms_d) (m_len : mg "len" = none) (m_range : mg "range" = none)   : FnOk P w K mg base (L2.CX P w) 4 f fd ["house", "plain", "made"] (spF ⟨K, mg, P, w⟩ mg 3 calls_within_d) :=
  fn_mk (N := N_calls_within) (s := calls_within_s) (k := 3) F sc_calls_within fun cdv A outer s0 H E hr bd => ⟨_, (jss_cons (js_set (i := 3) bd rfl (Or.inl rfl) (JO.g (jo_call h_rows_to_rooms (hr.mono (by decide)) (by rfl) bd.tk (ja_cons (jv_var (pv 0)) (ja_cons (jv_var (pv 2)) ja_nil)))))
    (jss_cons (js_set (i := 4) bd rfl (Or.inl rfl) (JO.g (jo_call h_rows_from_rooms (hr.mono (by decide)) (by rfl) bd.tk (ja_cons (jv_var (pv 0)) (ja_cons (jv_var (pv 2)) ja_nil)))))
    (jss_cons (js_set (i := 5) bd rfl (Or.inl rfl) (JO.g (jo_lst jb_nil)))
    (jss_cons (js_forR (ks := [6, 7, 8]) bd (by rfl) m_range (JO.v (jo_len (by rfl) m_len (ja_cons (jv_var (pv 3)) ja_nil))) (jt_name bd.nd rfl (Or.inl rfl))
    (jss_one (js_forR2 (ks := [7, 8]) bd (by rfl) m_range (jv_var (pv 1)) (jv_ix (jv_var (pv 0)) (JO.v jo_int) (fun _ _ => rfl)) (jt_name bd.nd rfl (Or.inl rfl))
    (jss_cons (js_set (i := 8) bd rfl (Or.inl rfl) (JO.g (JV.imm (jv_ix (jv_var (pv 4)) (jv_ix (jv_ix (jv_ix (jv_var (pv 0)) (JO.v jo_int) (fun _ _ => rfl)) (jv_var (pv 6)) (fun _ _ => rfl)) (jv_var (pv 7)) (fun _ _ => rfl)) (fun _ _ => rfl)))))
    (jss_one (js_if (JW.t (jw_and (jt_cmp op_notN' od_isN (jv_ix (jv_var (pv 3)) (jv_var (pv 6)) (fun _ _ => rfl)) (JO.v jo_non) (nomark _)) (jw_and (jt_cmp op_notN' od_isN (jv_ix (jv_var (pv 2)) (jv_var (pv 7)) (fun _ _ => rfl)) (JO.v jo_non) (nomark _)) (jw_and1 (jt_cmp op_notN' od_isN (jv_var (pv 8)) (JO.v jo_non) (nomark _))))))
    (jss_one (js_append (pv 5) (JO.g (jo_tup (jb_cons (jo_sub (jv_var (pv 7)) (jv_var (pv 1))) (jb_cons (JV.imm (jv_ix (jv_var (pv 3)) (jv_var (pv 6)) (fun _ _ => rfl))) (jb_cons (JV.imm (jv_var (pv 8))) jb_nil)))))))
    jss_nil))))))
    (jss_one (js_ret (jg_take (pv 5))))))))⟩
set_option maxHeartbeats 4000000 in
theorem ok_uses_of {f : Addr} {fd : FuncData} (F : Fun K "uses_of" "uses_of" st_uses_of f fd) (h_calls_within : Fd P w K mg base 4 "calls_within" 3 calls_within_d) (h_letters_made : Fd P w K mg base 2 "letters_made" 2 letters_made_d) (h_shortest : Fd P w K mg base 4 "shortest" 1 shortest_d) (m_len : mg "len" = none)   : FnOk P w K mg base (L2.CX P w) 5 f fd ["works"] (spF ⟨K, mg, P, w⟩ mg 1 uses_of_d) :=
  fn_mk (N := N_uses_of) (s := uses_of_s) (k := 4) F sc_uses_of fun cdv A outer s0 H E hr bd => ⟨_, (jss_cons (js_un (jf_var (pv 0)) (jt_tup (n := 2) bd.calm (jts_cons (jt_name bd.nd rfl (Or.inl rfl)) (jts_cons (jt_name bd.nd rfl (Or.inl rfl)) jts_nil)) (by rfl) (by rfl) (nsCons_len (nsCons_len nsNil_len))))
    (jss_cons (js_set (i := 3) bd rfl (Or.inl rfl) (JO.g (jo_call h_shortest (hr.mono (by decide)) (by rfl) bd.tk (ja_cons (jv_var (pv 0)) ja_nil))))
    (jss_cons (js_set (i := 4) bd rfl (Or.inl rfl) (JO.g (jo_call h_letters_made (hr.mono (by decide)) (by rfl) bd.tk (ja_cons (jv_var (pv 0)) (ja_cons (jv_var (pv 3)) ja_nil)))))
    (jss_cons (js_set (i := 5) bd rfl (Or.inl rfl) (JO.g (jo_mul (JO.v (jo_lst (jb_cons jo_non jb_nil))) (JO.v (jo_len (by rfl) m_len (ja_cons (jv_var (pv 2)) ja_nil))))))
    (jss_cons (js_if (jt_cmp op_isN' od_isN (jv_ix (jv_var (pv 3)) (JO.v jo_int) (fun _ _ => rfl)) (JO.v jo_non) (nomark _))
    (jss_one (js_ret (jg_take (pv 5))))
    jss_nil)
    (jss_cons (js_setItem (JO.g (jo_tup (jb_cons (jo_tup jb_nil) (jb_cons (JV.imm (jv_ix (jv_var (pv 3)) (JO.v jo_int) (fun _ _ => rfl))) (jb_cons (jo_tup jb_nil) jb_nil))))) (jl_var (pv 5)) (JO.v jo_int))
    (jss_cons (js_set (i := 6) bd rfl (Or.inl rfl) (JO.g (jo_lst (jb_cons jo_int jb_nil))))
    (jss_cons (js_while (ks := [7, 8, 9, 10, 11, 12, 13]) bd (jt_cmp op_gt od_int0 (JO.v (jo_len (by rfl) m_len (ja_cons (jv_var (pv 6)) ja_nil))) (JO.v jo_int) (nomark _))
    (jss_cons (js_set (i := 7) bd rfl (Or.inl rfl) (jg_seen PySem.F.slot_list_pop PySem.F.type_list_pop mt_popAt lm_popAt (jl_var (pv 6)) (ja_cons (JO.v jo_int) ja_nil)))
    (jss_cons (js_un (JO.f (JV.imm (jv_ix (jv_var (pv 5)) (jv_var (pv 7)) (fun _ _ => rfl)))) (jt_tup (n := 3) bd.calm (jts_cons (jt_name bd.nd rfl (Or.inl rfl)) (jts_cons (jt_name bd.nd rfl (Or.inl rfl)) (jts_cons (jt_name bd.nd rfl (Or.inl rfl)) jts_nil))) (by rfl) (by rfl) (nsCons_len (nsCons_len (nsCons_len nsNil_len)))))
    (jss_cons (js_if (jt_cmp op_gt od_int0 (jv_var (pv 7)) (JO.v jo_int) (nomark _))
    (jss_cons (js_set (i := 8) bd rfl (Or.inl rfl) (JO.g (jo_add (jv_var (pv 8)) (jv_tup (ja_cons (JO.v (jo_add (jv_var (pv 1)) (jv_var (pv 7)))) ja_nil)))))
    (jss_one (js_set (i := 10) bd rfl (Or.inl rfl) (JO.g (jo_add (jv_tup (ja_cons (JO.v (jo_add (jv_var (pv 1)) (JO.v (jo_len (by rfl) m_len (ja_cons (jv_var (pv 2)) ja_nil))))) ja_nil)) (jv_var (pv 10)))))))
    jss_nil)
    (jss_one (js_for (ks := [11, 12, 13]) bd (JO.f (jo_call h_calls_within (hr.mono (by decide)) (by rfl) bd.tk (ja_cons (jv_ix (jv_var (pv 2)) (jv_var (pv 7)) (fun _ _ => rfl)) (ja_cons (jv_var (pv 1)) (ja_cons (jv_var (pv 4)) ja_nil))))) (jt_tup (n := 3) bd.calm (jts_cons (jt_name bd.nd rfl (Or.inl rfl)) (jts_cons (jt_name bd.nd rfl (Or.inl rfl)) (jts_cons (jt_name bd.nd rfl (Or.inl rfl)) jts_nil))) (by rfl) (by rfl) (nsCons_len (nsCons_len (nsCons_len nsNil_len))))
    (jss_one (js_if (jt_cmp op_isN' od_isN (jv_ix (jv_var (pv 5)) (jv_var (pv 11)) (fun _ _ => rfl)) (JO.v jo_non) (nomark _))
    (jss_cons (js_setItem (JO.g (jo_tup (jb_cons (jo_add (jv_var (pv 8)) (jv_var (pv 12))) (jb_cons (JV.imm (jv_ix (jv_var (pv 3)) (jv_var (pv 11)) (fun _ _ => rfl))) (jb_cons (jo_add (jv_var (pv 13)) (jv_var (pv 10))) jb_nil))))) (jl_var (pv 5)) (jv_var (pv 11)))
    (jss_one (js_append (pv 6) (jg_take (pv 11)))))
    jss_nil))))))))
    (jss_one (js_ret (jg_take (pv 5))))))))))))⟩
set_option maxHeartbeats 4000000 in
theorem ok_used_with {f : Addr} {fd : FuncData} (F : Fun K "used_with" "used_with" st_used_with f fd)  (m_len : mg "len" = none)   : FnOk P w K mg base (L2.CX P w) 1 f fd ["works", "helper", "use", "within"] (spF ⟨K, mg, P, w⟩ mg 4 used_with_d) :=
  fn_mk (N := N_used_with) (s := used_with_s) (k := 0) F sc_used_with fun cdv A outer s0 H E hr bd => ⟨_, (jss_cons (js_if (jt_cmp (op_eqD (hu_64 hr)) od_eq (jv_var (pv 1)) (JO.v jo_int) (nomark _))
    (jss_one (js_ret (jg_take (pv 3))))
    jss_nil)
    (jss_cons (js_un (jf_var (pv 0)) (jt_tup (n := 2) bd.calm (jts_cons (jt_name bd.nd rfl (Or.inl rfl)) (jts_cons (jt_name bd.nd rfl (Or.inl rfl)) jts_nil)) (by rfl) (by rfl) (nsCons_len (nsCons_len nsNil_len))))
    (jss_one (js_ret (JO.g (jo_add (JO.v (jo_add (JO.v (jo_add (JO.v (jo_add (jv_ix (jv_var (pv 2)) (JO.v jo_int) (fun _ _ => rfl)) (jv_tup (ja_cons (JO.v (jo_add (jv_var (pv 4)) (jv_var (pv 1)))) ja_nil)))) (jv_var (pv 3)))) (jv_tup (ja_cons (JO.v (jo_add (jv_var (pv 4)) (JO.v (jo_len (by rfl) m_len (ja_cons (jv_var (pv 5)) ja_nil))))) ja_nil)))) (jv_ix (jv_var (pv 2)) (JO.v jo_int) (fun _ _ => rfl))))))))⟩
set_option maxHeartbeats 4000000 in
theorem ok_room_next {f : Addr} {fd : FuncData} (F : Fun K "room_next" "room_next" st_room_next f fd)     : FnOk P w K mg base (L2.CX P w) 1 f fd ["house", "room", "letter", "made"] (spF ⟨K, mg, P, w⟩ mg 4 room_next_d) :=
  fn_mk (N := N_room_next) (s := room_next_s) (k := 0) F sc_room_next fun cdv A outer s0 H E hr bd => ⟨_, (jss_cons (js_if (JW.t (jw_or (jt_cmp op_isN' od_isN (jv_var (pv 1)) (JO.v jo_non) (nomark _)) (jw_or1 (jt_cmp op_isN' od_isN (jv_ix (jv_var (pv 3)) (jv_var (pv 2)) (fun _ _ => rfl)) (JO.v jo_non) (nomark _)))))
    (jss_one (js_ret (JO.g jo_non)))
    jss_nil)
    (jss_one (js_ret (JO.g (JV.imm (jv_ix (jv_ix (jv_ix (jv_var (pv 0)) (JO.v jo_int) (fun _ _ => rfl)) (jv_var (pv 1)) (fun _ _ => rfl)) (jv_var (pv 2)) (fun _ _ => rfl)))))))⟩
set_option maxHeartbeats 4000000 in
theorem ok_taken_at {f : Addr} {fd : FuncData} (F : Fun K "taken_at" "taken_at" st_taken_at f fd)     : FnOk P w K mg base (L2.CX P w) 1 f fd ["house", "room"] (spF ⟨K, mg, P, w⟩ mg 2 taken_at_d) :=
  fn_mk (N := N_taken_at) (s := taken_at_s) (k := 0) F sc_taken_at fun cdv A outer s0 H E hr bd => ⟨_, (jss_one (js_ret (JO.g (jo_and (JO.v (jo_cmp op_notN' od_isN (jv_var (pv 1)) (JO.v jo_non) (nomark _))) (jo_one (jo_cmp (op_neD (hu_64 hr)) od_ne (jv_ix (jv_ix (jv_var (pv 0)) (JO.v jo_int) (fun _ _ => rfl)) (jv_var (pv 1)) (fun _ _ => rfl)) (JO.v jo_int) (nomark _)))))))⟩
set_option maxHeartbeats 4000000 in
theorem ok_unlike_word {f : Addr} {fd : FuncData} (F : Fun K "unlike_word" "unlike_word" st_unlike_word f fd) (h_room_next : Fd P w K mg base 1 "room_next" 4 room_next_d) (h_taken_at : Fd P w K mg base 1 "taken_at" 2 taken_at_d) (m_len : mg "len" = none) (m_range : mg "range" = none)   : FnOk P w K mg base (L2.CX P w) 2 f fd ["house", "made", "other", "others_made"] (spF ⟨K, mg, P, w⟩ mg 4 unlike_word_d) :=
  fn_mk (N := N_unlike_word) (s := unlike_word_s) (k := 1) F sc_unlike_word fun cdv A outer s0 H E hr bd => ⟨_, (jss_cons (js_set (i := 4) bd rfl (Or.inl rfl) (JO.g (jo_dic1 hr (jv_tup (ja_cons (JO.v jo_int) (ja_cons (JO.v jo_int) ja_nil))) (jo_tup jb_nil))))
    (jss_cons (js_set (i := 5) bd rfl (Or.inl rfl) (JO.g (jo_lst (jb_cons (jo_tup (jb_cons jo_int (jb_cons jo_int jb_nil))) jb_nil))))
    (jss_cons (js_while (ks := [6, 7, 8, 9]) bd (jt_cmp op_gt od_int0 (JO.v (jo_len (by rfl) m_len (ja_cons (jv_var (pv 5)) ja_nil))) (JO.v jo_int) (nomark _))
    (jss_cons (js_set (i := 6) bd rfl (Or.inl rfl) (jg_seen PySem.F.slot_list_pop PySem.F.type_list_pop mt_popAt lm_popAt (jl_var (pv 5)) (ja_cons (JO.v jo_int) ja_nil)))
    (jss_cons (js_if (jt_cmp (op_neD (hu_64 hr)) od_ne (JO.v (jo_call h_taken_at (hr.mono (by decide)) (by rfl) bd.tk (ja_cons (jv_var (pv 0)) (ja_cons (jv_ix (jv_var (pv 6)) (JO.v jo_int) (fun _ _ => rfl)) ja_nil)))) (JO.v (jo_call h_taken_at (hr.mono (by decide)) (by rfl) bd.tk (ja_cons (jv_var (pv 2)) (ja_cons (jv_ix (jv_var (pv 6)) (JO.v jo_int) (fun _ _ => rfl)) ja_nil)))) (nomark _))
    (jss_one (js_ret (JO.g (JV.imm (jv_dix hr (jv_var (pv 4)) (jv_var (pv 6)) (fun _ _ => rfl))))))
    jss_nil)
    (jss_one (js_forR (ks := [7, 8, 9]) bd (by rfl) m_range (jv_ix (jv_var (pv 0)) (JO.v jo_int) (fun _ _ => rfl)) (jt_name bd.nd rfl (Or.inl rfl))
    (jss_cons (js_set (i := 8) bd rfl (Or.inl rfl) (JO.g (jo_call h_room_next (hr.mono (by decide)) (by rfl) bd.tk (ja_cons (jv_var (pv 0)) (ja_cons (jv_ix (jv_var (pv 6)) (JO.v jo_int) (fun _ _ => rfl)) (ja_cons (jv_var (pv 7)) (ja_cons (jv_var (pv 1)) ja_nil)))))))
    (jss_cons (js_set (i := 9) bd rfl (Or.inl rfl) (JO.g (jo_call h_room_next (hr.mono (by decide)) (by rfl) bd.tk (ja_cons (jv_var (pv 2)) (ja_cons (jv_ix (jv_var (pv 6)) (JO.v jo_int) (fun _ _ => rfl)) (ja_cons (jv_var (pv 7)) (ja_cons (jv_var (pv 3)) ja_nil)))))))
    (jss_one (js_if (jt_cmp (op_dNotIn (hu_1 hr)) od_dIn (jv_tup (ja_cons (jv_var (pv 8)) (ja_cons (jv_var (pv 9)) ja_nil))) (jv_var (pv 4)) (by rfl))
    (jss_cons (js_setD hr (JO.g (jo_add (jv_dix hr (jv_var (pv 4)) (jv_var (pv 6)) (fun _ _ => rfl)) (jv_tup (ja_cons (jv_var (pv 7)) ja_nil)))) (jl_var (pv 4)) (jv_tup (ja_cons (jv_var (pv 8)) (ja_cons (jv_var (pv 9)) ja_nil))))
    (jss_one (js_append (pv 5) (JO.g (jo_tup (jb_cons (JV.imm (jv_var (pv 8))) (jb_cons (JV.imm (jv_var (pv 9))) jb_nil)))))))
    jss_nil)))))))))
    (jss_one (js_ret (JO.g jo_non))))))⟩
set_option maxHeartbeats 4000000 in
theorem ok_told_word {f : Addr} {fd : FuncData} (F : Fun K "told_word" "told_word" st_told_word f fd) (h_room_next : Fd P w K mg base 1 "room_next" 4 room_next_d) (h_taken_at : Fd P w K mg base 1 "taken_at" 2 taken_at_d)    : FnOk P w K mg base (L2.CX P w) 2 f fd ["works", "helper", "made", "local"] (spF ⟨K, mg, P, w⟩ mg 4 told_word_d) :=
  fn_mk (N := N_told_word) (s := told_word_s) (k := 1) F sc_told_word fun cdv A outer s0 H E hr bd => ⟨_, (jss_cons (js_set (i := 4) bd rfl (Or.inl rfl) (JO.g jo_int))
    (jss_cons (js_for (ks := [5]) bd (jf_var (pv 3)) (jt_name bd.nd rfl (Or.inl rfl))
    (jss_one (js_set (i := 4) bd rfl (Or.inl rfl) (JO.g (jo_call h_room_next (hr.mono (by decide)) (by rfl) bd.tk (ja_cons (jv_ix (jv_ix (jv_var (pv 0)) (JO.v jo_int) (fun _ _ => rfl)) (jv_var (pv 1)) (fun _ _ => rfl)) (ja_cons (jv_var (pv 4)) (ja_cons (jv_var (pv 5)) (ja_cons (jv_var (pv 2)) ja_nil)))))))))
    (jss_one (js_ret (JO.g (jo_call h_taken_at (hr.mono (by decide)) (by rfl) bd.tk (ja_cons (jv_ix (jv_ix (jv_var (pv 0)) (JO.v jo_int) (fun _ _ => rfl)) (jv_var (pv 1)) (fun _ _ => rfl)) (ja_cons (jv_var (pv 4)) ja_nil))))))))⟩
set_option maxHeartbeats 4000000 in
theorem ok_works_difference {f : Addr} {fd : FuncData} (F : Fun K "works_difference" "works_difference" st_works_difference f fd) (h_letters_made : Fd P w K mg base 2 "letters_made" 2 letters_made_d) (h_shortest : Fd P w K mg base 4 "shortest" 1 shortest_d) (h_spread : Fd P w K mg base 1 "spread" 4 spread_d) (h_told_word : Fd P w K mg base 2 "told_word" 4 told_word_d) (h_unlike_word : Fd P w K mg base 2 "unlike_word" 4 unlike_word_d) (h_used_with : Fd P w K mg base 1 "used_with" 4 used_with_d) (h_uses_of : Fd P w K mg base 5 "uses_of" 1 uses_of_d) (m_int : mg "int" = none) (m_len : mg "len" = none) (m_range : mg "range" = none) {C_BadHouse : Addr} (x_BadHouse : Gw.ExcC K mg "BadHouse" C_BadHouse)  : FnOk P w K mg base (L2.CX P w) 6 f fd ["works", "other"] (spF ⟨K, mg, P, w⟩ mg 2 works_difference_d) :=
  fn_mk (N := N_works_difference) (s := works_difference_s) (k := 5) F sc_works_difference fun cdv A outer s0 H E hr bd => ⟨_, (jss_cons (js_if (JW.t (jw_or (jt_cmp (op_neD (hu_64 hr)) od_ne (jv_ix (jv_var (pv 0)) (JO.v jo_int) (fun _ _ => rfl)) (jv_ix (jv_var (pv 1)) (JO.v jo_int) (fun _ _ => rfl)) (nomark _)) (jw_or1 (jt_cmp (op_neD (hu_64 hr)) od_ne (JO.v (jo_len (by rfl) m_len (ja_cons (jv_ix (jv_var (pv 0)) (JO.v jo_int) (fun _ _ => rfl)) ja_nil))) (JO.v (jo_len (by rfl) m_len (ja_cons (jv_ix (jv_var (pv 1)) (JO.v jo_int) (fun _ _ => rfl)) ja_nil))) (nomark _)))))
    (jss_one (js_raiseC bd x_BadHouse (by rfl)))
    jss_nil)
    (jss_cons (js_set (i := 2) bd rfl (Or.inl rfl) (JO.g (jo_lst (jb_cons (jo_call h_uses_of (hr.mono (by decide)) (by rfl) bd.tk (ja_cons (jv_var (pv 0)) ja_nil)) (jb_cons (jo_call h_uses_of (hr.mono (by decide)) (by rfl) bd.tk (ja_cons (jv_var (pv 1)) ja_nil)) jb_nil)))))
    (jss_cons (js_forR (ks := [3, 4, 5]) bd (by rfl) m_range (JO.v (jo_len (by rfl) m_len (ja_cons (jv_ix (jv_var (pv 0)) (JO.v jo_int) (fun _ _ => rfl)) ja_nil))) (jt_name bd.nd rfl (Or.inl rfl))
    (jss_cons (js_set (i := 4) bd rfl (Or.inl rfl) (JO.g (JV.imm (jv_ix (jv_ix (jv_var (pv 2)) (JO.v jo_int) (fun _ _ => rfl)) (jv_var (pv 3)) (fun _ _ => rfl)))))
    (jss_cons (js_set (i := 5) bd rfl (Or.inl rfl) (JO.g (JV.imm (jv_ix (jv_ix (jv_var (pv 2)) (JO.v jo_int) (fun _ _ => rfl)) (jv_var (pv 3)) (fun _ _ => rfl)))))
    (jss_cons (js_if (JW.t (jw_and (jt_cmp op_isN' od_isN (jv_var (pv 4)) (JO.v jo_non) (nomark _)) (jw_and1 (jt_cmp op_notN' od_isN (jv_var (pv 5)) (JO.v jo_non) (nomark _)))))
    (jss_one (js_ret (JO.g (jo_call h_used_with (hr.mono (by decide)) (by rfl) bd.tk (ja_cons (jv_var (pv 1)) (ja_cons (jv_var (pv 3)) (ja_cons (jv_var (pv 5)) (ja_cons (jv_ix (jv_var (pv 5)) (JO.v jo_int) (fun _ _ => rfl)) ja_nil))))))))
    jss_nil)
    (jss_one (js_if (JW.t (jw_and (jt_cmp op_notN' od_isN (jv_var (pv 4)) (JO.v jo_non) (nomark _)) (jw_and1 (jt_cmp op_isN' od_isN (jv_var (pv 5)) (JO.v jo_non) (nomark _)))))
    (jss_one (js_ret (JO.g (jo_call h_used_with (hr.mono (by decide)) (by rfl) bd.tk (ja_cons (jv_var (pv 0)) (ja_cons (jv_var (pv 3)) (ja_cons (jv_var (pv 4)) (ja_cons (jv_ix (jv_var (pv 4)) (JO.v jo_int) (fun _ _ => rfl)) ja_nil))))))))
    jss_nil))))))
    (jss_cons (js_set (i := 6) bd rfl (Or.inl rfl) (JO.g (jo_lst (jb_cons (jo_call h_shortest (hr.mono (by decide)) (by rfl) bd.tk (ja_cons (jv_var (pv 0)) ja_nil)) (jb_cons (jo_call h_shortest (hr.mono (by decide)) (by rfl) bd.tk (ja_cons (jv_var (pv 1)) ja_nil)) jb_nil)))))
    (jss_cons (js_set (i := 7) bd rfl (Or.inl rfl) (JO.g (jo_lst (jb_cons (jo_call h_letters_made (hr.mono (by decide)) (by rfl) bd.tk (ja_cons (jv_var (pv 0)) (ja_cons (jv_ix (jv_var (pv 6)) (JO.v jo_int) (fun _ _ => rfl)) ja_nil))) (jb_cons (jo_call h_letters_made (hr.mono (by decide)) (by rfl) bd.tk (ja_cons (jv_var (pv 1)) (ja_cons (jv_ix (jv_var (pv 6)) (JO.v jo_int) (fun _ _ => rfl)) ja_nil))) jb_nil)))))
    (jss_cons (js_forR (ks := [3, 8, 9, 10]) bd (by rfl) m_range (JO.v (jo_len (by rfl) m_len (ja_cons (jv_ix (jv_var (pv 0)) (JO.v jo_int) (fun _ _ => rfl)) ja_nil))) (jt_name bd.nd rfl (Or.inl rfl))
    (jss_one (js_if (jt_cmp op_notN' od_isN (jv_ix (jv_ix (jv_var (pv 2)) (JO.v jo_int) (fun _ _ => rfl)) (jv_var (pv 3)) (fun _ _ => rfl)) (JO.v jo_non) (nomark _))
    (jss_cons (js_set (i := 8) bd rfl (Or.inl rfl) (JO.g (jo_call h_unlike_word (hr.mono (by decide)) (by rfl) bd.tk (ja_cons (jv_ix (jv_ix (jv_var (pv 0)) (JO.v jo_int) (fun _ _ => rfl)) (jv_var (pv 3)) (fun _ _ => rfl)) (ja_cons (jv_ix (jv_var (pv 7)) (JO.v jo_int) (fun _ _ => rfl)) (ja_cons (jv_ix (jv_ix (jv_var (pv 1)) (JO.v jo_int) (fun _ _ => rfl)) (jv_var (pv 3)) (fun _ _ => rfl)) (ja_cons (jv_ix (jv_var (pv 7)) (JO.v jo_int) (fun _ _ => rfl)) ja_nil)))))))
    (jss_one (js_if (jt_cmp op_notN' od_isN (jv_var (pv 8)) (JO.v jo_non) (nomark _))
    (jss_cons (js_set (i := 9) bd rfl (Or.inl rfl) (JO.g (jo_sub (JO.v jo_int) (JO.v (jo_int1 (by rfl) m_int (ja_cons (JO.v (jo_call h_told_word (hr.mono (by decide)) (by rfl) bd.tk (ja_cons (jv_var (pv 0)) (ja_cons (jv_var (pv 3)) (ja_cons (jv_ix (jv_var (pv 7)) (JO.v jo_int) (fun _ _ => rfl)) (ja_cons (jv_var (pv 8)) ja_nil)))))) ja_nil))))))
    (jss_cons (js_set (i := 10) bd rfl (Or.inl rfl) (JO.g (jo_call h_spread (hr.mono (by decide)) (by rfl) bd.tk (ja_cons (jv_ix (jv_var (pv 0)) (JO.v jo_int) (fun _ _ => rfl)) (ja_cons (JO.v (jo_len (by rfl) m_len (ja_cons (jv_ix (jv_var (pv 0)) (JO.v jo_int) (fun _ _ => rfl)) ja_nil))) (ja_cons (jv_var (pv 8)) (ja_cons (jv_ix (jv_var (pv 6)) (jv_var (pv 9)) (fun _ _ => rfl)) ja_nil)))))))
    (jss_one (js_ret (JO.g (jo_call h_used_with (hr.mono (by decide)) (by rfl) bd.tk (ja_cons (jv_var (pv 0)) (ja_cons (jv_var (pv 3)) (ja_cons (jv_ix (jv_ix (jv_var (pv 2)) (jv_var (pv 9)) (fun _ _ => rfl)) (jv_var (pv 3)) (fun _ _ => rfl)) (ja_cons (jv_var (pv 10)) ja_nil))))))))))
    jss_nil)))
    jss_nil)))
    (jss_one (js_ret (JO.g jo_non)))))))))⟩
set_option maxHeartbeats 4000000 in
theorem ok__law_cell_at {f : Addr} {fd : FuncData} (F : Fun K "_law_cell_at" "_law_cell_at" st__law_cell_at f fd)  (m_len : mg "len" = none)   : FnOk P w K mg base (L2.CX P w) 1 f fd ["script", "k"] (spF ⟨K, mg, P, w⟩ mg 2 _law_cell_at_d) :=
  fn_mk (N := N__law_cell_at) (s := _law_cell_at_s) (k := 0) F sc__law_cell_at fun cdv A outer s0 H E hr bd => ⟨_, (jss_cons (js_if (jt_cmp op_lt od_int0 (jv_var (pv 1)) (JO.v (jo_len (by rfl) m_len (ja_cons (jv_var (pv 0)) ja_nil))) (nomark _))
    (jss_one (js_ret (JO.g (JV.imm (jv_ix (jv_var (pv 0)) (jv_var (pv 1)) (fun _ _ => rfl))))))
    jss_nil)
    (jss_one (js_ret (JO.g jo_int))))⟩
set_option maxHeartbeats 4000000 in
theorem ok__law_whole {f : Addr} {fd : FuncData} (F : Fun K "_law_whole" "_law_whole" st__law_whole f fd)  (m_bool : mg "bool" = none) (m_int : mg "int" = none) (m_isinstance : mg "isinstance" = none)   : FnOk P w K mg base (L2.CX P w) 1 f fd ["found"] (spF ⟨K, mg, P, w⟩ mg 1 _law_whole_d) :=
  fn_mk (N := N__law_whole) (s := _law_whole_s) (k := 0) F sc__law_whole fun cdv A outer s0 H E hr bd => ⟨_, (jss_one (js_ret (JO.g (jo_and (JO.v (jo_blt call_isi cd_isi (by rfl) m_isinstance (by decide +kernel) (ja_cons (jv_var (pv 0)) (ja_cons (jv_ty (by rfl) m_int (by decide +kernel)) ja_nil)))) (jo_one (jo_not (JO.v (jo_blt call_isi cd_isi (by rfl) m_isinstance (by decide +kernel) (ja_cons (jv_var (pv 0)) (ja_cons (jv_ty (by rfl) m_bool (by decide +kernel)) ja_nil))))))))))⟩
set_option maxHeartbeats 4000000 in
theorem ok__law_nest {f : Addr} {fd : FuncData} (F : Fun K "_law_nest" "_law_nest" st__law_nest f fd)     : FnOk P w K mg base (L2.CX P w) 1 f fd ["flow", "plain", "helpers"] (spF ⟨K, mg, P, w⟩ mg 3 _law_nest_d) :=
  fn_mk (N := N__law_nest) (s := _law_nest_s) (k := 0) F sc__law_nest fun cdv A outer s0 H E hr bd => ⟨_, (jss_cons (js_set (i := 3) bd rfl (Or.inl rfl) (JO.g (jo_lst jb_nil)))
    (jss_cons (js_set (i := 4) bd rfl (Or.inl rfl) (JO.g jo_int))
    (jss_cons (js_for (ks := [5, 6]) bd (jf_var (pv 0)) (jt_name bd.nd rfl (Or.inl rfl))
    (jss_cons (js_set (i := 6) bd rfl (Or.inl rfl) (JO.g (jo_mod (jv_var (pv 5)) (JO.v (jo_add (JO.v (jo_add (jv_var (pv 1)) (jv_var (pv 2)))) (JO.v jo_int))))))
    (jss_cons (js_if (JW.t (jw_and (jt_cmp (op_eqD (hu_64 hr)) od_eq (jv_var (pv 6)) (JO.v (jo_add (jv_var (pv 1)) (jv_var (pv 2)))) (nomark _)) (jw_and1 (jt_cmp (op_eqD (hu_64 hr)) od_eq (jv_var (pv 4)) (JO.v jo_int) (nomark _)))))
    (jss_one (js_set (i := 6) bd rfl (Or.inl rfl) (JO.g (jo_mod (JO.v (jo_div (jv_var (pv 5)) (JO.v jo_int))) (jv_var (pv 1))))))
    jss_nil)
    (jss_cons (js_if (jt_cmp (op_eqD (hu_64 hr)) od_eq (jv_var (pv 6)) (JO.v (jo_add (jv_var (pv 1)) (jv_var (pv 2)))) (nomark _))
    (jss_one (js_set (i := 4) bd rfl (Or.inl rfl) (JO.g (jo_sub (jv_var (pv 4)) (JO.v jo_int)))))
    (jss_one (js_if (jt_cmp op_ge od_int0 (jv_var (pv 6)) (jv_var (pv 1)) (nomark _))
    (jss_one (js_set (i := 4) bd rfl (Or.inl rfl) (JO.g (jo_add (jv_var (pv 4)) (JO.v jo_int)))))
    jss_nil)))
    (jss_one (js_append (pv 3) (jg_take (pv 6))))))))
    (jss_one (js_ret (JO.g (jo_add (jv_var (pv 3)) (JO.v (jo_mul (JO.v (jo_lst (jb_cons (jo_add (jv_var (pv 1)) (jv_var (pv 2))) jb_nil))) (jv_var (pv 4)))))))))))⟩
set_option maxHeartbeats 4000000 in
theorem ok__law_nested {f : Addr} {fd : FuncData} (F : Fun K "_law_nested" "_law_nested" st__law_nested f fd)  (m_len : mg "len" = none)   : FnOk P w K mg base (L2.CX P w) 1 f fd ["plain", "helpers", "signs"] (spF ⟨K, mg, P, w⟩ mg 3 _law_nested_d) :=
  fn_mk (N := N__law_nested) (s := _law_nested_s) (k := 0) F sc__law_nested fun cdv A outer s0 H E hr bd => ⟨_, (jss_cons (js_set (i := 3) bd rfl (Or.inl rfl) (JO.g (jo_lst jb_nil)))
    (jss_cons (js_for (ks := [4]) bd (jf_var (pv 2)) (jt_name bd.nd rfl (Or.inl rfl))
    (jss_cons (js_if (JW.t (jw_or (jt_cmp op_lt od_int0 (jv_var (pv 4)) (JO.v jo_int) (nomark _)) (jw_or1 (jt_cmp op_gt od_int0 (jv_var (pv 4)) (JO.v (jo_add (jv_var (pv 0)) (jv_var (pv 1)))) (nomark _)))))
    (jss_one (js_ret (JO.g jo_bl)))
    jss_nil)
    (jss_one (js_if (jt_cmp (op_eqD (hu_64 hr)) od_eq (jv_var (pv 4)) (JO.v (jo_add (jv_var (pv 0)) (jv_var (pv 1)))) (nomark _))
    (jss_cons (js_if (jt_cmp (op_eqD (hu_64 hr)) od_eq (JO.v (jo_len (by rfl) m_len (ja_cons (jv_var (pv 3)) ja_nil))) (JO.v jo_int) (nomark _))
    (jss_one (js_ret (JO.g jo_bl)))
    jss_nil)
    (jss_one (js_expr (jg_pop (jl_var (pv 3))))))
    (jss_one (js_if (jt_cmp op_ge od_int0 (jv_var (pv 4)) (jv_var (pv 0)) (nomark _))
    (jss_one (js_append (pv 3) (jg_take (pv 4))))
    jss_nil))))))
    (jss_one (js_ret (JO.g (jo_cmp (op_eqD (hu_64 hr)) od_eq (JO.v (jo_len (by rfl) m_len (ja_cons (jv_var (pv 3)) ja_nil))) (JO.v jo_int) (nomark _)))))))⟩
set_option maxHeartbeats 4000000 in
theorem ok__law_parts {f : Addr} {fd : FuncData} (F : Fun K "_law_parts" "_law_parts" st__law_parts f fd)     : FnOk P w K mg base (L2.CX P w) 1 f fd ["plain", "helpers", "signs", "top"] (spF ⟨K, mg, P, w⟩ mg 4 _law_parts_d) :=
  fn_mk (N := N__law_parts) (s := _law_parts_s) (k := 0) F sc__law_parts fun cdv A outer s0 H E hr bd => ⟨_, (jss_cons (js_set (i := 4) bd rfl (Or.inl rfl) (JO.g (jo_lst jb_nil)))
    (jss_cons (js_set (i := 5) bd rfl (Or.inl rfl) (JO.g (jo_lst (jb_cons (JV.imm (jv_var (pv 3))) jb_nil))))
    (jss_cons (js_set (i := 6) bd rfl (Or.inl rfl) (JO.g (jo_lst (jb_cons (jo_lst jb_nil) jb_nil))))
    (jss_cons (js_for (ks := [7]) bd (jf_var (pv 2)) (jt_name bd.nd rfl (Or.inl rfl))
    (jss_one (js_if (jt_cmp (op_eqD (hu_64 hr)) od_eq (jv_var (pv 7)) (JO.v (jo_add (jv_var (pv 0)) (jv_var (pv 1)))) (nomark _))
    (jss_one (js_append (pv 4) (jg_tup (jgs_cons (jg_pop (jl_var (pv 5))) (jgs_cons (jg_pop (jl_var (pv 6))) jgs_nil)))))
    (jss_cons (js_expr (jg_own PySem.F.slot_list_append PySem.F.type_list_append mt_append lm_append (jl_ix (jl_var (pv 6)) (JO.v (jo_neg (JO.v jo_int))) (fun _ _ => rfl)) (jb_cons (JV.imm (jv_var (pv 7))) jb_nil)))
    (jss_one (js_if (jt_cmp op_ge od_int0 (jv_var (pv 7)) (jv_var (pv 0)) (nomark _))
    (jss_cons (js_append (pv 5) (JO.g (jo_sub (jv_var (pv 7)) (jv_var (pv 0)))))
    (jss_one (js_append (pv 6) (JO.g (jo_lst jb_nil)))))
    jss_nil))))))
    (jss_cons (js_append (pv 4) (jg_tup (jgs_cons (jg_take (pv 3)) (jgs_cons (jg_moveIx (pv 6) (JO.v jo_int) (fun _ _ => rfl)) jgs_nil))))
    (jss_one (js_ret (jg_take (pv 4)))))))))⟩
set_option maxHeartbeats 4000000 in
theorem ok__law_draw {f : Addr} {fd : FuncData} (F : Fun K "_law_draw" "_law_draw" st__law_draw f fd)  (m_len : mg "len" = none)   : FnOk P w K mg base (L2.CX P w) 1 f fd ["flow", "k", "many"] (spF ⟨K, mg, P, w⟩ mg 3 _law_draw_d) :=
  fn_mk (N := N__law_draw) (s := _law_draw_s) (k := 0) F sc__law_draw fun cdv A outer s0 H E hr bd => ⟨_, (jss_cons (js_if (jt_cmp op_lt od_int0 (jv_var (pv 1)) (JO.v (jo_len (by rfl) m_len (ja_cons (jv_var (pv 0)) ja_nil))) (nomark _))
    (jss_one (js_ret (JO.g (jo_mod (jv_ix (jv_var (pv 0)) (jv_var (pv 1)) (fun _ _ => rfl)) (jv_var (pv 2))))))
    jss_nil)
    (jss_cons (js_if (jt_cmp (op_eqD (hu_64 hr)) od_eq (JO.v (jo_len (by rfl) m_len (ja_cons (jv_var (pv 0)) ja_nil))) (JO.v jo_int) (nomark _))
    (jss_one (js_ret (JO.g jo_int)))
    jss_nil)
    (jss_cons (js_set (i := 3) bd rfl (Or.inl rfl) (JO.g (jo_mod (jv_ix (jv_var (pv 0)) (JO.v (jo_mod (jv_var (pv 1)) (JO.v (jo_len (by rfl) m_len (ja_cons (jv_var (pv 0)) ja_nil))))) (fun _ _ => rfl)) (JO.v jo_int))))
    (jss_cons (js_set (i := 4) bd rfl (Or.inl rfl) (JO.g (jo_mod (JO.v (jo_mul (JO.v (jo_add (JO.v (jo_add (jv_var (pv 3)) (JO.v (jo_mul (jv_var (pv 1)) (jv_var (pv 1)))))) (JO.v jo_int))) (JO.v jo_int))) (JO.v jo_int))))
    (jss_one (js_ret (JO.g (jo_mod (JO.v (jo_mod (JO.v (jo_mul (jv_var (pv 4)) (jv_var (pv 4)))) (JO.v jo_int))) (jv_var (pv 2))))))))))⟩
set_option maxHeartbeats 4000000 in
theorem ok__law_house_by {f : Addr} {fd : FuncData} (F : Fun K "_law_house_by" "_law_house_by" st__law_house_by f fd) (h__law_draw : Fd P w K mg base 1 "_law_draw" 3 _law_draw_d) (m_range : mg "range" = none) (m_tuple : mg "tuple" = none)   : FnOk P w K mg base (L2.CX P w) 2 f fd ["flow", "at", "letters"] (spF ⟨K, mg, P, w⟩ mg 3 _law_house_by_d) :=
  fn_mk (N := N__law_house_by) (s := _law_house_by_s) (k := 1) F sc__law_house_by fun cdv A outer s0 H E hr bd => ⟨_, (jss_cons (js_set (i := 3) bd rfl (Or.inr rfl) (JO.g (jo_add (JO.v jo_int) (JO.v (jo_call h__law_draw (hr.mono (by decide)) (by rfl) bd.tk (ja_cons (jv_var (pv 0)) (ja_cons (jv_var (pv 1)) (ja_cons (JO.v jo_int) ja_nil))))))))
    (jss_cons (js_set (i := 4) bd rfl (Or.inl rfl) (JO.g (jo_lst jb_nil)))
    (jss_cons (js_set (i := 5) bd rfl (Or.inl rfl) (JO.g (jo_lst jb_nil)))
    (jss_cons (js_forR (ks := [6, 7, 8]) bd (by rfl) m_range (jv_var (pv 3)) (jt_name bd.nd rfl (Or.inl rfl))
    (jss_cons (js_set (i := 7) bd rfl (Or.inr rfl) (JO.g (jo_add (JO.v (jo_add (jv_var (pv 1)) (JO.v jo_int))) (JO.v (jo_mul (jv_var (pv 6)) (JO.v jo_int))))))
    (jss_cons (js_set (i := 8) bd rfl (Or.inl rfl) (JO.g (jo_call h__law_draw (hr.mono (by decide)) (by rfl) bd.tk (ja_cons (jv_var (pv 0)) (ja_cons (jv_var (pv 7)) (ja_cons (JO.v jo_int) ja_nil))))))
    (jss_cons (js_if (jt_cmp (op_eqD (hu_64 hr)) od_eq (JO.v (jo_mod (jv_var (pv 8)) (JO.v jo_int))) (JO.v jo_int) (nomark _))
    (jss_one (js_append (pv 4) (JO.g jo_int)))
    (jss_one (js_append (pv 4) (JO.g (jo_add (JO.v jo_int) (JO.v (jo_div (jv_var (pv 8)) (JO.v jo_int))))))))
    (jss_one (js_append (pv 5) (JO.g (jo_tuple (by rfl) m_tuple (ja_cons (JO.v (jo_compR (own := [("letter", 9)]) (g := (gName 9)) (tt := tYes) (te := (tCallS (spF ⟨K, mg, P, w⟩ mg 3 _law_draw_d) (WE W0) (tCons (tVar 0) (tCons (tOp (rAddU K) (tOp (rAddU K) (tVar 7) (tC (.int 1))) (tVar 9)) (tCons (tVar 3) tNil))))) bd.calm bd.nd (by rfl) m_range (jv_var (pv 2)) (blkOk_by (own := [("letter", 9)]) (N := N__law_house_by) (sc := defScope st__law_house_by) (by decide +kernel)) (fun _ _ _ _ _ => (jtv_name (by decide) bd.nd rfl (by first | exact Or.inl rfl | exact Or.inr rfl))) (fun _ _ _ _ _ => jts_yes) (fun _ _ _ _ _ => (jo_call h__law_draw (hr.mono (by decide)) (by rfl) takes0 (ja_cons (jv_var (pv 0)) (ja_cons (JO.v (jo_add (JO.v (jo_add (jv_var (pv 7)) (JO.v jo_int))) (jv_var (pv 9)))) (ja_cons (jv_var (pv 3)) ja_nil))))))) ja_nil)))))))))
    (jss_one (js_ret (JO.g (jo_tup (jb_cons (JV.imm (jv_var (pv 2))) (jb_cons (jo_tuple (by rfl) m_tuple (ja_cons (jv_var (pv 4)) ja_nil)) (jb_cons (jo_tuple (by rfl) m_tuple (ja_cons (jv_var (pv 5)) ja_nil)) jb_nil)))))))))))⟩
set_option maxHeartbeats 4000000 in
theorem ok__law_works_by {f : Addr} {fd : FuncData} (F : Fun K "_law_works_by" "_law_works_by" st__law_works_by f fd) (h__law_house_by : Fd P w K mg base 2 "_law_house_by" 3 _law_house_by_d) (m_range : mg "range" = none) (m_tuple : mg "tuple" = none)   : FnOk P w K mg base (L2.CX P w) 3 f fd ["flow", "plain", "helpers"] (spF ⟨K, mg, P, w⟩ mg 3 _law_works_by_d) :=
  fn_mk (N := N__law_works_by) (s := _law_works_by_s) (k := 2) F sc__law_works_by fun cdv A outer s0 H E hr bd => ⟨_, (jss_one (js_ret (JO.g (jo_tup (jb_cons (JV.imm (jv_var (pv 1))) (jb_cons (jo_tuple (by rfl) m_tuple (ja_cons (JO.v (jo_compR (own := [("j", 3)]) (g := (gName 3)) (tt := tYes) (te := (tCallS (spF ⟨K, mg, P, w⟩ mg 3 _law_house_by_d) (WE W0) (tCons (tVar 0) (tCons (tOp (rMulU K) (tC (.int 29)) (tVar 3)) (tCons (tOp (rAddU K) (tVar 1) (tVar 2)) tNil))))) bd.calm bd.nd (by rfl) m_range (jv_var (pv 2)) (blkOk_by (own := [("j", 3)]) (N := N__law_works_by) (sc := defScope st__law_works_by) (by decide +kernel)) (fun _ _ _ _ _ => (jtv_name (by decide) bd.nd rfl (by first | exact Or.inl rfl | exact Or.inr rfl))) (fun _ _ _ _ _ => jts_yes) (fun _ _ _ _ _ => (jo_call h__law_house_by (hr.mono (by decide)) (by rfl) takes0 (ja_cons (jv_var (pv 0)) (ja_cons (JO.v (jo_mul (JO.v jo_int) (jv_var (pv 3)))) (ja_cons (JO.v (jo_add (jv_var (pv 1)) (jv_var (pv 2)))) ja_nil))))))) ja_nil)) jb_nil))))))⟩
set_option maxHeartbeats 4000000 in
theorem ok__law_answer {f : Addr} {fd : FuncData} (F : Fun K "_law_answer" "_law_answer" st__law_answer f fd)     : FnOk P w K mg base (L2.CX P w) 1 f fd ["house", "word"] (spF ⟨K, mg, P, w⟩ mg 2 _law_answer_d) :=
  fn_mk (N := N__law_answer) (s := _law_answer_s) (k := 0) F sc__law_answer fun cdv A outer s0 H E hr bd => ⟨_, (jss_cons (js_set (i := 2) bd rfl (Or.inl rfl) (JO.g jo_int))
    (jss_cons (js_for (ks := [3]) bd (jf_var (pv 1)) (jt_name bd.nd rfl (Or.inl rfl))
    (jss_one (js_set (i := 2) bd rfl (Or.inl rfl) (JO.g (JV.imm (jv_ix (jv_ix (jv_ix (jv_var (pv 0)) (JO.v jo_int) (fun _ _ => rfl)) (jv_var (pv 2)) (fun _ _ => rfl)) (jv_var (pv 3)) (fun _ _ => rfl)))))))
    (jss_one (js_ret (JO.g (JV.imm (jv_ix (jv_ix (jv_var (pv 0)) (JO.v jo_int) (fun _ _ => rfl)) (jv_var (pv 2)) (fun _ _ => rfl))))))))⟩
set_option maxHeartbeats 4000000 in
theorem ok__law_accepted {f : Addr} {fd : FuncData} (F : Fun K "_law_accepted" "_law_accepted" st__law_accepted f fd) (h__law_answer : Fd P w K mg base 1 "_law_answer" 2 _law_answer_d) (h__law_parts : Fd P w K mg base 1 "_law_parts" 4 _law_parts_d) (m_len : mg "len" = none)   : FnOk P w K mg base (L2.CX P w) 2 f fd ["works", "signs", "top"] (spF ⟨K, mg, P, w⟩ mg 3 _law_accepted_d) :=
  fn_mk (N := N__law_accepted) (s := _law_accepted_s) (k := 1) F sc__law_accepted fun cdv A outer s0 H E hr bd => ⟨_, (jss_cons (js_for (ks := [3, 4]) bd (JO.f (jo_call h__law_parts (hr.mono (by decide)) (by rfl) bd.tk (ja_cons (jv_ix (jv_var (pv 0)) (JO.v jo_int) (fun _ _ => rfl)) (ja_cons (JO.v (jo_len (by rfl) m_len (ja_cons (jv_ix (jv_var (pv 0)) (JO.v jo_int) (fun _ _ => rfl)) ja_nil))) (ja_cons (jv_var (pv 1)) (ja_cons (jv_var (pv 2)) ja_nil)))))) (jt_tup (n := 2) bd.calm (jts_cons (jt_name bd.nd rfl (Or.inl rfl)) (jts_cons (jt_name bd.nd rfl (Or.inl rfl)) jts_nil)) (by rfl) (by rfl) (nsCons_len (nsCons_len nsNil_len)))
    (jss_one (js_if (jt_cmp (op_eqD (hu_64 hr)) od_eq (JO.v (jo_call h__law_answer (hr.mono (by decide)) (by rfl) bd.tk (ja_cons (jv_ix (jv_ix (jv_var (pv 0)) (JO.v jo_int) (fun _ _ => rfl)) (jv_var (pv 3)) (fun _ _ => rfl)) (ja_cons (jv_var (pv 4)) ja_nil)))) (JO.v jo_int) (nomark _))
    (jss_one (js_ret (JO.g jo_bl)))
    jss_nil)))
    (jss_one (js_ret (JO.g jo_bl))))⟩
set_option maxHeartbeats 4000000 in
theorem ok__law_other_works {f : Addr} {fd : FuncData} (F : Fun K "_law_other_works" "_law_other_works" st__law_other_works f fd) (h__law_house_by : Fd P w K mg base 2 "_law_house_by" 3 _law_house_by_d) (h__law_works_by : Fd P w K mg base 3 "_law_works_by" 3 _law_works_by_d) (m_int : mg "int" = none) (m_len : mg "len" = none) (m_list : mg "list" = none) (m_tuple : mg "tuple" = none)   : FnOk P w K mg base (L2.CX P w) 4 f fd ["works", "flow", "way", "cell"] (spF ⟨K, mg, P, w⟩ mg 4 _law_other_works_d) :=
  fn_mk (N := N__law_other_works) (s := _law_other_works_s) (k := 3) F sc__law_other_works fun cdv A outer s0 H E hr bd => ⟨_, (jss_cons (js_set (i := 4) bd rfl (Or.inl rfl) (JO.g (jo_list (by rfl) m_list (ja_cons (jv_ix (jv_var (pv 0)) (JO.v jo_int) (fun _ _ => rfl)) ja_nil))))
    (jss_cons (js_set (i := 5) bd rfl (Or.inl rfl) (JO.g (jo_mod (jv_var (pv 3)) (JO.v (jo_len (by rfl) m_len (ja_cons (jv_var (pv 4)) ja_nil))))))
    (jss_cons (js_un (JO.f (JV.imm (jv_ix (jv_var (pv 4)) (jv_var (pv 5)) (fun _ _ => rfl)))) (jt_tup (n := 3) bd.calm (jts_cons (jt_name bd.nd rfl (Or.inl rfl)) (jts_cons (jt_name bd.nd rfl (Or.inl rfl)) (jts_cons (jt_name bd.nd rfl (Or.inl rfl)) jts_nil))) (by rfl) (by rfl) (nsCons_len (nsCons_len (nsCons_len nsNil_len)))))
    (jss_cons (js_set (i := 9) bd rfl (Or.inl rfl) (JO.g (jo_mod (JO.v (jo_div (jv_var (pv 3)) (JO.v jo_int))) (JO.v (jo_len (by rfl) m_len (ja_cons (jv_var (pv 7)) ja_nil))))))
    (jss_cons (js_if (jt_cmp (op_eqD (hu_64 hr)) od_eq (jv_var (pv 2)) (JO.v jo_int) (nomark _))
    (jss_cons (js_set (i := 10) bd rfl (Or.inl rfl) (JO.g (jo_list (by rfl) m_list (ja_cons (jv_var (pv 7)) ja_nil))))
    (jss_cons (js_setItem (JO.g (JV.imm (jv_ix (jv_ix (JO.v (jo_lst (jb_cons (jo_lst (jb_cons jo_int (jb_cons jo_int (jb_cons jo_int (jb_cons jo_int jb_nil))))) (jb_cons (jo_lst (jb_cons jo_int (jb_cons jo_int (jb_cons jo_int (jb_cons jo_int jb_nil))))) jb_nil)))) (JO.v (jo_int1 (by rfl) m_int (ja_cons (JO.v (jo_cmp (op_eqD (hu_64 hr)) od_eq (jv_ix (jv_var (pv 10)) (jv_var (pv 9)) (fun _ _ => rfl)) (JO.v jo_int) (nomark _))) ja_nil))) (fun _ _ => rfl)) (JO.v (jo_mod (JO.v (jo_div (jv_var (pv 3)) (JO.v jo_int))) (JO.v jo_int))) (fun _ _ => rfl)))) (jl_var (pv 10)) (jv_var (pv 9)))
    (jss_one (js_setItem (JO.g (jo_tup (jb_cons (JV.imm (jv_var (pv 6))) (jb_cons (jo_tuple (by rfl) m_tuple (ja_cons (jv_var (pv 10)) ja_nil)) (jb_cons (JV.imm (jv_var (pv 8))) jb_nil))))) (jl_var (pv 4)) (jv_var (pv 5))))))
    jss_nil)
    (jss_cons (js_if (jt_cmp (op_eqD (hu_64 hr)) od_eq (jv_var (pv 2)) (JO.v jo_int) (nomark _))
    (jss_cons (js_setLc (i := 11) (own := [("row", 10)]) (g := (gName 10)) (tt := tYes) (te := (tCB (rListU K) (tCons (tVar 10) tNil))) bd (jv_var (pv 8)) (blkOk_by (own := [("row", 10)]) (N := N__law_other_works) (sc := defScope st__law_other_works) (by decide +kernel)) (fun _ _ _ _ _ => (jtv_name (by decide) bd.nd rfl (by first | exact Or.inl rfl | exact Or.inr rfl))) (fun _ _ _ _ _ => jts_yes) (fun _ _ _ _ _ => (jo_list (by rfl) m_list (ja_cons (jv_var (pv 10)) ja_nil))) rfl rfl (sw_true rfl rfl rfl (by decide +kernel)))
    (jss_cons (js_setItem (JO.g (jo_mod (JO.v (jo_div (jv_var (pv 3)) (JO.v jo_int))) (JO.v (jo_len (by rfl) m_len (ja_cons (jv_var (pv 7)) ja_nil))))) (jl_ix (jl_var (pv 11)) (jv_var (pv 9)) (fun _ _ => rfl)) (JO.v (jo_mod (JO.v (jo_div (jv_var (pv 3)) (JO.v jo_int))) (jv_var (pv 6)))))
    (jss_one (js_setItem (JO.g (jo_tup (jb_cons (JV.imm (jv_var (pv 6))) (jb_cons (JV.imm (jv_var (pv 7))) (jb_cons (jo_tuple (by rfl) m_tuple (ja_cons (JO.v (jo_comp (own := [("row", 10)]) (g := (gName 10)) (tt := tYes) (te := (tCB (rTupleU K) (tCons (tVar 10) tNil))) bd.calm bd.nd (jv_var (pv 11)) (blkOk_by (own := [("row", 10)]) (N := N__law_other_works) (sc := defScope st__law_other_works) (by decide +kernel)) (fun _ _ _ _ _ => (jtv_name (by decide) bd.nd rfl (by first | exact Or.inl rfl | exact Or.inr rfl))) (fun _ _ _ _ _ => jts_yes) (fun _ _ _ _ _ => (jo_tuple (by rfl) m_tuple (ja_cons (jv_var (pv 10)) ja_nil))))) ja_nil)) jb_nil))))) (jl_var (pv 4)) (jv_var (pv 5))))))
    jss_nil)
    (jss_cons (js_if (jt_cmp (op_eqD (hu_64 hr)) od_eq (jv_var (pv 2)) (JO.v jo_int) (nomark _))
    (jss_one (js_setItem (JO.g (jo_call h__law_house_by (hr.mono (by decide)) (by rfl) bd.tk (ja_cons (jv_var (pv 1)) (ja_cons (JO.v jo_int) (ja_cons (jv_var (pv 6)) ja_nil))))) (jl_var (pv 4)) (jv_var (pv 5))))
    jss_nil)
    (jss_cons (js_if (jt_cmp (op_eqD (hu_64 hr)) od_eq (jv_var (pv 2)) (JO.v jo_int) (nomark _))
    (jss_one (js_ret (JO.g (jo_call h__law_works_by (hr.mono (by decide)) (by rfl) bd.tk (ja_cons (jv_var (pv 1)) (ja_cons (jv_ix (jv_var (pv 0)) (JO.v jo_int) (fun _ _ => rfl)) (ja_cons (JO.v (jo_len (by rfl) m_len (ja_cons (jv_var (pv 4)) ja_nil))) ja_nil)))))))
    jss_nil)
    (jss_one (js_ret (JO.g (jo_tup (jb_cons (JV.imm (jv_ix (jv_var (pv 0)) (JO.v jo_int) (fun _ _ => rfl))) (jb_cons (jo_tuple (by rfl) m_tuple (ja_cons (jv_var (pv 4)) ja_nil)) jb_nil))))))))))))))⟩
set_option maxHeartbeats 4000000 in
theorem ok__law_refused {f : Addr} {fd : FuncData} (F : Fun K "_law_refused" "_law_refused" st__law_refused f fd) (h_works_difference : Fd P w K mg base 6 "works_difference" 2 works_difference_d) (m_isinstance : mg "isinstance" = none) {C_AskError : Addr} (x_AskError : Gw.ExcC K mg "AskError" C_AskError) {C_BadHouse : Addr} (x_BadHouse : Gw.ExcC K mg "BadHouse" C_BadHouse) {C_BadWord : Addr} (x_BadWord : Gw.ExcC K mg "BadWord" C_BadWord) (T_AskError_BadHouse_BadWord : TryT K mg C_AskError C_BadHouse C_BadWord tbl_AskError_BadHouse_BadWord) : FnOk P w K mg base (L2.CX P w) 7 f fd ["works", "other"] (spF ⟨K, mg, P, w⟩ mg 2 _law_refused_d) :=
  fn_mk (N := N__law_refused) (s := _law_refused_s) (k := 6) F sc__law_refused fun cdv A outer s0 H E hr bd => ⟨_, (jss_cons (js_set (i := 2) bd rfl (Or.inl rfl) (JO.g jo_bl))
    (jss_cons (js_tryIs (i := 3) (k := 2) bd rfl rfl rfl rfl rfl ⟨by rfl, by decide, Or.inl x_AskError.g⟩ T_AskError_BadHouse_BadWord h_works_difference (hr.mono (by decide)) (by rfl) (fun _ _ _ => (ja_cons (jv_var (pv 0)) (ja_cons (jv_var (pv 1)) ja_nil))) (by rfl) (by rfl) m_isinstance (by rfl) x_BadHouse.g (by rfl) x_BadWord.g (Or.inl rfl) (Or.inl rfl))
    (jss_one (js_ret (jg_take (pv 2))))))⟩
set_option maxHeartbeats 4000000 in
theorem ok__law_bare {f : Addr} {fd : FuncData} (F : Fun K "_law_bare" "_law_bare" st__law_bare f fd)  (m_tuple : mg "tuple" = none)   : FnOk P w K mg base (L2.CX P w) 1 f fd ["plain", "helpers"] (spF ⟨K, mg, P, w⟩ mg 2 _law_bare_d) :=
  fn_mk (N := N__law_bare) (s := _law_bare_s) (k := 0) F sc__law_bare fun cdv A outer s0 H E hr bd => ⟨_, (jss_cons (js_set (i := 2) bd rfl (Or.inl rfl) (JO.g (jo_add (jv_var (pv 0)) (jv_var (pv 1)))))
    (jss_cons (js_set (i := 3) bd rfl (Or.inl rfl) (JO.g (jo_tup (jb_cons (JV.imm (jv_var (pv 2))) (jb_cons (jo_tup (jb_cons jo_int jb_nil)) (jb_cons (jo_tup (jb_cons (jo_tuple (by rfl) m_tuple (ja_cons (JO.v (jo_mul (JO.v (jo_lst (jb_cons jo_int jb_nil))) (jv_var (pv 2)))) ja_nil)) jb_nil)) jb_nil))))))
    (jss_one (js_ret (JO.g (jo_tup (jb_cons (JV.imm (jv_var (pv 0))) (jb_cons (jo_tuple (by rfl) m_tuple (ja_cons (JO.v (jo_mul (JO.v (jo_lst (jb_cons (JV.imm (jv_var (pv 3))) jb_nil))) (jv_var (pv 1)))) ja_nil)) jb_nil))))))))⟩
set_option maxHeartbeats 4000000 in
theorem ok__law_row_good {f : Addr} {fd : FuncData} (F : Fun K "_law_row_good" "_law_row_good" st__law_row_good f fd) (h__law_nested : Fd P w K mg base 1 "_law_nested" 3 _law_nested_d) (h__law_whole : Fd P w K mg base 1 "_law_whole" 1 _law_whole_d) (m_isinstance : mg "isinstance" = none) (m_len : mg "len" = none) (m_tuple : mg "tuple" = none)   : FnOk P w K mg base (L2.CX P w) 2 f fd ["works", "found"] (spF ⟨K, mg, P, w⟩ mg 2 _law_row_good_d) :=
  fn_mk (N := N__law_row_good) (s := _law_row_good_s) (k := 1) F sc__law_row_good fun cdv A outer s0 H E hr bd => ⟨_, (jss_cons (js_if (JW.t (jw_or (jt_not (jt_truth (JO.v (jo_blt call_isi cd_isi (by rfl) m_isinstance (by decide +kernel) (ja_cons (jv_var (pv 1)) (ja_cons (jv_ty (by rfl) m_tuple (by decide +kernel)) ja_nil)))))) (jw_or1 (jt_cmp op_gt od_int0 (JO.v (jo_len (by rfl) m_len (ja_cons (jv_var (pv 1)) ja_nil))) (JO.v jo_int) (nomark _)))))
    (jss_one (js_ret (JO.g jo_bl)))
    jss_nil)
    (jss_cons (js_for (ks := [2]) bd (jf_var (pv 1)) (jt_name bd.nd rfl (Or.inl rfl))
    (jss_one (js_if (jt_not (jt_truth (JO.v (jo_call h__law_whole (hr.mono (by decide)) (by rfl) bd.tk (ja_cons (jv_var (pv 2)) ja_nil)))))
    (jss_one (js_ret (JO.g jo_bl)))
    jss_nil)))
    (jss_one (js_ret (JO.g (jo_call h__law_nested (hr.mono (by decide)) (by rfl) bd.tk (ja_cons (jv_ix (jv_var (pv 0)) (JO.v jo_int) (fun _ _ => rfl)) (ja_cons (JO.v (jo_len (by rfl) m_len (ja_cons (jv_ix (jv_var (pv 0)) (JO.v jo_int) (fun _ _ => rfl)) ja_nil))) (ja_cons (jv_var (pv 1)) ja_nil)))))))))⟩
set_option maxHeartbeats 4000000 in
theorem ok__law_rooms_to {f : Addr} {fd : FuncData} (F : Fun K "_law_rooms_to" "_law_rooms_to" st__law_rooms_to f fd)  (m_len : mg "len" = none)   : FnOk P w K mg base (L2.CX P w) 1 f fd ["house", "letters"] (spF ⟨K, mg, P, w⟩ mg 2 _law_rooms_to_d) :=
  fn_mk (N := N__law_rooms_to) (s := _law_rooms_to_s) (k := 0) F sc__law_rooms_to fun cdv A outer s0 H E hr bd => ⟨_, (jss_cons (js_set (i := 2) bd rfl (Or.inl rfl) (JO.g (jo_lst (jb_cons jo_int jb_nil))))
    (jss_cons (js_set (i := 3) bd rfl (Or.inl rfl) (JO.g jo_int))
    (jss_cons (js_while (ks := [4]) bd (jt_cmp op_lt od_int0 (jv_var (pv 3)) (JO.v (jo_len (by rfl) m_len (ja_cons (jv_var (pv 2)) ja_nil))) (nomark _))
    (jss_cons (js_for (ks := [4]) bd (jf_var (pv 1)) (jt_name bd.nd rfl (Or.inl rfl))
    (jss_one (js_if (jt_cmp (op_notInU (hu_65 hr)) od_notIn (jv_ix (jv_ix (jv_ix (jv_var (pv 0)) (JO.v jo_int) (fun _ _ => rfl)) (jv_ix (jv_var (pv 2)) (jv_var (pv 3)) (fun _ _ => rfl)) (fun _ _ => rfl)) (jv_var (pv 4)) (fun _ _ => rfl)) (jv_var (pv 2)) (by rfl))
    (jss_one (js_append (pv 2) (JO.g (JV.imm (jv_ix (jv_ix (jv_ix (jv_var (pv 0)) (JO.v jo_int) (fun _ _ => rfl)) (jv_ix (jv_var (pv 2)) (jv_var (pv 3)) (fun _ _ => rfl)) (fun _ _ => rfl)) (jv_var (pv 4)) (fun _ _ => rfl))))))
    jss_nil)))
    (jss_one (js_set (i := 3) bd rfl (Or.inl rfl) (JO.g (jo_add (jv_var (pv 3)) (JO.v jo_int)))))))
    (jss_one (js_ret (jg_take (pv 2)))))))⟩
set_option maxHeartbeats 4000000 in
theorem ok__law_letters_good {f : Addr} {fd : FuncData} (F : Fun K "_law_letters_good" "_law_letters_good" st__law_letters_good f fd) (h__law_rooms_to : Fd P w K mg base 1 "_law_rooms_to" 2 _law_rooms_to_d) (m_len : mg "len" = none) (m_list : mg "list" = none) (m_range : mg "range" = none)   : FnOk P w K mg base (L2.CX P w) 2 f fd ["works"] (spF ⟨K, mg, P, w⟩ mg 1 _law_letters_good_d) :=
  fn_mk (N := N__law_letters_good) (s := _law_letters_good_s) (k := 1) F sc__law_letters_good fun cdv A outer s0 H E hr bd => ⟨_, (jss_cons (js_set (i := 1) bd rfl (Or.inl rfl) (JO.g (JV.imm (jv_ix (jv_var (pv 0)) (JO.v jo_int) (fun _ _ => rfl)))))
    (jss_cons (js_set (i := 2) bd rfl (Or.inl rfl) (JO.g (jo_listR bd.calm (by rfl) m_list (by rfl) m_range (jv_var (pv 1)))))
    (jss_cons (js_forR (ks := [3, 4, 5]) bd (by rfl) m_range (JO.v (jo_len (by rfl) m_len (ja_cons (jv_ix (jv_var (pv 0)) (JO.v jo_int) (fun _ _ => rfl)) ja_nil))) (jt_name bd.nd rfl (Or.inl rfl))
    (jss_one (js_forR (ks := [4, 5]) bd (by rfl) m_range (JO.v (jo_len (by rfl) m_len (ja_cons (jv_ix (jv_var (pv 0)) (JO.v jo_int) (fun _ _ => rfl)) ja_nil))) (jt_name bd.nd rfl (Or.inl rfl))
    (jss_one (js_for (ks := [5]) bd (JO.f (jo_call h__law_rooms_to (hr.mono (by decide)) (by rfl) bd.tk (ja_cons (jv_ix (jv_ix (jv_var (pv 0)) (JO.v jo_int) (fun _ _ => rfl)) (jv_var (pv 4)) (fun _ _ => rfl)) (ja_cons (jv_var (pv 2)) ja_nil)))) (jt_name bd.nd rfl (Or.inl rfl))
    (jss_one (js_if (JW.t (jw_and (jt_cmp (op_neD (hu_64 hr)) od_ne (jv_ix (jv_ix (jv_ix (jv_ix (jv_var (pv 0)) (JO.v jo_int) (fun _ _ => rfl)) (jv_var (pv 4)) (fun _ _ => rfl)) (JO.v jo_int) (fun _ _ => rfl)) (jv_var (pv 5)) (fun _ _ => rfl)) (JO.v jo_int) (nomark _)) (jw_and1 (jt_cmp (op_notInU (hu_65 hr)) od_notIn (JO.v (jo_add (jv_var (pv 1)) (jv_var (pv 4)))) (jv_var (pv 2)) (by rfl)))))
    (jss_one (js_append (pv 2) (JO.g (jo_add (jv_var (pv 1)) (jv_var (pv 4))))))
    jss_nil)))))))
    (jss_one (js_ret (jg_take (pv 2)))))))⟩
set_option maxHeartbeats 4000000 in
theorem ok__law_rooms_from {f : Addr} {fd : FuncData} (F : Fun K "_law_rooms_from" "_law_rooms_from" st__law_rooms_from f fd)  (m_len : mg "len" = none) (m_range : mg "range" = none)   : FnOk P w K mg base (L2.CX P w) 1 f fd ["house", "letters"] (spF ⟨K, mg, P, w⟩ mg 2 _law_rooms_from_d) :=
  fn_mk (N := N__law_rooms_from) (s := _law_rooms_from_s) (k := 0) F sc__law_rooms_from fun cdv A outer s0 H E hr bd => ⟨_, (jss_cons (js_setLcR (i := 2) (own := [("room", 4)]) (g := (gName 4)) (tt := (tTest (tOp (rNeD K) (tOp (rIx K) (tOp (rIx K) (tVar 0) (tC (.int 1))) (tVar 4)) (tC (.int 0))))) (te := (tVar 4)) bd (by rfl) m_range (JO.v (jo_len (by rfl) m_len (ja_cons (jv_ix (jv_var (pv 0)) (JO.v jo_int) (fun _ _ => rfl)) ja_nil))) (blkOk_by (own := [("room", 4)]) (N := N__law_rooms_from) (sc := defScope st__law_rooms_from) (by decide +kernel)) (fun _ _ _ _ _ => (jtv_name (by decide) bd.nd rfl (by first | exact Or.inl rfl | exact Or.inr rfl))) (fun _ _ _ _ _ => (jts_one (jt_cmp (op_neD (hu_64 hr)) od_ne (jv_ix (jv_ix (jv_var (pv 0)) (JO.v jo_int) (fun _ _ => rfl)) (jv_var (pv 4)) (fun _ _ => rfl)) (JO.v jo_int) (nomark _)))) (fun _ _ _ _ _ => (JV.imm (jv_var (pv 4)))) rfl rfl (sw_true rfl rfl rfl (by decide +kernel)))
    (jss_cons (js_forR (ks := [3, 4, 5]) bd (by rfl) m_range (JO.v (jo_len (by rfl) m_len (ja_cons (jv_ix (jv_var (pv 0)) (JO.v jo_int) (fun _ _ => rfl)) ja_nil))) (jt_name bd.nd rfl (Or.inl rfl))
    (jss_one (js_forR (ks := [4, 5]) bd (by rfl) m_range (JO.v (jo_len (by rfl) m_len (ja_cons (jv_ix (jv_var (pv 0)) (JO.v jo_int) (fun _ _ => rfl)) ja_nil))) (jt_name bd.nd rfl (Or.inl rfl))
    (jss_one (js_for (ks := [5]) bd (jf_var (pv 1)) (jt_name bd.nd rfl (Or.inl rfl))
    (jss_one (js_if (JW.t (jw_and (jt_cmp (op_inU (hu_65 hr)) od_in (jv_ix (jv_ix (jv_ix (jv_var (pv 0)) (JO.v jo_int) (fun _ _ => rfl)) (jv_var (pv 4)) (fun _ _ => rfl)) (jv_var (pv 5)) (fun _ _ => rfl)) (jv_var (pv 2)) (by rfl)) (jw_and1 (jt_cmp (op_notInU (hu_65 hr)) od_notIn (jv_var (pv 4)) (jv_var (pv 2)) (by rfl)))))
    (jss_one (js_append (pv 2) (JO.g (JV.imm (jv_var (pv 4))))))
    jss_nil)))))))
    (jss_one (js_ret (jg_take (pv 2))))))⟩
set_option maxHeartbeats 4000000 in
theorem ok__law_of_use {f : Addr} {fd : FuncData} (F : Fun K "_law_of_use" "_law_of_use" st__law_of_use f fd) (h__law_rooms_from : Fd P w K mg base 1 "_law_rooms_from" 2 _law_rooms_from_d) (h__law_rooms_to : Fd P w K mg base 1 "_law_rooms_to" 2 _law_rooms_to_d) (m_len : mg "len" = none) (m_sorted : mg "sorted" = none)   : FnOk P w K mg base (L2.CX P w) 2 f fd ["works", "good"] (spF ⟨K, mg, P, w⟩ mg 2 _law_of_use_d) :=
  fn_mk (N := N__law_of_use) (s := _law_of_use_s) (k := 1) F sc__law_of_use fun cdv A outer s0 H E hr bd => ⟨_, (jss_cons (js_set (i := 2) bd rfl (Or.inl rfl) (JO.g (JV.imm (jv_ix (jv_var (pv 0)) (JO.v jo_int) (fun _ _ => rfl)))))
    (jss_cons (js_if (jt_cmp (op_notInU (hu_65 hr)) od_notIn (jv_var (pv 2)) (jv_var (pv 1)) (by rfl))
    (jss_one (js_ret (JO.g (jo_lst jb_nil))))
    jss_nil)
    (jss_cons (js_set (i := 3) bd rfl (Or.inl rfl) (JO.g (jo_lst (jb_cons jo_int jb_nil))))
    (jss_cons (js_set (i := 4) bd rfl (Or.inl rfl) (JO.g jo_int))
    (jss_cons (js_while (ks := [5, 6, 7, 8]) bd (jt_cmp op_lt od_int0 (jv_var (pv 4)) (JO.v (jo_len (by rfl) m_len (ja_cons (jv_var (pv 3)) ja_nil))) (nomark _))
    (jss_cons (js_set (i := 5) bd rfl (Or.inl rfl) (JO.g (JV.imm (jv_ix (jv_ix (jv_var (pv 0)) (JO.v jo_int) (fun _ _ => rfl)) (jv_ix (jv_var (pv 3)) (jv_var (pv 4)) (fun _ _ => rfl)) (fun _ _ => rfl)))))
    (jss_cons (js_set (i := 6) bd rfl (Or.inl rfl) (JO.g (jo_call h__law_rooms_from (hr.mono (by decide)) (by rfl) bd.tk (ja_cons (jv_var (pv 5)) (ja_cons (jv_var (pv 1)) ja_nil)))))
    (jss_cons (js_for (ks := [7, 8]) bd (JO.f (jo_call h__law_rooms_to (hr.mono (by decide)) (by rfl) bd.tk (ja_cons (jv_var (pv 5)) (ja_cons (jv_var (pv 1)) ja_nil)))) (jt_name bd.nd rfl (Or.inl rfl))
    (jss_one (js_for (ks := [8]) bd (jf_var (pv 1)) (jt_name bd.nd rfl (Or.inl rfl))
    (jss_one (js_if (JW.t (jw_and (jt_cmp op_ge od_int0 (jv_var (pv 8)) (jv_var (pv 2)) (nomark _)) (jw_and1 (jt_cmp (op_inU (hu_65 hr)) od_in (jv_ix (jv_ix (jv_ix (jv_var (pv 5)) (JO.v jo_int) (fun _ _ => rfl)) (jv_var (pv 7)) (fun _ _ => rfl)) (jv_var (pv 8)) (fun _ _ => rfl)) (jv_var (pv 6)) (by rfl)))))
    (jss_one (js_if (jt_cmp (op_notInU (hu_65 hr)) od_notIn (JO.v (jo_sub (jv_var (pv 8)) (jv_var (pv 2)))) (jv_var (pv 3)) (by rfl))
    (jss_one (js_append (pv 3) (JO.g (jo_sub (jv_var (pv 8)) (jv_var (pv 2))))))
    jss_nil))
    jss_nil)))))
    (jss_one (js_set (i := 4) bd rfl (Or.inl rfl) (JO.g (jo_add (jv_var (pv 4)) (JO.v jo_int)))))))))
    (jss_one (js_ret (JO.g (jo_sortI (by rfl) m_sorted (ja_cons (jv_var (pv 3)) ja_nil))))))))))⟩
set_option maxHeartbeats 4000000 in
theorem ok__law_houses_unlike {f : Addr} {fd : FuncData} (F : Fun K "_law_houses_unlike" "_law_houses_unlike" st__law_houses_unlike f fd)  (m_len : mg "len" = none)   : FnOk P w K mg base (L2.CX P w) 1 f fd ["house", "other", "letters"] (spF ⟨K, mg, P, w⟩ mg 3 _law_houses_unlike_d) :=
  fn_mk (N := N__law_houses_unlike) (s := _law_houses_unlike_s) (k := 0) F sc__law_houses_unlike fun cdv A outer s0 H E hr bd => ⟨_, (jss_cons (js_set (i := 3) bd rfl (Or.inl rfl) (JO.g (jo_lst (jb_cons (jo_tup (jb_cons jo_int (jb_cons jo_int jb_nil))) jb_nil))))
    (jss_cons (js_set (i := 4) bd rfl (Or.inl rfl) (JO.g jo_int))
    (jss_cons (js_while (ks := [5, 6, 7, 8]) bd (jt_cmp op_lt od_int0 (jv_var (pv 4)) (JO.v (jo_len (by rfl) m_len (ja_cons (jv_var (pv 3)) ja_nil))) (nomark _))
    (jss_cons (js_un (JO.f (JV.imm (jv_ix (jv_var (pv 3)) (jv_var (pv 4)) (fun _ _ => rfl)))) (jt_tup (n := 2) bd.calm (jts_cons (jt_name bd.nd rfl (Or.inl rfl)) (jts_cons (jt_name bd.nd rfl (Or.inl rfl)) jts_nil)) (by rfl) (by rfl) (nsCons_len (nsCons_len nsNil_len))))
    (jss_cons (js_if (jt_cmp (op_neD (hu_64 hr)) od_ne (JO.v (jo_cmp (op_eqD (hu_64 hr)) od_eq (jv_ix (jv_ix (jv_var (pv 0)) (JO.v jo_int) (fun _ _ => rfl)) (jv_var (pv 5)) (fun _ _ => rfl)) (JO.v jo_int) (nomark _))) (JO.v (jo_cmp (op_eqD (hu_64 hr)) od_eq (jv_ix (jv_ix (jv_var (pv 1)) (JO.v jo_int) (fun _ _ => rfl)) (jv_var (pv 6)) (fun _ _ => rfl)) (JO.v jo_int) (nomark _))) (nomark _))
    (jss_one (js_ret (JO.g jo_bl)))
    jss_nil)
    (jss_cons (js_for (ks := [7, 8]) bd (jf_var (pv 2)) (jt_name bd.nd rfl (Or.inl rfl))
    (jss_cons (js_set (i := 8) bd rfl (Or.inl rfl) (JO.g (jo_tup (jb_cons (JV.imm (jv_ix (jv_ix (jv_ix (jv_var (pv 0)) (JO.v jo_int) (fun _ _ => rfl)) (jv_var (pv 5)) (fun _ _ => rfl)) (jv_var (pv 7)) (fun _ _ => rfl))) (jb_cons (JV.imm (jv_ix (jv_ix (jv_ix (jv_var (pv 1)) (JO.v jo_int) (fun _ _ => rfl)) (jv_var (pv 6)) (fun _ _ => rfl)) (jv_var (pv 7)) (fun _ _ => rfl))) jb_nil)))))
    (jss_one (js_if (jt_cmp (op_notInU (hu_65 hr)) od_notIn (jv_var (pv 8)) (jv_var (pv 3)) (by rfl))
    (jss_one (js_append (pv 3) (jg_take (pv 8))))
    jss_nil))))
    (jss_one (js_set (i := 4) bd rfl (Or.inl rfl) (JO.g (jo_add (jv_var (pv 4)) (JO.v jo_int)))))))))
    (jss_one (js_ret (JO.g jo_bl))))))⟩
set_option maxHeartbeats 4000000 in
theorem ok__law_unlike {f : Addr} {fd : FuncData} (F : Fun K "_law_unlike" "_law_unlike" st__law_unlike f fd) (h__law_houses_unlike : Fd P w K mg base 1 "_law_houses_unlike" 3 _law_houses_unlike_d) (h__law_letters_good : Fd P w K mg base 2 "_law_letters_good" 1 _law_letters_good_d) (h__law_of_use : Fd P w K mg base 2 "_law_of_use" 2 _law_of_use_d)    : FnOk P w K mg base (L2.CX P w) 3 f fd ["works", "other"] (spF ⟨K, mg, P, w⟩ mg 2 _law_unlike_d) :=
  fn_mk (N := N__law_unlike) (s := _law_unlike_s) (k := 2) F sc__law_unlike fun cdv A outer s0 H E hr bd => ⟨_, (jss_cons (js_set (i := 2) bd rfl (Or.inl rfl) (JO.g (jo_call h__law_letters_good (hr.mono (by decide)) (by rfl) bd.tk (ja_cons (jv_var (pv 0)) ja_nil))))
    (jss_cons (js_set (i := 3) bd rfl (Or.inr rfl) (JO.g (jo_call h__law_letters_good (hr.mono (by decide)) (by rfl) bd.tk (ja_cons (jv_var (pv 1)) ja_nil))))
    (jss_cons (js_set (i := 4) bd rfl (Or.inl rfl) (JO.g (jo_call h__law_of_use (hr.mono (by decide)) (by rfl) bd.tk (ja_cons (jv_var (pv 0)) (ja_cons (jv_var (pv 2)) ja_nil)))))
    (jss_cons (js_if (jt_cmp (op_neD (hu_64 hr)) od_ne (jv_var (pv 4)) (JO.v (jo_call h__law_of_use (hr.mono (by decide)) (by rfl) bd.tk (ja_cons (jv_var (pv 1)) (ja_cons (jv_var (pv 3)) ja_nil)))) (nomark _))
    (jss_one (js_ret (JO.g jo_bl)))
    jss_nil)
    (jss_cons (js_setLc (i := 5) (own := [("letter", 7)]) (g := (gName 7)) (tt := (tTest (tOp (rInU K) (tVar 7) (tVar 3)))) (te := (tVar 7)) bd (jv_var (pv 2)) (blkOk_by (own := [("letter", 7)]) (N := N__law_unlike) (sc := defScope st__law_unlike) (by decide +kernel)) (fun _ _ _ _ _ => (jtv_name (by decide) bd.nd rfl (by first | exact Or.inl rfl | exact Or.inr rfl))) (fun _ _ _ _ _ => (jts_one (jt_cmp (op_inU (hu_65 hr)) od_in (jv_var (pv 7)) (jv_var (pv 3)) (by rfl)))) (fun _ _ _ _ _ => (JV.imm (jv_var (pv 7)))) rfl rfl (sw_true rfl rfl rfl (by decide +kernel)))
    (jss_cons (JS.frz 4 (js_for (ks := [6]) bd (jf_var (pv 4)) (jt_name bd.nd rfl (Or.inl rfl))
    (jss_one (js_if (jt_truth (JO.v (jo_call h__law_houses_unlike (hr.mono (by decide)) (by rfl) bd.tk (ja_cons (jv_ix (jv_ix (jv_var (pv 0)) (JO.v jo_int) (fun _ _ => rfl)) (jv_var (pv 6)) (fun _ _ => rfl)) (ja_cons (jv_ix (jv_ix (jv_var (pv 1)) (JO.v jo_int) (fun _ _ => rfl)) (jv_var (pv 6)) (fun _ _ => rfl)) (ja_cons (jv_var (pv 5)) ja_nil))))))
    (jss_one (js_ret (JO.g jo_bl)))
    jss_nil))))
    (jss_one (js_ret (JO.g jo_bl)))))))))⟩
set_option maxHeartbeats 4000000 in
theorem ok_law {f : Addr} {fd : FuncData} (F : Fun K "law" "law" st_law f fd) (h__law_accepted : Fd P w K mg base 2 "_law_accepted" 3 _law_accepted_d) (h__law_bare : Fd P w K mg base 1 "_law_bare" 2 _law_bare_d) (h__law_cell_at : Fd P w K mg base 1 "_law_cell_at" 2 _law_cell_at_d) (h__law_nest : Fd P w K mg base 1 "_law_nest" 3 _law_nest_d) (h__law_other_works : Fd P w K mg base 4 "_law_other_works" 4 _law_other_works_d) (h__law_refused : Fd P w K mg base 7 "_law_refused" 2 _law_refused_d) (h__law_row_good : Fd P w K mg base 2 "_law_row_good" 2 _law_row_good_d) (h__law_unlike : Fd P w K mg base 3 "_law_unlike" 2 _law_unlike_d) (h__law_works_by : Fd P w K mg base 3 "_law_works_by" 3 _law_works_by_d) (h_works_difference : Fd P w K mg base 6 "works_difference" 2 works_difference_d) (m_len : mg "len" = none) (m_max : mg "max" = none) (m_min : mg "min" = none)   : FnOk P w K mg base (L2.CX P w) 8 f fd ["script"] (spF ⟨K, mg, P, w⟩ mg 1 law_d) :=
  fn_mk (N := N_law) (s := law_s) (k := 7) F sc_law fun cdv A outer s0 H E hr bd => ⟨_, (jss_cons (js_set (i := 1) bd rfl (Or.inl rfl) (JO.g (jo_add (JO.v jo_int) (JO.v (jo_mod (JO.v (jo_call h__law_cell_at (hr.mono (by decide)) (by rfl) bd.tk (ja_cons (jv_var (pv 0)) (ja_cons (JO.v jo_int) ja_nil)))) (JO.v jo_int))))))
    (jss_cons (js_set (i := 2) bd rfl (Or.inl rfl) (JO.g (jo_add (JO.v jo_int) (JO.v (jo_mod (JO.v (jo_div (JO.v (jo_call h__law_cell_at (hr.mono (by decide)) (by rfl) bd.tk (ja_cons (jv_var (pv 0)) (ja_cons (JO.v jo_int) ja_nil)))) (JO.v jo_int))) (JO.v (jo_blt (call_min2 bd.calm) cd_min (by rfl) m_min (by decide +kernel) (ja_cons (JO.v jo_int) (ja_cons (JO.v (jo_sub (JO.v jo_int) (jv_var (pv 1)))) ja_nil)))))))))
    (jss_cons (js_set (i := 3) bd rfl (Or.inl rfl) (JO.g (jo_add (JO.v jo_int) (JO.v (jo_mod (JO.v (jo_call h__law_cell_at (hr.mono (by decide)) (by rfl) bd.tk (ja_cons (jv_var (pv 0)) (ja_cons (JO.v jo_int) ja_nil)))) (JO.v (jo_blt (call_max2 bd.calm) cd_max (by rfl) m_max (by decide +kernel) (ja_cons (JO.v jo_int) (ja_cons (JO.v (jo_sub (JO.v (jo_len (by rfl) m_len (ja_cons (jv_var (pv 0)) ja_nil))) (JO.v jo_int))) ja_nil)))))))))
    (jss_cons (js_set (i := 4) bd rfl (Or.inl rfl) (JO.g (jo_call h__law_works_by (hr.mono (by decide)) (by rfl) bd.tk (ja_cons (JO.v (jo_slice (jv_var (pv 0)) (jp_some (JO.v jo_int)) (jp_some (jv_var (pv 3))))) (ja_cons (jv_var (pv 1)) (ja_cons (jv_var (pv 2)) ja_nil))))))
    (jss_cons (js_set (i := 5) bd rfl (Or.inl rfl) (JO.g (jo_call h__law_other_works (hr.mono (by decide)) (by rfl) bd.tk (ja_cons (jv_var (pv 4)) (ja_cons (JO.v (jo_slice (jv_var (pv 0)) (jp_some (jv_var (pv 3))) jp_none)) (ja_cons (JO.v (jo_mod (JO.v (jo_call h__law_cell_at (hr.mono (by decide)) (by rfl) bd.tk (ja_cons (jv_var (pv 0)) (ja_cons (JO.v jo_int) ja_nil)))) (JO.v jo_int))) (ja_cons (JO.v (jo_call h__law_cell_at (hr.mono (by decide)) (by rfl) bd.tk (ja_cons (jv_var (pv 0)) (ja_cons (JO.v jo_int) ja_nil)))) ja_nil)))))))
    (jss_cons (js_if (jt_cmp op_notN' od_isN (JO.v (jo_call h_works_difference (hr.mono (by decide)) (by rfl) bd.tk (ja_cons (jv_var (pv 4)) (ja_cons (jv_var (pv 4)) ja_nil)))) (JO.v jo_non) (nomark _))
    (jss_one (js_ret (JO.g jo_bl)))
    jss_nil)
    (jss_cons (js_set (i := 6) bd rfl (Or.inl rfl) (JO.g (jo_lst (jb_cons (jo_tup (jb_cons (jo_add (JO.v (jo_mod (jv_var (pv 1)) (JO.v jo_int))) (JO.v jo_int)) (jb_cons (JV.imm (jv_var (pv 2))) jb_nil))) (jb_cons (jo_tup (jb_cons (JV.imm (jv_var (pv 1))) (jb_cons (jo_add (JO.v (jo_mod (jv_var (pv 2)) (JO.v jo_int))) (JO.v jo_int)) jb_nil))) (jb_cons (jo_tup (jb_cons (jo_add (JO.v (jo_mod (jv_var (pv 1)) (JO.v jo_int))) (JO.v jo_int)) (jb_cons (jo_add (JO.v (jo_mod (jv_var (pv 2)) (JO.v jo_int))) (JO.v jo_int)) jb_nil))) jb_nil))))))
    (jss_cons (js_set (i := 7) bd rfl (Or.inl rfl) (JO.g (JV.imm (jv_ix (jv_var (pv 6)) (JO.v (jo_mod (JO.v (jo_div (JO.v (jo_call h__law_cell_at (hr.mono (by decide)) (by rfl) bd.tk (ja_cons (jv_var (pv 0)) (ja_cons (JO.v jo_int) ja_nil)))) (JO.v jo_int))) (JO.v (jo_len (by rfl) m_len (ja_cons (jv_var (pv 6)) ja_nil))))) (fun _ _ => rfl)))))
    (jss_cons (js_set (i := 8) bd rfl (Or.inl rfl) (JO.g (jo_call h__law_bare (hr.mono (by decide)) (by rfl) bd.tk (ja_cons (jv_ix (jv_var (pv 7)) (JO.v jo_int) (fun _ _ => rfl)) (ja_cons (jv_ix (jv_var (pv 7)) (JO.v jo_int) (fun _ _ => rfl)) ja_nil)))))
    (jss_cons (js_if (JW.t (jw_or (jt_not (jt_truth (JO.v (jo_call h__law_refused (hr.mono (by decide)) (by rfl) bd.tk (ja_cons (jv_var (pv 4)) (ja_cons (jv_var (pv 8)) ja_nil)))))) (jw_or1 (jt_not (jt_truth (JO.v (jo_call h__law_refused (hr.mono (by decide)) (by rfl) bd.tk (ja_cons (jv_var (pv 8)) (ja_cons (jv_var (pv 4)) ja_nil)))))))))
    (jss_one (js_ret (JO.g jo_bl)))
    jss_nil)
    (jss_cons (js_set (i := 9) bd rfl (Or.inl rfl) (JO.g (jo_call h_works_difference (hr.mono (by decide)) (by rfl) bd.tk (ja_cons (jv_var (pv 4)) (ja_cons (jv_var (pv 5)) ja_nil)))))
    (jss_cons (js_if (JW.t (jw_or (jt_cmp (op_neD (hu_64 hr)) od_ne (JO.v (jo_cmp op_isN' od_isN (JO.v (jo_call h_works_difference (hr.mono (by decide)) (by rfl) bd.tk (ja_cons (jv_var (pv 5)) (ja_cons (jv_var (pv 4)) ja_nil)))) (JO.v jo_non) (nomark _))) (JO.v (jo_cmp op_isN' od_isN (jv_var (pv 9)) (JO.v jo_non) (nomark _))) (nomark _)) (jw_or1 (jt_cmp (op_neD (hu_64 hr)) od_ne (JO.v (jo_cmp op_notN' od_isN (jv_var (pv 9)) (JO.v jo_non) (nomark _))) (JO.v (jo_call h__law_unlike (hr.mono (by decide)) (by rfl) bd.tk (ja_cons (jv_var (pv 4)) (ja_cons (jv_var (pv 5)) ja_nil)))) (nomark _)))))
    (jss_one (js_ret (JO.g jo_bl)))
    jss_nil)
    (jss_cons (js_if (jt_cmp op_isN' od_isN (jv_var (pv 9)) (JO.v jo_non) (nomark _))
    (jss_cons (js_set (i := 10) bd rfl (Or.inl rfl) (JO.g (jo_call h__law_nest (hr.mono (by decide)) (by rfl) bd.tk (ja_cons (JO.v (jo_slice (jv_var (pv 0)) (jp_some (jv_var (pv 3))) (jp_some (JO.v (jo_add (jv_var (pv 3)) (JO.v jo_int)))))) (ja_cons (jv_var (pv 1)) (ja_cons (jv_var (pv 2)) ja_nil))))))
    (jss_one (js_ret (JO.g (jo_cmp (op_eqD (hu_64 hr)) od_eq (JO.v (jo_call h__law_accepted (hr.mono (by decide)) (by rfl) bd.tk (ja_cons (jv_var (pv 4)) (ja_cons (jv_var (pv 10)) (ja_cons (JO.v jo_int) ja_nil))))) (JO.v (jo_call h__law_accepted (hr.mono (by decide)) (by rfl) bd.tk (ja_cons (jv_var (pv 5)) (ja_cons (jv_var (pv 10)) (ja_cons (JO.v jo_int) ja_nil))))) (nomark _))))))
    jss_nil)
    (jss_cons (js_if (jt_not (jt_truth (JO.v (jo_call h__law_row_good (hr.mono (by decide)) (by rfl) bd.tk (ja_cons (jv_var (pv 4)) (ja_cons (jv_var (pv 9)) ja_nil))))))
    (jss_one (js_ret (JO.g jo_bl)))
    jss_nil)
    (jss_one (js_ret (JO.g (jo_cmp (op_neD (hu_64 hr)) od_ne (JO.v (jo_call h__law_accepted (hr.mono (by decide)) (by rfl) bd.tk (ja_cons (jv_var (pv 4)) (ja_cons (jv_var (pv 9)) (ja_cons (JO.v jo_int) ja_nil))))) (JO.v (jo_call h__law_accepted (hr.mono (by decide)) (by rfl) bd.tk (ja_cons (jv_var (pv 5)) (ja_cons (jv_var (pv 9)) (ja_cons (JO.v jo_int) ja_nil))))) (nomark _)))))))))))))))))))⟩
end
end K82

namespace K82
open PySem PySem.Spec PyProof.Rows L2 Gw
theorem lparts_loop {p h : Int} {S T : D} : ∀ (signs : List Int) (s : PSt), nst p h signs (s.wds.length - 1) = true → s.call.length = s.wds.length → 0 < s.wds.length → sz s + 3 * signs.length < sizeLine →
    forL (nTg 7) [7] _law_parts_b1 (signs.map D.i) [.fz (.v (.int p)), .fz (.v (.int h)), .fz S, .fz T, .own (.lst (s.due.map lstOf)), .own (.lst (s.call.reverse.map D.i)), .own (.lst (s.wds.reverse.map wOf)), .no]
      = .nx [.fz (.v (.int p)), .fz (.v (.int h)), .fz S, .fz T, .own (.lst ((pst p h signs s).due.map lstOf)), .own (.lst ((pst p h signs s).call.reverse.map D.i)), .own (.lst ((pst p h signs s).wds.reverse.map wOf)), .no]
  | [], s, _, _, _, _ => by simp [forL_nil, pst]
  | x :: r, ⟨due, c :: cs, w :: ws⟩, hd, hl, h0, hz => by
    have e : (((w :: ws).length : Int) - 1) = (ws.length : Int) := by simp
    replace hd : nst p h (x :: r) (ws.length : Int) = true := by rw [← e]; exact hd
    rw [nst] at hd
    rw [List.map_cons]
    simp [sz] at hz hl
    split at hd
    · cases hd
    next h1 =>
    split at hd
    next h2 =>
      simp at hd
      have ih := lparts_loop (S := S) (T := T) r ⟨due ++ [(c, w)], cs, ws⟩ (by simpa using hd.2) hl (by simp; omega) (by simp [sz]; omega)
      subst h2
      have z1 : due.length < sizeLine := by omega
      rw [show pst p h ((p + h) :: r) ⟨due, c :: cs, w :: ws⟩ = pst p h r ⟨due ++ [(c, w)], cs, ws⟩ by simp [pst]]
      exact (forL_step (by simp [turn, _law_parts_b1, wOf, lstOf, z1])).trans ih
    next h2 =>
      have h3 : ¬ (x < 0) := by omega
      split at hd
      next h5 =>
        have ih := lparts_loop (S := S) (T := T) r ⟨due, (x - p) :: c :: cs, [] :: (w ++ [x]) :: ws⟩ (by simpa using hd) (by simp; exact hl) (by simp) (by simp [sz]; omega)
        have z1 : cs.length + 1 < sizeLine := by omega
        have z2 : ws.length + 1 < sizeLine := by omega
        have z3 : w.length < sizeLine := by omega
        rw [show pst p h (x :: r) ⟨due, c :: cs, w :: ws⟩ = pst p h r ⟨due, (x - p) :: c :: cs, [] :: (w ++ [x]) :: ws⟩ by simp [pst, h2, h5]]
        exact (forL_step (by simp [turn, _law_parts_b1, h2, h5, wOf, z1, z2, z3])).trans ih
      next h5 =>
        have ih := lparts_loop (S := S) (T := T) r ⟨due, c :: cs, (w ++ [x]) :: ws⟩ (by simpa using hd) (by simp; exact hl) (by simp) (by simp [sz]; omega)
        have z3 : w.length < sizeLine := by omega
        rw [show pst p h (x :: r) ⟨due, c :: cs, w :: ws⟩ = pst p h r ⟨due, c :: cs, (w ++ [x]) :: ws⟩ by simp [pst, h2, h5]]
        exact (forL_step (by simp [turn, _law_parts_b1, h2, h5, wOf, z3])).trans ih
  | x :: r, ⟨due, [], w :: ws⟩, hd, hl, h0, hz => by simp at hl
  | x :: r, ⟨due, _, []⟩, hd, hl, h0, hz => by simp at h0
theorem lparts_ok {p h t : Int} {signs : List Int} {S : D} (hS : S = .lst (signs.map D.i) ∨ S = .tup (signs.map D.i)) (hn : nst p h signs 0 = true) (hz : 3 * signs.length + 2 < sizeLine) :
    _law_parts_d [.v (.int p), .v (.int h), S, .v (.int t)] = .ok (.lst ((ptsOf p h signs t).map lstOf)) := by
  have hl := lparts_loop (S := S) (T := .v (.int t)) signs ⟨[], [t], [[]]⟩ (by simpa using hn) rfl (by simp) (by simp [sz]; omega)
  obtain ⟨U, w, hr⟩ := pst_bot (t := t) hn
  have hD := pst_due_le (p := p) (h := h) signs ⟨[], [t], [[]]⟩
  rw [hr] at hD
  have hD : U.length < sizeLine := by simp at hD; omega
  simp [wOf] at hl
  rcases hS with rfl | rfl
  · simp [_law_parts_d, _law_parts_s, ptsOf]
    rw [hl, hr]
    simp [lstOf, wOf, hD]
  · simp [_law_parts_d, _law_parts_s, ptsOf]
    rw [hl, hr]
    simp [lstOf, wOf, hD]
theorem nest_loop {p h : Int} {F : D} (hp : 1 ≤ p) (hh : 1 ≤ h) (hp4 : p ≤ 4) : ∀ (flow : List Int) (st : List Int × Int), st.1.length + flow.length < sizeLine →
    forL (nTg 5) [5, 6] _law_nest_b1 (flow.map D.i) [.fz F, .fz (.v (.int p)), .fz (.v (.int h)), .own (.lst (st.1.map D.i)), .own (.v (.int st.2)), .no, .no] = .nx [.fz F, .fz (.v (.int p)), .fz (.v (.int h)), .own (.lst ((flow.foldl (nstep p h) st).1.map D.i)), .own (.v (.int (flow.foldl (nstep p h) st).2)), .no, .no]
  | [], st, _ => by simp [forL_nil]
  | c :: r, ⟨row, d⟩, hz => by
    simp at hz
    have ih := nest_loop (F := F) hp hh hp4 r (nstep p h (row, d) c) (by simp [nstep]; omega)
    have z1 : row.length < sizeLine := by omega
    have m1 : 0 < p + h + 1 := by omega
    have m2 : CDiv c 13 := ⟨by decide, by decide⟩
    have m3 : 0 < p := by omega
    rw [List.map_cons, List.foldl_cons]
    refine (forL_step ?_).trans ih
    simp [turn, _law_nest_b1, m1, m2, m3, nstep]
    by_cases q : c % (p + h + 1) = p + h
    · by_cases q2 : d = 0
      · simp [q, q2, m2, m3]
        by_cases q3 : c / 13 % p = p + h
        · simp [q3, z1]
        · by_cases q4 : p ≤ c / 13 % p
          · simp [q3, q4, z1]
          · simp [q3, q4, z1]
      · simp [q, q2, z1]
    · by_cases q4 : p ≤ c % (p + h + 1)
      · simp [q, q4, z1]
      · simp [q, q4, z1]
theorem nest_ok {p h : Int} (hp : 1 ≤ p) (hh : 1 ≤ h) (hp4 : p ≤ 4) {flow : List Int} (hz : flow.length < 1000000) : _law_nest_d [.lst (flow.map D.i), .v (.int p), .v (.int h)] = .ok (.lst ((nestOf p h flow).map D.i)) := by
  have hl := nest_loop (F := .lst (flow.map D.i)) hp hh hp4 flow ([], 0) (by simp; have := sline; omega)
  obtain ⟨⟨h0, h1, _⟩, h3⟩ := half_fold hp hh flow ([], 0) ⟨by simp, by simp, fun r e he => by simp⟩
  simp at hl h3
  simp [_law_nest_d, _law_nest_s]
  rw [hl]
  unfold nestOf
  generalize flow.foldl (nstep p h) ([], 0) = st at *
  have z1 : -9223372036854775808 ≤ st.2 ∧ st.2 < 9223372036854775808 := by omega
  have z2 : st.2.toNat ≤ sizeLine := by have := sline; omega
  have z3 : st.1.length + st.2.toNat ≤ sizeLine := by have := sline; omega
  have e : ∀ n, (List.replicate n [D.v (.int (p + h))]).flatten = List.replicate n (D.v (.int (p + h))) := by
    intro n
    induction n with
    | zero => rfl
    | succ n ih => rw [List.replicate_succ, List.flatten_cons, ih, List.replicate_succ]; rfl
  simp [z1, z2, z3, e]

theorem cell_ok {ns : List Int} (k : Nat) : _law_cell_at_d [.fro (ns.map D.i), .v (.int (k : Int))] = .ok (.v (.int (ns.getD k 0))) := by
  simp [_law_cell_at_d, _law_cell_at_s]
  by_cases h : k < ns.length
  · simp [h, dAt_map h]
  · simp [h, List.getElem?_eq_none (Nat.le_of_not_lt h)]
theorem cell0 {ns : List Int} : _law_cell_at_d [.fro (ns.map D.i), .v (.int 0)] = .ok (.v (.int (ns.getD 0 0))) := cell_ok 0
theorem cell1 {ns : List Int} : _law_cell_at_d [.fro (ns.map D.i), .v (.int 1)] = .ok (.v (.int (ns.getD 1 0))) := cell_ok 1
theorem draw_ok {flow : List Int} {k m : Int} (k0 : 0 ≤ k) (k1 : k < 1000000) (m0 : 0 < m) : _law_draw_d [.lst (flow.map D.i), .v (.int k), .v (.int m)] = .ok (.v (.int (drw flow k m))) := by
  simp only [_law_draw_d, _law_draw_s, fnD_e]
  unfold drw
  by_cases h1 : k < flow.length
  · have a : dAt (flow.map D.i) k = .ok (.v (.int (flow.getD k.toNat 0))) := dAt_of k0 (by simp [show k.toNat < flow.length by omega])
    simp at a
    simp [h1, a, m0]
  · by_cases h2 : flow.length = 0
    · have e := List.length_eq_zero_iff.mp h2
      subst e
      have k2 : ¬ k < 0 := by omega
      simp [k2]
    · have hl : (0 : Int) < flow.length := by omega
      have e0 := Int.emod_nonneg k (b := (flow.length : Int)) (by omega)
      have e1 := Int.emod_lt_of_pos k hl
      have a : dAt (flow.map D.i) (k % flow.length) = .ok (.v (.int (flow.getD (k % flow.length).toNat 0))) := dAt_of e0 (by simp [show (k % (flow.length : Int)).toNat < flow.length by omega])
      have m1 : CMul k k := .inl ⟨by omega, by omega⟩
      have m2 : ∀ a : Int, CMul a 48271 := fun a => .inr ⟨by omega, by omega⟩
      have m3 : ∀ a : Int, CMul (a % 2147483647) (a % 2147483647) := fun a => .inl ⟨by have := Int.emod_nonneg a (b := 2147483647) (by omega); omega, by have := Int.emod_lt_of_pos a (b := 2147483647) (by omega); omega⟩
      have h3 : ¬ flow = [] := fun e => h2 (by rw [e]; rfl)
      have h4 : 0 < flow.length := by omega
      simp at a
      simp [h1, h3, h4, a, m0, m1, m2, m3]
theorem house_turn {flow ms W : List Int} {ws : List (List Int)} {at_ L n r x : Int} (c1 : CMul r 7) (d1 : _law_draw_d [.lst (flow.map D.i), .v (.int (at_ + 1 + r * 7)), .v (.int 4000000000)] = .ok (.v (.int x))) (z1 : ms.length < sizeLine)
    (lb : (-4611686018427387904 : Int) ≤ L ∧ L < 4611686018427387904) (z2 : ws.length < sizeLine) (z3 : W.length ≤ sizeLine)
    (cl : ∀ ms, compL (nTg 9) qYes (pCall _law_draw_d (aCons (pV 0) (aCons (p2 dAdd (p2 dAdd (pV 7) (pC (.int 1))) (pV 9)) (aCons (pV 3) aNil)))) [.fz (.lst (flow.map D.i)), .fz (.v (.int at_)), .fz (.v (.int L)), .own (.v (.int n)), .own (.lst ms), .own (.lst (ws.map fun w => D.tup (w.map D.i))), .fz (.v (.int r)), .own (.v (.int (at_ + 1 + r * 7))), .own (.v (.int x)), .no] ((List.range L.toNat).map fun (i : Nat) => D.i (i : Int)) = .ok (W.map D.i)) :
    turn (nTg 6) [6, 7, 8] _law_house_by_b1 (.v (.int r)) [.fz (.lst (flow.map D.i)), .fz (.v (.int at_)), .fz (.v (.int L)), .own (.v (.int n)), .own (.lst (ms.map D.i)), .own (.lst (ws.map fun w => D.tup (w.map D.i))), .no, .no, .no, .no]
      = .nx [.fz (.lst (flow.map D.i)), .fz (.v (.int at_)), .fz (.v (.int L)), .own (.v (.int n)), .own (.lst ((ms ++ [if x % 4 = 0 then 0 else 1 + x / 4]).map D.i)), .own (.lst ((ws ++ [W]).map fun w => D.tup (w.map D.i))), .no, .no, .no, .no] := by
  have c2 : CDiv x 4 := ⟨by decide, by decide⟩
  by_cases hx : x % 4 = 0
  · simp [turn, _law_house_by_b1, c1, d1, hx, z1, lb, z2, z3, cl]
  · simp [turn, _law_house_by_b1, c1, d1, hx, c2, z1, lb, z2, z3, cl]
theorem house_ok {flow : List Int} {at_ L : Int} (a0 : 0 ≤ at_) (a1 : at_ ≤ 100) (l0 : 0 ≤ L) (l1 : L ≤ 6) : _law_house_by_d [.lst (flow.map D.i), .v (.int at_), .v (.int L)] = .ok (houseD L (houseBy flow at_ L)) := by
  have sl := sline
  obtain ⟨n, hn⟩ : ∃ n, n = 1 + drw flow at_ 4 := ⟨_, rfl⟩
  have hb := drw_in (flow := flow) (k := at_) (m := 4) (by decide)
  have n0 : 1 ≤ n := by omega
  have n4 : n ≤ 4 := by omega
  have d0 := draw_ok (flow := flow) (k := at_) (m := 4) a0 (by omega) (by decide)
  have loop : ∀ (l : List Nat) (ms : List Int) (ws : List (List Int)), (∀ r ∈ l, r < 4) → ms.length + l.length ≤ 4 → ws.length + l.length ≤ 4 →
      forL (nTg 6) [6, 7, 8] _law_house_by_b1 (l.map fun (r : Nat) => D.i (r : Int)) [.fz (.lst (flow.map D.i)), .fz (.v (.int at_)), .fz (.v (.int L)), .own (.v (.int n)), .own (.lst (ms.map D.i)), .own (.lst (ws.map fun w => D.tup (w.map D.i))), .no, .no, .no, .no]
        = .nx [.fz (.lst (flow.map D.i)), .fz (.v (.int at_)), .fz (.v (.int L)), .own (.v (.int n)), .own (.lst ((ms ++ l.map (hMark flow at_)).map D.i)), .own (.lst ((ws ++ l.map (hWay flow at_ L n)).map fun w => D.tup (w.map D.i))), .no, .no, .no, .no] := by
    intro l
    induction l with
    | nil => intro ms ws _ _ _; simp [forL_nil]
    | cons r l ih =>
      intro ms ws hr h1 h2
      simp at h1 h2
      have r4 := hr r (by simp)
      have ih' := ih (ms ++ [hMark flow at_ r]) (ws ++ [hWay flow at_ L n r]) (fun x hx => hr x (by simp [hx])) (by simp; omega) (by simp; omega)
      simp only [List.append_assoc, List.singleton_append] at ih'
      refine (forL_step ?_).trans ih'
      have c1 : CMul (r : Int) 7 := .inl ⟨by omega, by omega⟩
      have d1 := draw_ok (flow := flow) (k := at_ + 1 + r * 7) (m := 4000000000) (by omega) (by omega) (by decide)
      refine house_turn (W := hWay flow at_ L n r) c1 d1 (by omega) (by omega) (by omega) (by simp [hWay]; omega) fun e4 => ?_
      have cl := compL_run (t := nTg 9) (q := qYes) (pe := pCall _law_draw_d (aCons (pV 0) (aCons (p2 dAdd (p2 dAdd (pV 7) (pC (.int 1))) (pV 9)) (aCons (pV 3) aNil)))) (env := [.fz (.lst (flow.map D.i)), .fz (.v (.int at_)), .fz (.v (.int L)), .own (.v (.int n)), .own (.lst e4), .own (.lst (ws.map fun w => D.tup (w.map D.i))), .fz (.v (.int r)), .own (.v (.int (at_ + 1 + r * 7))), .own (.v (.int (drw flow (at_ + 1 + r * 7) 4000000000))), .no]) (fun (i : Nat) => D.i (i : Int)) (fun (i : Nat) => D.i (drw flow (at_ + 1 + r * 7 + 1 + i) n)) (List.range L.toNat) (fun i hi => ⟨_, rfl, rfl, by
        have hi := List.mem_range.mp hi
        have d2 := draw_ok (flow := flow) (k := at_ + 1 + r * 7 + 1 + i) (m := n) (by omega) (by omega) (by omega)
        simp [d2]⟩)
      rw [cl]
      simp [hWay]
  have lp := loop (List.range n.toNat) [] [] (fun r hr => by have := List.mem_range.mp hr; omega) (by simp; omega) (by simp; omega)
  have nb : (-4611686018427387904 : Int) ≤ n ∧ n < 4611686018427387904 := by omega
  simp only [List.nil_append, List.map_nil] at lp
  simp [_law_house_by_d, _law_house_by_s, d0, ← hn, nb]
  rw [lp]
  simp [houseD, houseBy, ← hn]
theorem works_ok {flow : List Int} {p h : Int} (p0 : 1 ≤ p) (p4 : p ≤ 4) (h0 : 1 ≤ h) (h3 : h ≤ 3) (ph : p + h ≤ 6) : _law_works_by_d [.lst (flow.map D.i), .v (.int p), .v (.int h)] = .ok (.tup [.v (.int p), .tup (((List.range h.toNat).map fun (j : Nat) => houseBy flow (29 * j) (p + h)).map (houseD (p + h)))]) := by
  have sl := sline
  have hb : (-4611686018427387904 : Int) ≤ h ∧ h < 4611686018427387904 := by omega
  have z : h.toNat ≤ sizeLine := by omega
  have cl := compL_run (t := nTg 3) (q := qYes) (pe := pCall _law_house_by_d (aCons (pV 0) (aCons (p2 dMul (pC (.int 29)) (pV 3)) (aCons (p2 dAdd (pV 1) (pV 2)) aNil)))) (env := [.fz (.lst (flow.map D.i)), .fz (.v (.int p)), .fz (.v (.int h)), .no]) (fun (i : Nat) => D.i (i : Int)) (fun (j : Nat) => houseD (p + h) (houseBy flow (29 * j) (p + h))) (List.range h.toNat) (fun i hi => ⟨_, rfl, rfl, by
    have hi := List.mem_range.mp hi
    have m : CMul 29 (i : Int) := .inl ⟨by decide, by decide⟩
    have k := house_ok (flow := flow) (at_ := 29 * i) (L := p + h) (by omega) (by omega) (by omega) (by omega)
    simp [m, k]⟩)
  simp [_law_works_by_d, _law_works_by_s, hb]
  rw [cl]
  simp [z, Function.comp_def]
theorem answer_ok {L : Int} {H : House} (k : H.ok L) {word : List Int} {W : D} (hW : W = .lst (word.map D.i) ∨ W = .tup (word.map D.i)) (hw : ∀ x ∈ word, 0 ≤ x ∧ x < L) : _law_answer_d [houseD L H, W] = .ok (.v (.int (H.mark (H.walk 0 word)))) := by
  have loop : ∀ (l : List Int) (room : Int), 0 ≤ room → room < H.marks.length → (∀ x ∈ l, 0 ≤ x ∧ x < L) → forL (nTg 3) [3] _law_answer_b1 (l.map D.i) [.fz (houseD L H), .fz W, .own (.v (.int room)), .no] = .nx [.fz (houseD L H), .fz W, .own (.v (.int (H.walk room l))), .no] := by
    intro l
    induction l with
    | nil => intro room _ _ _; simp [forL_nil, House.walk]
    | cons x l ih =>
      intro room r0 r1 hx
      have h := hx x (by simp)
      obtain ⟨g1, g2, g3⟩ := dIx_go k r0 r1 h.1 h.2
      have w := dIx_way k r0 r1
      refine (forL_step ?_).trans (ih (H.go room x) g2 g3 fun y hy => hx y (by simp [hy]))
      simp only [List.getD_eq_getElem?_getD] at g1 w
      simp [turn, _law_answer_b1, houseD, w, g1]
  have p0 : (0 : Int) < H.marks.length := by have := k.pos; omega
  have wi := walk_in k word 0 (by decide) p0 hw
  have m := dIx_mark (H := H) wi.1 wi.2
  have lp := loop word 0 (by decide) p0 hw
  rcases hW with rfl | rfl
  · simp [_law_answer_d, _law_answer_s]
    rw [lp]
    simp [houseD, m]
  · simp [_law_answer_d, _law_answer_s]
    rw [lp]
    simp [houseD, m]
/-- what a works answers to a nested row -/
def accOf (p : Int) (Hs : List House) (row : List Int) (t : Int) : Bool := (ptsOf p Hs.length row t).all fun x => (Hs.getD x.1.toNat ⟨[], []⟩).mark ((Hs.getD x.1.toNat ⟨[], []⟩).walk 0 x.2) != 0
theorem accepted_ok {p : Int} {Hs : List House} (hk : ∀ H ∈ Hs, H.ok (p + Hs.length)) {row : List Int} {t : Int} {R : D} (hR : R = .lst (row.map D.i) ∨ R = .tup (row.map D.i)) (hn : nst p Hs.length row 0 = true) (hz : 3 * row.length + 2 < sizeLine) (t0 : 0 ≤ t) (t1 : t < Hs.length) :
    _law_accepted_d [.tup [.v (.int p), .tup (Hs.map (houseD (p + Hs.length)))], R, .v (.int t)] = .ok (.v (.bl (accOf p Hs row t))) := by
  have lp := lparts_ok (t := t) hR hn hz
  have pg := pts_good hn t0 t1
  have loop : ∀ (l : List (Int × List Int)), (∀ x ∈ l, (0 ≤ x.1 ∧ x.1 < Hs.length) ∧ ∀ y ∈ x.2, 0 ≤ y ∧ y < p + Hs.length) →
      (l.all (fun x => (Hs.getD x.1.toNat ⟨[], []⟩).mark ((Hs.getD x.1.toNat ⟨[], []⟩).walk 0 x.2) != 0) = true ∧ forL (nTup (nsCons (nTg 3) (nsCons (nTg 4) nsNil))) [3, 4] _law_accepted_b1 (l.map lstOf) [.fz (.tup [.v (.int p), .tup (Hs.map (houseD (p + Hs.length)))]), .fz R, .fz (.v (.int t)), .no, .no] = .nx [.fz (.tup [.v (.int p), .tup (Hs.map (houseD (p + Hs.length)))]), .fz R, .fz (.v (.int t)), .no, .no])
      ∨ (l.all (fun x => (Hs.getD x.1.toNat ⟨[], []⟩).mark ((Hs.getD x.1.toNat ⟨[], []⟩).walk 0 x.2) != 0) = false ∧ ∃ e, forL (nTup (nsCons (nTg 3) (nsCons (nTg 4) nsNil))) [3, 4] _law_accepted_b1 (l.map lstOf) [.fz (.tup [.v (.int p), .tup (Hs.map (houseD (p + Hs.length)))]), .fz R, .fz (.v (.int t)), .no, .no] = .rt (.v (.bl false)) e) := by
    intro l
    induction l with
    | nil => intro _; exact .inl ⟨rfl, by simp [forL_nil]⟩
    | cons x l ih =>
      intro hx
      obtain ⟨⟨c0, c1⟩, hw⟩ := hx x (by simp)
      have cl : x.1.toNat < Hs.length := by omega
      have e : Hs.getD x.1.toNat ⟨[], []⟩ = Hs[x.1.toNat] := by simp [cl]
      have kk := hk Hs[x.1.toNat] (List.getElem_mem cl)
      have an := answer_ok kk (W := .lst (x.2.map D.i)) (.inl rfl) hw
      have a1 : dAt (Hs.map (houseD (p + Hs.length))) x.1 = .ok (houseD (p + Hs.length) Hs[x.1.toNat]) := dAt_of c0 (by simp [cl])
      rw [List.all_cons, e]
      by_cases hm : Hs[x.1.toNat].mark (Hs[x.1.toNat].walk 0 x.2) = 0
      · refine .inr ⟨by simp [hm], ?_⟩
        rw [List.map_cons]
        refine ⟨_, forL_out (e2 := [.fz (.tup [.v (.int p), .tup (Hs.map (houseD (p + Hs.length)))]), .fz R, .fz (.v (.int t)), .fz (.v (.int x.1)), .fz (.lst (x.2.map D.i))]) ?_⟩
        simp [turn, _law_accepted_b1, lstOf, a1, an, hm]
      · have st : turn (nTup (nsCons (nTg 3) (nsCons (nTg 4) nsNil))) [3, 4] _law_accepted_b1 (lstOf x) [.fz (.tup [.v (.int p), .tup (Hs.map (houseD (p + Hs.length)))]), .fz R, .fz (.v (.int t)), .no, .no] = .nx [.fz (.tup [.v (.int p), .tup (Hs.map (houseD (p + Hs.length)))]), .fz R, .fz (.v (.int t)), .no, .no] := by
          simp [turn, _law_accepted_b1, lstOf, a1, an, hm]
        rcases ih fun y hy => hx y (by simp [hy]) with ⟨h1, h2⟩ | ⟨h1, e', h2⟩
        · exact .inl ⟨by rw [h1]; simp [hm], by rw [List.map_cons]; exact (forL_step st).trans h2⟩
        · exact .inr ⟨by rw [h1]; simp, e', by rw [List.map_cons]; exact (forL_step st).trans h2⟩
  rcases loop (ptsOf p Hs.length row t) pg with ⟨h1, h2⟩ | ⟨h1, e', h2⟩
  · simp [_law_accepted_d, _law_accepted_s, lp]
    rw [h2]
    simp [accOf] at h1 ⊢
    exact h1
  · simp [_law_accepted_d, _law_accepted_s, lp]
    rw [h2]
    simp [accOf] at h1 ⊢
    exact h1
theorem less_loop {A B : D} : ∀ (u v : List Int), u.length = v.length → (u = v ∧ forL (nTup (nsCons (nTg 2) (nsCons (nTg 3) nsNil))) [2, 3] less_b1 (List.zipWith (fun a b => D.tup [a, b]) (u.map D.i) (v.map D.i)) [.fz A, .fz B, .no, .no] = .nx [.fz A, .fz B, .no, .no])
    ∨ ∃ e, forL (nTup (nsCons (nTg 2) (nsCons (nTg 3) nsNil))) [2, 3] less_b1 (List.zipWith (fun a b => D.tup [a, b]) (u.map D.i) (v.map D.i)) [.fz A, .fz B, .no, .no] = .rt (.v (.bl (ltx u v))) e
  | [], [], _ => .inl ⟨rfl, by simp [forL_nil]⟩
  | a :: u, b :: v, hl => by
    rw [List.map_cons, List.map_cons, List.zipWith_cons_cons]
    by_cases h : a = b
    · subst h
      have st : turn (nTup (nsCons (nTg 2) (nsCons (nTg 3) nsNil))) [2, 3] less_b1 (D.tup [D.i a, D.i a]) [.fz A, .fz B, .no, .no] = .nx [.fz A, .fz B, .no, .no] := by simp [turn, less_b1]
      rw [forL_step st]
      rcases less_loop u v (by simpa using hl) with ⟨e, h⟩ | ⟨e, h⟩
      · exact .inl ⟨by rw [e], h⟩
      · exact .inr ⟨e, by rw [h]; simp [ltx]⟩
    · refine .inr ⟨_, forL_out (e2 := [.fz A, .fz B, .fz (D.i a), .fz (D.i b)]) ?_⟩
      simp [turn, less_b1, h, ltx]
  | [], _ :: _, hl => by simp at hl
  | _ :: _, [], hl => by simp at hl
theorem ltx_self : ∀ u : List Int, ltx u u = false
  | [] => rfl
  | a :: u => by rw [ltx]; simp [ltx_self u]
theorem less_ok {u v : List Int} (hu : wok u) (hv : wok v) : less_d [.tup (u.map D.i), .tup (v.map D.i)] = .ok (.v (.bl (decide (val u < val v)))) := by
  by_cases hl : u.length = v.length
  · have e : decide (val u < val v) = ltx u v := by
      have := ltx_val hu hv hl
      cases h : ltx u v with
      | true => simpa using this.mp h
      | false =>
        have : ¬ val u < val v := fun z => by rw [this.mpr z] at h; cases h
        simpa using this
    rw [e]
    rcases less_loop (A := .tup (u.map D.i)) (B := .tup (v.map D.i)) u v hl with ⟨e, h⟩ | ⟨e, h⟩
    · simp at h
      simp [less_d, less_s, hl]
      rw [h]
      subst e
      simp [ltx_self]
    · simp at h
      simp [less_d, less_s, hl]
      rw [h]
      simp
  · have hi : ¬ ((u.length : Int) = v.length) := by omega
    have e : decide (val u < val v) = decide ((u.length : Int) < v.length) := by
      rcases Nat.lt_or_gt_of_ne hl with h | h
      · have := val_len hu hv h
        simp [this]; exact h
      · have := val_len hv hu h
        have n1 : ¬ val u < val v := by omega
        simp [n1]; omega
    rw [e]
    simp [less_d, less_s, hl, hi]
theorem lesser_ok {a b : Option (List Int)} (ha : ∀ u, a = some u → wok u) (hb : ∀ u, b = some u → wok u) : lesser_d [rowD a, rowD b] = .ok (rowD (lsr a b)) := by
  cases a with
  | none => cases b <;> simp [lesser_d, lesser_s, lsr]
  | some u =>
    cases b with
    | none => simp [lesser_d, lesser_s, lsr]
    | some v =>
      have l := less_ok (hb v rfl) (ha u rfl)
      by_cases h : val v < val u
      · simp [lesser_d, lesser_s, lsr, l, h]
      · simp [lesser_d, lesser_s, lsr, l, h]
end K82

namespace K82
open PySem PySem.Spec PyProof.Rows L2 Gw
/-! ### rows_to_rooms -/
theorem dAt_row {F : List (Option (List Int))} {i : Int} (i0 : 0 ≤ i) (hi : i < F.length) : dAt (F.map rowD) i = .ok (rowD (rowO F i)) := by
  refine dAt_of i0 ?_
  rw [List.getElem?_map, rowO_get i0 hi]
  rfl
def envR (H : House) (L : Int) (Ml F : List (Option (List Int))) (tb : Bool) (s4 : Sl) : En := [.fz (houseD L H), .fz (.lst (Ml.map rowD)), .own (.lst (F.map rowD)), .own (.v (.bl tb)), s4, .no, .no, .no]
theorem set_row {F : List (Option (List Int))} {i : Int} (i0 : 0 ≤ i) (hi : i < F.length) : F.set i.toNat (rowO F i) = F := by
  have hget := rowO_get i0 hi
  apply List.ext_getElem?
  intro j
  by_cases hj : j = i.toNat
  · subst hj
    rw [List.getElem?_set_self (by omega), hget]
  · rw [List.getElem?_set_ne (Ne.symm hj)]
theorem rstep {H : House} {L room l : Int} {Ml F : List (Option (List Int))} {tb : Bool} (k : H.ok L) (hF : F.length = H.marks.length) (hM : (Ml.length : Int) = L) (r0 : 0 ≤ room) (r1 : room < H.marks.length) (l0 : 0 ≤ l) (l1 : l < L)
    (wF : ∀ r, some r ∈ F → wok r ∧ r.length ≤ 1000000) (wM : ∀ r, some r ∈ Ml → wok r ∧ r.length ≤ 1000000) :
    turn (nTg 5) [5, 6, 7] rows_to_rooms_b1 (.v (.int l)) (envR H L Ml F tb (.fz (.v (.int room)))) = .nx (envR H L Ml (relax H (rowO Ml) F room l) (tb || decide (relax H (rowO Ml) F room l ≠ F)) (.fz (.v (.int room)))) := by
  have sl := sline
  obtain ⟨g1, g2, g3⟩ := dIx_go k r0 r1 l0 l1
  have w := dIx_way k r0 r1
  simp only [List.getD_eq_getElem?_getD] at g1 w
  have a1 := dAt_row (F := F) r0 (by omega)
  have a2 := dAt_row (F := Ml) l0 (by omega)
  have a3 := dAt_row (F := F) g2 (by omega)
  have memF : ∀ (i : Int) r, 0 ≤ i → i < F.length → rowO F i = some r → some r ∈ F := fun i r i0 i1 e => List.mem_of_getElem? (by rw [rowO_get i0 i1, e])
  have memM : ∀ (i : Int) r, 0 ≤ i → i < Ml.length → rowO Ml i = some r → some r ∈ Ml := fun i r i0 i1 e => List.mem_of_getElem? (by rw [rowO_get i0 i1, e])
  unfold relax
  cases hu : rowO F room with
  | none =>
    rw [hu] at a1
    simp [turn, envR, rows_to_rooms_b1, a1]
  | some u =>
    rw [hu] at a1
    cases hm : rowO Ml l with
    | none =>
      rw [hm] at a2
      simp [turn, envR, rows_to_rooms_b1, a1, a2]
    | some m =>
      rw [hm] at a2
      obtain ⟨wu, su⟩ := wF u (memF room u r0 (by omega) hu)
      obtain ⟨wm, sm⟩ := wM m (memM l m l0 (by omega) hm)
      have ls := lesser_ok (a := rowO F (H.go room l)) (b := some (u ++ m)) (fun s e => (wF s (memF _ s g2 (by omega) e)).1) (fun s e => by cases e; exact wok_app.mpr ⟨wu, wm⟩)
      have sr := set_row (F := F) g2 (by omega)
      have z : u.length + m.length ≤ sizeLine := by omega
      have ix : ixN F.length (H.go room l) = some (H.go room l).toNat := ixN_of g2 (by omega)
      have ix2 : (H.go room l).toNat < F.length := by omega
      simp only [rowD_some, List.map_append] at ls
      simp only [rowD_some] at a1 a2
      dsimp only
      by_cases hN : lsr (rowO F (H.go room l)) (some (u ++ m)) = rowO F (H.go room l)
      · have e : F.set (H.go room l).toNat (lsr (rowO F (H.go room l)) (some (u ++ m))) = F := by rw [hN, sr]
        rw [hN] at ls
        have q := deq_rowD (a := rowO F (H.go room l)) (b := rowO F (H.go room l))
        simp only [e]
        simp [houseD] at g1 w ⊢
        simp [turn, envR, houseD, rows_to_rooms_b1, a1, a2, a3, w, g1, z, ls, q]
      · have q := deq_rowD (a := lsr (rowO F (H.go room l)) (some (u ++ m))) (b := rowO F (H.go room l))
        have ne : F.set (H.go room l).toNat (lsr (rowO F (H.go room l)) (some (u ++ m))) ≠ F := fun e => hN (by
          have := rowO_set (F := F) (o := lsr (rowO F (H.go room l)) (some (u ++ m))) g2 g2 (by omega)
          rw [e, if_pos rfl] at this
          exact this.symm)
        simp [houseD] at g1 w ⊢
        simp [turn, envR, houseD, rows_to_rooms_b1, a1, a2, a3, w, g1, z, ls, q, hN, ix, ix2, ne, List.map_set]
/-- all letters at a room -/
theorem rletters {H : House} {L room : Int} {Ml F0 : List (Option (List Int))} {mx B : Nat} (k : H.ok L) (l6 : L ≤ 6) (l0 : 0 ≤ L) (hM : (Ml.length : Int) = L) (wM : ∀ r, some r ∈ Ml → wok r ∧ r.length ≤ mx) (hmx : mx ≤ 100000) (hB : 8 ^ (H.marks.length * mx) ≤ B) (r0 : 0 ≤ room) (r1 : room < H.marks.length)
    (I0 : FInv H L (rowO Ml) mx F0) {tb0 : Bool} : ∃ F tb, forL (nTg 5) [5, 6, 7] rows_to_rooms_b1 ((List.range L.toNat).map fun (i : Nat) => D.i (i : Int)) (envR H L Ml F0 tb0 (.fz (.v (.int room)))) = .nx (envR H L Ml F tb (.fz (.v (.int room))))
      ∧ FInv H L (rowO Ml) mx F ∧ ((tb = tb0 ∧ F = F0 ∧ ∀ l : Int, 0 ≤ l → l < L → closedAt H (rowO Ml) F0 room l) ∨ (tb = true ∧ mu B F < mu B F0)) := by
  have hMl : ∀ (l : Int) m, 0 ≤ l → l < L → rowO Ml l = some m → wok m ∧ m.length ≤ mx := fun l m a b e => wM m (List.mem_of_getElem? (by rw [rowO_get a (by omega), e]))
  have key := forL_inv (t := nTg 5) (ks := [5, 6, 7]) (body := rows_to_rooms_b1) (fun i : Nat => D.i (i : Int)) (fun l e => (∀ i ∈ l, i < L.toNat) ∧ ∃ F tb, e = envR H L Ml F tb (.fz (.v (.int room))) ∧ FInv H L (rowO Ml) mx F ∧ ((tb = tb0 ∧ F = F0 ∧ ∀ i : Nat, i < L.toNat → i ∉ l → closedAt H (rowO Ml) F0 room i) ∨ (tb = true ∧ mu B F < mu B F0))) (by
    rintro a r e ⟨hl, F, tb, rfl, I, c⟩
    have ha := hl a (by simp)
    have st := rstep (tb := tb) k I.len hM r0 r1 (l := (a : Int)) (by omega) (by omega) (fun r hr => ⟨I.wok r hr, by
      have h1 := I.short r hr
      have h2 := List.length_filter_le (fun o : Option (List Int) => o.isSome) F
      rw [I.len] at h2
      have h3 := k.le
      have h4 : (F.filter fun o => o.isSome).length * mx ≤ 4 * mx := Nat.mul_le_mul_right _ (by omega)
      omega⟩) (fun r hr => ⟨(wM r hr).1, by have := (wM r hr).2; omega⟩)
    refine ⟨_, st, fun i hi => hl i (by simp [hi]), _, _, rfl, ?_⟩
    rcases relax_ok (B := B) k hMl hB I r0 r1 (l := (a : Int)) (by omega) (by omega) with ⟨e, cl⟩ | ⟨I', m'⟩
    · rw [e]
      refine ⟨I, ?_⟩
      rcases c with ⟨c1, c2, c3⟩ | ⟨c1, c2⟩
      · subst c2
        refine .inl ⟨by simp [c1], rfl, fun i hi hn => ?_⟩
        by_cases q : i = a
        · subst q; exact cl
        · exact c3 i hi (by simp [q, hn])
      · exact .inr ⟨by simp [c1], c2⟩
    · refine ⟨I', .inr ⟨?_, ?_⟩⟩
      · have : relax H (rowO Ml) F room a ≠ F := fun e => by rw [e] at m'; omega
        simp [this]
      · rcases c with ⟨_, c2, _⟩ | ⟨_, c2⟩
        · subst c2; exact m'
        · omega) (List.range L.toNat) _ ⟨fun i hi => List.mem_range.mp hi, F0, tb0, rfl, I0, .inl ⟨rfl, rfl, fun i hi hn => absurd (List.mem_range.mpr hi) hn⟩⟩
  obtain ⟨e2, h1, _, F, tb, rfl, I, c⟩ := key
  refine ⟨F, tb, h1, I, ?_⟩
  rcases c with ⟨c1, c2, c3⟩ | c
  · exact .inl ⟨c1, c2, fun l a b => by
      have := c3 l.toNat (by omega) (by simp)
      rwa [show ((l.toNat : Nat) : Int) = l by omega] at this⟩
  · exact .inr c
theorem rrooms {H : House} {L : Int} {Ml F0 : List (Option (List Int))} {mx B : Nat} (k : H.ok L) (l6 : L ≤ 6) (l0 : 0 ≤ L) (hM : (Ml.length : Int) = L) (wM : ∀ r, some r ∈ Ml → wok r ∧ r.length ≤ mx) (hmx : mx ≤ 100000) (hB : 8 ^ (H.marks.length * mx) ≤ B)
    (I0 : FInv H L (rowO Ml) mx F0) {tb0 : Bool} : ∃ F tb, forL (nTg 4) [4, 5, 6, 7] rows_to_rooms_b2 ((List.range H.marks.length).map fun (i : Nat) => D.i (i : Int)) (envR H L Ml F0 tb0 .no) = .nx (envR H L Ml F tb .no)
      ∧ FInv H L (rowO Ml) mx F ∧ ((tb = tb0 ∧ F = F0 ∧ ∀ room l : Int, 0 ≤ room → room < H.marks.length → 0 ≤ l → l < L → closedAt H (rowO Ml) F0 room l) ∨ (tb = true ∧ mu B F < mu B F0)) := by
  have key := forL_inv (t := nTg 4) (ks := [4, 5, 6, 7]) (body := rows_to_rooms_b2) (fun i : Nat => D.i (i : Int)) (fun l e => (∀ i ∈ l, i < H.marks.length) ∧ ∃ F tb, e = envR H L Ml F tb .no ∧ FInv H L (rowO Ml) mx F ∧ ((tb = tb0 ∧ F = F0 ∧ ∀ i : Nat, i < H.marks.length → i ∉ l → ∀ x : Int, 0 ≤ x → x < L → closedAt H (rowO Ml) F0 i x) ∨ (tb = true ∧ mu B F < mu B F0))) (by
    rintro a r e ⟨hl, F, tb, rfl, I, c⟩
    have ha := hl a (by simp)
    obtain ⟨F', tb', st, I', c'⟩ := rletters (room := (a : Int)) (tb0 := tb) k l6 l0 hM wM hmx hB (by omega) (by omega) I
    have lb : (-4611686018427387904 : Int) ≤ L ∧ L < 4611686018427387904 := by omega
    refine ⟨envR H L Ml F' tb' .no, ?_, fun i hi => hl i (by simp [hi]), F', tb', rfl, I', ?_⟩
    · simp [envR] at st
      simp [turn, envR, rows_to_rooms_b2]
      simp [houseD] at st ⊢
      simp [lb]
      rw [st]
      simp
    · rcases c' with ⟨d1, d2, d3⟩ | ⟨d1, d2⟩
      · subst d1; subst d2
        rcases c with ⟨c1, c2, c3⟩ | ⟨c1, c2⟩
        · subst c2
          refine .inl ⟨c1, rfl, fun i hi hn x x0 x1 => ?_⟩
          by_cases q : i = a
          · subst q; exact d3 x x0 x1
          · exact c3 i hi (by simp [q, hn]) x x0 x1
        · exact .inr ⟨c1, c2⟩
      · refine .inr ⟨d1, ?_⟩
        rcases c with ⟨_, c2, _⟩ | ⟨_, c2⟩
        · subst c2; exact d2
        · omega) (List.range H.marks.length) _ ⟨fun i hi => List.mem_range.mp hi, F0, tb0, rfl, I0, .inl ⟨rfl, rfl, fun i hi hn => absurd (List.mem_range.mpr hi) hn⟩⟩
  obtain ⟨e2, h1, _, F, tb, rfl, I, c⟩ := key
  refine ⟨F, tb, h1, I, ?_⟩
  rcases c with ⟨c1, c2, c3⟩ | c
  · exact .inl ⟨c1, c2, fun room l a b x y => by
      have := c3 room.toNat (by omega) (by simp) l x y
      rwa [show ((room.toNat : Nat) : Int) = room by omega] at this⟩
  · exact .inr c
theorem rwhile {H : House} {L : Int} {Ml : List (Option (List Int))} {mx B : Nat} (k : H.ok L) (l6 : L ≤ 6) (l0 : 0 ≤ L) (hM : (Ml.length : Int) = L) (wM : ∀ r, some r ∈ Ml → wok r ∧ r.length ≤ mx) (hmx : mx ≤ 100000) (hB : 8 ^ (H.marks.length * mx) ≤ B) :
    ∀ (n : Nat) (F0 : List (Option (List Int))), mu B F0 ≤ n → FInv H L (rowO Ml) mx F0 → ∃ F, whileN (fun e => ((pV 3) e).bind dTruth) [4, 5, 6, 7] rows_to_rooms_b3 (n + 2) (envR H L Ml F0 true .no) = .nx (envR H L Ml F false .no)
      ∧ FInv H L (rowO Ml) mx F ∧ ∀ room l : Int, 0 ≤ room → room < H.marks.length → 0 ≤ l → l < L → closedAt H (rowO Ml) F room l := by
  intro n
  have body : ∀ F0, FInv H L (rowO Ml) mx F0 → ∃ F tb, rows_to_rooms_b3 (envR H L Ml F0 true .no) = .nx (envR H L Ml F tb .no) ∧ FInv H L (rowO Ml) mx F ∧ ((tb = false ∧ F = F0 ∧ ∀ room l : Int, 0 ≤ room → room < H.marks.length → 0 ≤ l → l < L → closedAt H (rowO Ml) F0 room l) ∨ (tb = true ∧ mu B F < mu B F0)) := by
    intro F0 I0
    obtain ⟨F, tb, h1, I, c⟩ := rrooms (tb0 := false) k l6 l0 hM wM hmx hB I0
    refine ⟨F, tb, ?_, I, c⟩
    have := k.le
    have lb : (-4611686018427387904 : Int) ≤ (F0.length : Int) ∧ (F0.length : Int) < 4611686018427387904 := by rw [I0.len]; omega
    simp [envR] at h1
    simp [rows_to_rooms_b3, envR, lb]
    rw [I0.len, h1]
  have kl : ∀ F tb, kills [4, 5, 6, 7] (envR H L Ml F tb .no) = envR H L Ml F tb .no := fun F tb => by simp [envR]
  have tt : ∀ F tb, ((pV 3) (envR H L Ml F tb .no)).bind dTruth = .ok tb := fun F tb => by simp [envR]
  induction n with
  | zero =>
    intro F0 hm I0
    obtain ⟨F, tb, h1, I, c⟩ := body F0 I0
    rcases c with ⟨c1, c2, c3⟩ | ⟨c1, c2⟩
    · subst c1; subst c2
      refine ⟨F, ?_, I, c3⟩
      rw [whileN, tt]
      simp only [if_true, h1, kl]
      rw [whileN, tt]
      simp
    · omega
  | succ n ih =>
    intro F0 hm I0
    obtain ⟨F, tb, h1, I, c⟩ := body F0 I0
    rcases c with ⟨c1, c2, c3⟩ | ⟨c1, c2⟩
    · subst c1; subst c2
      refine ⟨F, ?_, I, c3⟩
      rw [whileN, tt]
      simp only [if_true, h1, kl]
      rw [whileN, tt]
      simp
    · subst c1
      obtain ⟨F', h2, I2, c3⟩ := ih F (by omega) I
      refine ⟨F', ?_, I2, c3⟩
      rw [whileN, tt]
      simp only [if_true, h1, kl]
      exact h2
theorem t_hs {m : Nat} {F0 : List (Option (List Int))} (hF0 : F0 = (List.replicate m none).set 0 (some [])) : (List.replicate m (D.v .non)).set 0 (.tup []) = F0.map rowD := by
  rw [hF0, List.map_set, List.map_replicate]
  simp
theorem t_e1 {m : Nat} {H : House} {HD : D} {Ml : List (Option (List Int))} (hh : dIx HD (.v (.int 1)) = .ok (.tup (H.marks.map D.i))) (hm : H.marks.length = m) (no : dMul (.lst [.v .non]) (.v (.int (m : Int))) = .ok (.lst (List.replicate m (.v .non)))) : sSet 2 (gL (p2 dMul (pLst (aCons (pC .non) aNil)) (pCall bLen (aCons (p2 dIx (pV 0) (pC (.int 1))) aNil)))) [.fz HD, .fz (.lst (Ml.map rowD)), .no, .no, .no, .no, .no, .no] = .nx [.fz HD, .fz (.lst (Ml.map rowD)), .own (.lst (List.replicate m (.v .non))), .no, .no, .no, .no, .no] := by
  simp [hh, hm, no, -dMul_l]
theorem t_e2 {m : Nat} {HD : D} {Ml F0 : List (Option (List Int))} (ix : ixN m 0 = some 0) (pos : 0 < m) (hs : (List.replicate m (D.v .non)).set 0 (.tup []) = F0.map rowD) : sSetItem (lVar 2) (pC (.int 0)) (gL (pTup aNil)) [.fz HD, .fz (.lst (Ml.map rowD)), .own (.lst (List.replicate m (.v .non))), .no, .no, .no, .no, .no] = .nx [.fz HD, .fz (.lst (Ml.map rowD)), .own (.lst (F0.map rowD)), .no, .no, .no, .no, .no] := by
  simp [ix, pos, hs]
theorem t_e3 {HD : D} {Ml F0 : List (Option (List Int))} : sSet 3 (gL (pC (.bl true))) [.fz HD, .fz (.lst (Ml.map rowD)), .own (.lst (F0.map rowD)), .no, .no, .no, .no, .no] = .nx [.fz HD, .fz (.lst (Ml.map rowD)), .own (.lst (F0.map rowD)), .own (.v (.bl true)), .no, .no, .no, .no] := by
  simp
theorem t_e0 {HD : D} {Ml : List (Option (List Int))} : env0 8 [HD, .lst (Ml.map rowD)] = [.fz HD, .fz (.lst (Ml.map rowD)), .no, .no, .no, .no, .no, .no] := by simp
theorem t_no {n : Nat} (h : n ≤ 100) : dMul (.lst [.v .non]) (.v (.int (n : Int))) = .ok (.lst (List.replicate n (.v .non))) := by
  have sl := sline
  have lb : -9223372036854775808 ≤ (n : Int) ∧ (n : Int) < 9223372036854775808 := by omega
  have z1 : n ≤ sizeLine := by omega
  have fl : ∀ n : Nat, (List.replicate n [D.v .non]).flatten = List.replicate n (D.v .non) := by
    intro n
    induction n with
    | zero => rfl
    | succ n ih => rw [List.replicate_succ, List.flatten_cons, ih, List.replicate_succ]; rfl
  simp [lb, z1, fl]
theorem ix_house1 {L : Int} {H : House} : dIx (houseD L H) (.v (.int 1)) = .ok (.tup (H.marks.map D.i)) := by simp [houseD]
theorem rooms_start {H : House} {L : Int} {Ml F0 : List (Option (List Int))} (n1 : 1 ≤ H.marks.length) (n4 : H.marks.length ≤ 4) (hF0 : F0 = (List.replicate H.marks.length none).set 0 (some [])) :
    rows_to_rooms_s (env0 8 [houseD L H, .lst (Ml.map rowD)]) = (sWhile (fun e => ((pV 3) e).bind dTruth) [4, 5, 6, 7] rows_to_rooms_b3 (envR H L Ml F0 true .no)).then (sRet (gTake 2)) := by
  have hs := t_hs hF0
  have no := t_no (n := H.marks.length) (by omega)
  have hh := ix_house1 (L := L) (H := H)
  have ix : ixN H.marks.length 0 = some 0 := by
    have := ixN_of (n := H.marks.length) (i := 0) (by decide) (by omega)
    simpa using this
  have pos : 0 < H.marks.length := by omega
  have ee : envR H L Ml F0 true .no = [.fz (houseD L H), .fz (.lst (Ml.map rowD)), .own (.lst (F0.map rowD)), .own (.v (.bl true)), .no, .no, .no, .no] := by rw [envR]
  rw [ee, t_e0, rows_to_rooms_s, sSeq_e, t_e1 hh rfl no, then_nx, sSeq_e, t_e2 ix pos hs, then_nx, sSeq_e, t_e3, then_nx, sSeq_e]
theorem rooms_ok {H : House} {L : Int} {Ml : List (Option (List Int))} {mx : Nat} (k : H.ok L) (l6 : L ≤ 6) (l0 : 0 ≤ L) (hM : (Ml.length : Int) = L) (wM : ∀ r, some r ∈ Ml → wok r ∧ r.length ≤ mx) (hmx : mx ≤ 100000) :
    ∃ F, rows_to_rooms_d [houseD L H, .lst (Ml.map rowD)] = .ok (.lst (F.map rowD)) ∧ FInv H L (rowO Ml) mx F ∧ ∀ room l : Int, 0 ≤ room → room < H.marks.length → 0 ≤ l → l < L → closedAt H (rowO Ml) F room l := by
  have sl := sline
  have n1 := k.pos
  have n4 := k.le
  obtain ⟨F0, hF0⟩ : ∃ F0 : List (Option (List Int)), F0 = (List.replicate H.marks.length none).set 0 (some []) := ⟨_, rfl⟩
  have get0 : F0[0]? = some (some []) := by rw [hF0, List.getElem?_set_self (by simp; omega)]
  have only : ∀ r, some r ∈ F0 → r = [] := by
    intro r hr
    rw [hF0] at hr
    rcases List.mem_or_eq_of_mem_set hr with h1 | h1
    · rw [List.mem_replicate] at h1; cases h1.2
    · cases h1; rfl
  have I0 : FInv H L (rowO Ml) mx F0 := by
    refine ⟨by rw [hF0]; simp, ⟨[], ?_, rfl⟩, ?_, ?_, ?_⟩
    · show (F0[(0 : Int).toNat]?).join = some []
      rw [show ((0 : Int).toNat) = 0 from rfl, get0]; rfl
    · intro room r r0 hr
      refine ⟨[], fun l hl => (by cases hl), ?_, ?_⟩
      · have : r = [] := by
          unfold rowO at hr
          cases h : F0[room.toNat]? with
          | none => rw [h] at hr; cases hr
          | some o => rw [h] at hr; cases o with
            | none => cases hr
            | some x => cases hr; exact only _ (List.mem_of_getElem? h)
        subst this; rfl
      · show (0 : Int) = room
        unfold rowO at hr
        by_cases q : room.toNat = 0
        · omega
        · rw [hF0, List.getElem?_set_ne (Ne.symm q), List.getElem?_replicate] at hr
          split at hr <;> cases hr
    · intro r hr; rw [only r hr]; intro d hd; cases hd
    · intro r hr
      rw [only r hr]
      have hp : 0 < (F0.filter fun o => o.isSome).length := by
        have hm : some r ∈ F0.filter fun o => o.isSome := List.mem_filter.mpr ⟨hr, rfl⟩
        exact List.length_pos_of_mem hm
      have h1 : 1 * mx ≤ (F0.filter fun o => o.isSome).length * mx := Nat.mul_le_mul_right _ hp
      rw [Nat.one_mul] at h1
      simpa using h1
  obtain ⟨N, F, h1, I, c⟩ : ∃ N F, whileN (fun e => ((pV 3) e).bind dTruth) [4, 5, 6, 7] rows_to_rooms_b3 N (envR H L Ml F0 true .no) = .nx (envR H L Ml F false .no)
      ∧ FInv H L (rowO Ml) mx F ∧ ∀ room l : Int, 0 ≤ room → room < H.marks.length → 0 ≤ l → l < L → closedAt H (rowO Ml) F room l := by
    obtain ⟨F, h⟩ := rwhile (B := 8 ^ (H.marks.length * mx)) k l6 l0 hM wM hmx (Nat.le_refl _) _ F0 (Nat.le_refl _) I0
    exact ⟨_, F, h⟩
  refine ⟨F, ?_, I, c⟩
  have w := sWhile_of (t := fun e => ((pV 3) e).bind dTruth) (ks := [4, 5, 6, 7]) (body := rows_to_rooms_b3) (e := envR H L Ml F0 true .no) (o := .nx (envR H L Ml F false .no)) N (by rw [show kills [4, 5, 6, 7] (envR H L Ml F0 true .no) = envR H L Ml F0 true .no by simp [envR]]; exact h1) (by simp)
  rw [rows_to_rooms_d, fnD_e, rooms_start n1 n4 hF0, w]
  simp [envR]
theorem lnested_loop {p h : Int} {S : D} : ∀ (signs w : List Int), w.length + signs.length < sizeLine → nst p h signs w.length = true → forL (nTg 4) [4] _law_nested_b1 (signs.map D.i) [.fz (.v (.int p)), .fz (.v (.int h)), .fz S, .own (.lst (w.map D.i)), .no] = .nx [.fz (.v (.int p)), .fz (.v (.int h)), .fz S, .own (.lst []), .no]
  | [], w, _, hd => by
    simp [nst] at hd
    simp [forL_nil, hd]
  | s :: r, w, hz, hd => by
    rw [nst] at hd
    rw [List.map_cons]
    simp at hz
    split at hd
    · cases hd
    next h1 =>
    have h3 : ¬ (s < 0) := by omega
    have h4 : ¬ (p + h < s) := by omega
    split at hd
    next h2 =>
      simp at hd
      subst h2
      obtain ⟨v, x, rfl⟩ : ∃ v x, w = v ++ [x] := ⟨w.dropLast, w.getLast (fun e => by rw [e] at hd; simp at hd), (List.dropLast_concat_getLast _).symm⟩
      have ih := lnested_loop (p := p) (h := h) (S := S) r v (by simp at hz; omega) (by
        have := hd.2
        simp at this
        exact this)
      refine (forL_step ?_).trans ih
      have n0 : ¬ ((v.length : Int) + 1 = 0) := by omega
      simp [turn, _law_nested_b1, h3, n0]
    next h2 =>
      split at hd
      next h5 =>
        have ih := lnested_loop (p := p) (h := h) (S := S) r (w ++ [s]) (by simp; omega) (by simpa using hd)
        have z : w.length < sizeLine := by omega
        exact (forL_step (by simp [turn, _law_nested_b1, h2, h3, h4, h5, z])).trans ih
      next h5 =>
        have ih := lnested_loop (p := p) (h := h) (S := S) r w (by omega) hd
        exact (forL_step (by simp [turn, _law_nested_b1, h2, h3, h4, h5])).trans ih
theorem lnested_ok {p h : Int} {w : List Int} (hz : w.length < 1000000) (hn : nst p h w 0 = true) : _law_nested_d [.v (.int p), .v (.int h), .tup (w.map D.i)] = .ok (.v (.bl true)) := by
  have sl := sline
  have lp := lnested_loop (p := p) (h := h) (S := .tup (w.map D.i)) w [] (by simp; omega) (by simpa using hn)
  simp at lp
  simp [_law_nested_d, _law_nested_s]
  rw [lp]
  simp
end K82

namespace K82
open PySem PySem.Spec PyProof.Rows L2 Gw
theorem spread1_ok {p h l : Int} {R : List (Option (List Int))} {r : List Int} (hp : p ≤ l) (hl : l - p < R.length) (hr : rowO R (l - p) = some r) (hz : r.length < 1000000) :
    spread_d [.v (.int p), .v (.int h), .tup [.v (.int l)], .lst (R.map rowD)] = .ok (.tup ((l :: (r ++ [p + h])).map D.i)) := by
  have sl := sline
  have dr := dAt_row (F := R) (i := l - p) (by omega) hl
  rw [hr, rowD_some] at dr
  have z0 : 0 < sizeLine := by omega
  have z1 : 1 + r.length ≤ sizeLine := by omega
  have z2 : r.length + 1 < sizeLine := by omega
  have st : turn (nTg 5) [5] spread_b1 (.v (.int l)) [.fz (.v (.int p)), .fz (.v (.int h)), .fz (.tup [.v (.int l)]), .fz (.lst (R.map rowD)), .own (.lst []), .no] = .nx [.fz (.v (.int p)), .fz (.v (.int h)), .fz (.tup [.v (.int l)]), .fz (.lst (R.map rowD)), .own (.lst ((l :: (r ++ [p + h])).map D.i)), .no] := by
    simp [turn, spread_b1, hp, dr, z0, z1, z2]
  have lp := (forL_step (r := []) st).trans forL_nil
  simp [spread_d, spread_s]
  simp at lp
  rw [lp]
  simp
def madeL (p : Int) (R : List (Option (List Int))) (n : Nat) : List (Option (List Int)) := (List.range n).map fun (i : Nat) => mk p R.length R (i : Int)
theorem letters_ok {p : Int} {R : List (Option (List Int))} {Hd : List D} (p1 : 1 ≤ p) (p4 : p ≤ 4) (hl : Hd.length = R.length) (h3 : R.length ≤ 3) (hz : ∀ r, some r ∈ R → r.length < 1000000) :
    letters_made_d [.tup [.v (.int p), .tup Hd], .lst (R.map rowD)] = .ok (.lst ((madeL p R (p.toNat + R.length)).map rowD)) := by
  have sl := sline
  have loop : ∀ (n k : Nat), k + n = R.length → forL (nTg 5) [5] letters_made_b1 ((List.range' k n).map fun (i : Nat) => D.i (i : Int)) [.fz (.tup [.v (.int p), .tup Hd]), .fz (.lst (R.map rowD)), .fz (.v (.int p)), .fz (.tup Hd), .own (.lst ((madeL p R (p.toNat + k)).map rowD)), .no, .no]
      = .nx [.fz (.tup [.v (.int p), .tup Hd]), .fz (.lst (R.map rowD)), .fz (.v (.int p)), .fz (.tup Hd), .own (.lst ((madeL p R (p.toNat + (k + n))).map rowD)), .no, .no] := by
    intro n
    induction n with
    | zero => intro k _; simp [forL_nil]
    | succ n ih =>
      intro k hk
      have ih' := ih (k + 1) (by omega)
      rw [show k + 1 + n = k + (n + 1) by omega] at ih'
      rw [List.range'_succ, List.map_cons]
      refine (forL_step ?_).trans ih'
      have nx : madeL p R (p.toNat + (k + 1)) = madeL p R (p.toNat + k) ++ [mk p R.length R (p + k)] := by
        unfold madeL
        rw [show p.toNat + (k + 1) = (p.toNat + k) + 1 by omega, List.range_succ, List.map_append]
        congr 2
        show [mk p R.length R ((p.toNat + k : Nat) : Int)] = _
        rw [show ((p.toNat + k : Nat) : Int) = p + k by omega]
      have ml : (madeL p R (p.toNat + k)).length < sizeLine := by unfold madeL; simp; omega
      have dr := dAt_row (F := R) (i := (k : Int)) (by omega) (by omega)
      have mke : mk p R.length R (p + k) = (rowO R (k : Int)).map fun r => (p + (k : Int)) :: (r ++ [p + (R.length : Int)]) := by
        unfold mk
        rw [if_pos (by omega), show p + (k : Int) - p = k by omega]
      rw [nx, mke]
      cases hr : rowO R (k : Int) with
      | none =>
        rw [hr] at dr
        simp [turn, letters_made_b1, dr, ml]
      | some r =>
        rw [hr] at dr
        have hm : some r ∈ R := List.mem_of_getElem? (by rw [rowO_get (i := (k : Int)) (by omega) (by omega), hr])
        have sp := spread1_ok (p := p) (h := (R.length : Int)) (l := p + k) (R := R) (by omega) (by omega) (by rw [show p + (k : Int) - p = k by omega]; exact hr) (hz r hm)
        simp at sp
        simp [turn, letters_made_b1, dr, ml, hl, sp]
  have lp := loop R.length 0 (by omega)
  rw [← List.range_eq_range'] at lp
  have cl := compL_run (t := nTg 6) (q := qYes) (pe := pTup (aCons (pImm (pV 6)) aNil)) (env := [.fz (.tup [.v (.int p), .tup Hd]), .fz (.lst (R.map rowD)), .fz (.v (.int p)), .fz (.tup Hd), .no, .no, .no]) (fun (i : Nat) => D.i (i : Int)) (fun (i : Nat) => D.tup [D.i (i : Int)]) (List.range p.toNat) (fun i _ => ⟨_, rfl, rfl, by simp⟩)
  have base : ((List.range p.toNat).map fun (i : Nat) => D.tup [D.i (i : Int)]) = (madeL p R p.toNat).map rowD := by
    unfold madeL
    rw [List.map_map]
    refine List.map_congr_left fun i hi => ?_
    have := List.mem_range.mp hi
    simp [mk, show ¬ p ≤ (i : Int) by omega]
  rw [base] at cl
  have lb : (-4611686018427387904 : Int) ≤ p ∧ p < 4611686018427387904 := by omega
  have lb2 : (-4611686018427387904 : Int) ≤ (R.length : Int) ∧ (R.length : Int) < 4611686018427387904 := by omega
  have z : (madeL p R p.toNat).length ≤ sizeLine := by unfold madeL; simp; omega
  simp [letters_made_d, letters_made_s, lb]
  rw [cl]
  simp at lp
  simp [z, hl, lb2]
  rw [lp]
  simp
end K82

namespace K82
open PySem PySem.Spec PyProof.Rows L2 Gw
/-! ### shortest -/
theorem enumL {F : List (Option (List Int))} : List.zipWith (fun (i : Nat) b => D.tup [.v (.int (i : Int)), b]) (List.range F.length) (F.map rowD) = (List.range F.length).map fun (i : Nat) => D.tup [.v (.int (i : Int)), rowD (rowO F (i : Int))] := by
  apply List.ext_getElem?
  intro i
  rw [List.getElem?_zipWith, List.getElem?_map, List.getElem?_map]
  by_cases h : i < F.length
  · rw [List.getElem?_range h]
    have := rowO_get (F := F) (i := (i : Int)) (by omega) (by omega)
    simp at this
    simp [this]
  · have e : (List.range F.length)[i]? = none := List.getElem?_eq_none (by simp; omega)
    simp [e]
/-- the least row of the rooms below k that are marked -/
def BestTo (H : House) (F : List (Option (List Int))) (k : Nat) (o : Option (List Int)) : Prop :=
  (∀ r, o = some r → ∃ room : Nat, room < k ∧ H.mark room ≠ 0 ∧ rowO F room = some r) ∧ ∀ (room : Nat) r, room < k → H.mark room ≠ 0 → rowO F room = some r → ∃ s, o = some s ∧ val s ≤ val r
theorem bestTo_step {H : House} {F : List (Option (List Int))} {k : Nat} {o : Option (List Int)} (b : BestTo H F k o) : BestTo H F (k + 1) (if H.mark k ≠ 0 then lsr o (rowO F k) else o) := by
  by_cases q : H.mark k ≠ 0
  · rw [if_pos q]
    refine ⟨fun r hr => ?_, fun room r h1 h2 h3 => ?_⟩
    · cases o with
      | none => exact ⟨k, by omega, q, by simpa [lsr] using hr⟩
      | some a =>
        cases hf : rowO F k with
        | none =>
          rw [hf] at hr
          obtain ⟨room, z1, z2, z3⟩ := b.1 r (by simpa [lsr] using hr)
          exact ⟨room, by omega, z2, z3⟩
        | some c =>
          rw [hf] at hr
          unfold lsr at hr
          simp only at hr
          split at hr
          · exact ⟨k, by omega, q, by rw [hf, ← hr]⟩
          · obtain ⟨room, z1, z2, z3⟩ := b.1 r hr
            exact ⟨room, by omega, z2, z3⟩
    · have key : ∀ s, o = some s → ∃ s', lsr o (rowO F k) = some s' ∧ val s' ≤ val s := by
        intro s hs
        subst hs
        cases hf : rowO F k with
        | none => exact ⟨s, rfl, Nat.le_refl _⟩
        | some c =>
          unfold lsr
          by_cases q2 : val c < val s
          · exact ⟨c, by simp [q2], by omega⟩
          · exact ⟨s, by simp [q2], Nat.le_refl _⟩
      by_cases e : room = k
      · subst e
        rw [h3]
        cases o with
        | none => exact ⟨r, rfl, Nat.le_refl _⟩
        | some a =>
          unfold lsr
          by_cases q2 : val r < val a
          · exact ⟨r, by simp [q2], Nat.le_refl _⟩
          · exact ⟨a, by simp [q2], by omega⟩
      · obtain ⟨s, s1, s2⟩ := b.2 room r (by omega) h2 h3
        obtain ⟨s', s3, s4⟩ := key s s1
        exact ⟨s', s3, by omega⟩
  · rw [if_neg q]
    refine ⟨fun r hr => ?_, fun room r h1 h2 h3 => ?_⟩
    · obtain ⟨room, z1, z2, z3⟩ := b.1 r hr
      exact ⟨room, by omega, z2, z3⟩
    · by_cases e : room = k
      · subst e; exact absurd h2 q
      · exact b.2 room r (by omega) h2 h3
theorem best_loop {H : House} {L : Int} {F : List (Option (List Int))} {s0 s1 s2 s3 s4 : Sl} (hF : F.length = H.marks.length) (wF : ∀ r, some r ∈ F → wok r) :
    ∃ o, BestTo H F F.length o ∧ forL (nTup (nsCons (nTg 7) (nsCons (nTg 8) nsNil))) [7, 8] shortest_b1 ((List.range F.length).map fun (i : Nat) => D.tup [.v (.int (i : Int)), rowD (rowO F (i : Int))]) [s0, s1, s2, s3, s4, .own (houseD L H), .own (.v .non), .no, .no]
      = .nx [s0, s1, s2, s3, s4, .own (houseD L H), .own (rowD o), .no, .no] := by
  have mem : ∀ (i : Int) r, 0 ≤ i → i < F.length → rowO F i = some r → wok r := fun i r i0 i1 e => wF r (List.mem_of_getElem? (by rw [rowO_get i0 i1, e]))
  have loop : ∀ (n k : Nat) (o : Option (List Int)), k + n = F.length → BestTo H F k o → ∃ o', BestTo H F F.length o' ∧ forL (nTup (nsCons (nTg 7) (nsCons (nTg 8) nsNil))) [7, 8] shortest_b1 ((List.range' k n).map fun (i : Nat) => D.tup [.v (.int (i : Int)), rowD (rowO F (i : Int))]) [s0, s1, s2, s3, s4, .own (houseD L H), .own (rowD o), .no, .no]
      = .nx [s0, s1, s2, s3, s4, .own (houseD L H), .own (rowD o'), .no, .no] := by
    intro n
    induction n with
    | zero => intro k o hk b; exact ⟨o, by rw [show F.length = k by omega]; exact b, by simp [forL_nil]⟩
    | succ n ih =>
      intro k o hk b
      obtain ⟨o', b', e'⟩ := ih (k + 1) _ (by omega) (bestTo_step b)
      refine ⟨o', b', ?_⟩
      rw [List.range'_succ, List.map_cons]
      refine (forL_step ?_).trans e'
      have m := dIx_mark (H := H) (room := (k : Int)) (by omega) (by omega)
      have wo : ∀ u, o = some u → wok u := fun u hu => by
        obtain ⟨room, z1, _, z3⟩ := b.1 u hu
        exact mem room u (by omega) (by omega) z3
      have ls := lesser_ok (a := o) (b := rowO F k) wo (fun u hu => mem k u (by omega) (by omega) hu)
      generalize lsr o (rowO F k) = N at *
      by_cases q : H.mark k = 0
      · simp [turn, shortest_b1, houseD, m, q]
      · simp [turn, shortest_b1, houseD, m, q, ls]
  have := loop F.length 0 none (by omega) ⟨(fun r hr => by cases hr), fun room r h => by omega⟩
  rw [← List.range_eq_range'] at this
  exact this
end K82

namespace K82
open PySem PySem.Spec PyProof.Rows L2 Gw
theorem madeL_len {p : Int} {R : List (Option (List Int))} {n : Nat} : (madeL p R n).length = n := by simp [madeL]
theorem madeL_row {p : Int} {R : List (Option (List Int))} {n : Nat} {l : Int} (l0 : 0 ≤ l) (l1 : l < n) : rowO (madeL p R n) l = mk p R.length R l := by
  unfold rowO madeL
  have h : l.toNat < n := by omega
  simp [h]
  rw [show max l 0 = l by omega]
theorem cat_congr {M M' : Int → Option (List Int)} : ∀ {w : List Int}, (∀ l ∈ w, M l = M' l) → cat M w = cat M' w
  | [], _ => rfl
  | l :: w, h => by
    rw [cat, cat, h l (by simp), cat_congr fun x hx => h x (by simp [hx])]
theorem best_of {p : Int} {Hs : List House} {R F : List (Option (List Int))} {mx : Nat} {j : Int} {o : Option (List Int)} (p1 : 1 ≤ p) (hl : R.length = Hs.length) (hk : (hsAt Hs j).ok (p + Hs.length))
    (I : FInv (hsAt Hs j) (p + Hs.length) (rowO (madeL p R (p.toNat + R.length))) mx F) (hc : ∀ room l : Int, 0 ≤ room → room < (hsAt Hs j).marks.length → 0 ≤ l → l < p + Hs.length → closedAt (hsAt Hs j) (rowO (madeL p R (p.toNat + R.length))) F room l) (b : BestTo (hsAt Hs j) F F.length o) : Best p Hs R j o := by
  have cc : ∀ w : List Int, (∀ l ∈ w, 0 ≤ l ∧ l < p + Hs.length) → cat (rowO (madeL p R (p.toNat + R.length))) w = cat (mk p Hs.length R) w := fun w hw => cat_congr fun l hl' => by
    have := hw l hl'
    rw [madeL_row this.1 (by omega), hl]
  refine ⟨fun r hr => ?_, fun w r hw h1 h2 => ?_⟩
  · obtain ⟨room, z1, z2, z3⟩ := b.1 r hr
    obtain ⟨w, w1, w2, w3⟩ := I.real room r (by omega) z3
    refine ⟨w, w1, by rw [← cc w w1]; exact w2, by rw [w3]; exact z2⟩
  · obtain ⟨s, s1, s2⟩ := closed_least hk I hc w.length w r rfl hw (by rw [cc w hw]; exact h1)
    have p0 : (0 : Int) < (hsAt Hs j).marks.length := by have := hk.pos; omega
    have wi := walk_in hk w 0 (by decide) p0 hw
    have e : (((hsAt Hs j).walk 0 w).toNat : Int) = (hsAt Hs j).walk 0 w := by omega
    obtain ⟨s', t1, t2⟩ := b.2 ((hsAt Hs j).walk 0 w).toNat s (by rw [I.len]; omega) (by rw [e]; exact h2) (by rw [e]; exact s1)
    exact ⟨s', t1, by omega⟩
def envS (p : Int) (Hs : List House) (M R : List (Option (List Int))) (tb : Bool) : En := [.fz (.tup [.v (.int p), .tup (Hs.map (houseD (p + Hs.length)))]), .own (.lst (R.map rowD)), .own (.v (.bl tb)), .own (.lst (M.map rowD)), .no, .no, .no, .no, .no]

theorem h_1 {p : Int} {Hs : List House} {M R' : List (Option (List Int))} {tb : Bool} {j : Int} {HD : D} (hj : dAt (Hs.map (houseD (p + Hs.length))) j = .ok HD) (im : imm HD = true) :
    sSet 5 (gL (pImm (p2 dIx (p2 dIx (pV 0) (pC (.int 1))) (pV 4)))) [.fz (.tup [.v (.int p), .tup (Hs.map (houseD (p + Hs.length)))]), .own (.lst (R'.map rowD)), .own (.v (.bl tb)), .own (.lst (M.map rowD)), .fz (.v (.int j)), .no, .no, .no, .no]
      = .nx [.fz (.tup [.v (.int p), .tup (Hs.map (houseD (p + Hs.length)))]), .own (.lst (R'.map rowD)), .own (.v (.bl tb)), .own (.lst (M.map rowD)), .fz (.v (.int j)), .own HD, .no, .no, .no] := by
  simp [hj, im]
theorem h_2 {s0 s1 s2 s3 s4 s5 : Sl} : sSet 6 (gL (pC .non)) [s0, s1, s2, s3, s4, s5, .no, .no, .no] = .nx [s0, s1, s2, s3, s4, s5, .own (.v .non), .no, .no] := by simp
theorem h_3 {s0 s1 s2 s4 : Sl} {HD : D} {M F : List (Option (List Int))} (f1 : rows_to_rooms_d [HD, .lst (M.map rowD)] = .ok (.lst (F.map rowD))) :
    sForE (nTup (nsCons (nTg 7) (nsCons (nTg 8) nsNil))) [7, 8] (pCall rows_to_rooms_d (aCons (pV 5) (aCons (pV 3) aNil))) shortest_b1 [s0, s1, s2, .own (.lst (M.map rowD)), s4, .own HD, .own (.v .non), .no, .no]
      = forL (nTup (nsCons (nTg 7) (nsCons (nTg 8) nsNil))) [7, 8] shortest_b1 ((List.range F.length).map fun (i : Nat) => D.tup [.v (.int (i : Int)), rowD (rowO F (i : Int))]) [s0, s1, s2, .own (.lst (M.map rowD)), s4, .own HD, .own (.v .non), .no, .no] := by
  have im : imms (F.map rowD) = true := by simp
  have e := enumL (F := F)
  have fl : F.length = (F.map rowD).length := by simp
  rw [sForE_e]
  simp only [pCall_e, aCons_e, aNil_e, pV_e, lk_succ, lk_own, Ev.bind, f1, im, if_true]
  rw [← e, ← fl]
  simp
theorem h_4 {R' : List (Option (List Int))} {s0 s3 s5 : Sl} {tb : Bool} {j : Int} {o : Option (List Int)} (j0 : 0 ≤ j) (jl : j < R'.length) :
    sIf (qB (p2 (dEq true) (pV 6) (p2 dIx (pV 1) (pV 4)))) (sSeq (sSetItem (lVar 1) (pV 4) (gTake 6)) (sSet 2 (gL (pC (.bl true))))) sNil [s0, .own (.lst (R'.map rowD)), .own (.v (.bl tb)), s3, .fz (.v (.int j)), s5, .own (rowD o), .no, .no]
      = (if o = rowO R' j then .nx [s0, .own (.lst (R'.map rowD)), .own (.v (.bl tb)), s3, .fz (.v (.int j)), s5, .own (rowD o), .no, .no] else .nx [s0, .own (.lst ((R'.set j.toNat o).map rowD)), .own (.v (.bl true)), s3, .fz (.v (.int j)), s5, .no, .no, .no]) := by
  have dr := dAt_row (F := R') j0 jl
  have q := deq_rowD (a := o) (b := rowO R' j)
  have ix : ixN R'.length j = some j.toNat := ixN_of j0 jl
  have ix2 : j.toNat < R'.length := by omega
  by_cases hN : o = rowO R' j
  · rw [if_pos hN]
    rw [hN] at q ⊢
    simp [dr, q]
  · rw [if_neg hN]
    simp [dr, q, hN, ix, ix2, List.map_set]
theorem hturn {p : Int} {Hs : List House} {R R' : List (Option (List Int))} {tb : Bool} {j : Int} {mx : Nat} (p1 : 1 ≤ p) (ph : p + Hs.length ≤ 6) (hk : ∀ H ∈ Hs, H.ok (p + Hs.length)) (hl : R.length = Hs.length) (hl' : R'.length = Hs.length) (j0 : 0 ≤ j) (j1 : j < Hs.length)
    (wM : ∀ r, some r ∈ madeL p R (p.toNat + R.length) → wok r ∧ r.length ≤ mx) (hmx : mx ≤ 100000) :
    ∃ o, Best p Hs R j o ∧ (∀ r, o = some r → wok r ∧ r.length ≤ 3 * mx) ∧ turn (nTg 4) [4, 5, 6, 7, 8] shortest_b2 (.v (.int j)) (envS p Hs (madeL p R (p.toNat + R.length)) R' tb) = .nx (envS p Hs (madeL p R (p.toNat + R.length)) (R'.set j.toNat o) (tb || decide (o ≠ rowO R' j))) := by
  have jl : j.toNat < Hs.length := by omega
  have eH : hsAt Hs j = Hs[j.toNat] := by simp [hsAt, jl]
  have kk : (hsAt Hs j).ok (p + Hs.length) := by rw [eH]; exact hk _ (List.getElem_mem jl)
  obtain ⟨F, f1, I, hc⟩ := rooms_ok kk ph (by omega) (Ml := madeL p R (p.toNat + R.length)) (by rw [madeL_len]; omega) wM hmx
  obtain ⟨o, bo, f2⟩ := best_loop (L := p + Hs.length) (s0 := .fz (.tup [.v (.int p), .tup (Hs.map (houseD (p + Hs.length)))])) (s1 := .own (.lst (R'.map rowD))) (s2 := .own (.v (.bl tb))) (s3 := .own (.lst ((madeL p R (p.toNat + R.length)).map rowD))) (s4 := .fz (.v (.int j))) I.len I.wok
  refine ⟨o, best_of p1 hl kk I hc bo, fun r hr => ?_, ?_⟩
  · obtain ⟨room, z1, _, z3⟩ := bo.1 r hr
    have hm : some r ∈ F := List.mem_of_getElem? (by rw [rowO_get (i := (room : Int)) (by omega) (by omega), z3])
    refine ⟨I.wok r hm, ?_⟩
    have h1 := I.short r hm
    have h2 := List.length_filter_le (fun o : Option (List Int) => o.isSome) F
    rw [I.len] at h2
    have h4 : (F.filter fun o => o.isSome).length * mx ≤ 4 * mx := Nat.mul_le_mul_right _ (by have := kk.le; omega)
    omega
  · have hj : dAt (Hs.map (houseD (p + Hs.length))) j = .ok (houseD (p + Hs.length) (hsAt Hs j)) := dAt_of j0 (by rw [eH]; simp [jl])
    have sr := set_row (F := R') j0 (by omega)
    have tg : turn (nTg 4) [4, 5, 6, 7, 8] shortest_b2 (.v (.int j)) (envS p Hs (madeL p R (p.toNat + R.length)) R' tb) = (match shortest_b2 [.fz (.tup [.v (.int p), .tup (Hs.map (houseD (p + Hs.length)))]), .own (.lst (R'.map rowD)), .own (.v (.bl tb)), .own (.lst ((madeL p R (p.toNat + R.length)).map rowD)), .fz (.v (.int j)), .no, .no, .no, .no] with
      | .nx e2 => .nx (kills [4, 5, 6, 7, 8] e2)
      | .ct e2 => .nx (kills [4, 5, 6, 7, 8] e2)
      | .bk e2 => .bk (kills [4, 5, 6, 7, 8] e2)
      | o => o) := rfl
    rw [tg, shortest_b2, sSeq_e, h_1 hj imm_houseD, then_nx, sSeq_e, h_2, then_nx, sSeq_e, h_3 f1, f2, then_nx, h_4 j0 (by omega)]
    by_cases hN : o = rowO R' j
    · rw [if_pos hN, hN, sr]
      simp [envS]
    · rw [if_neg hN]
      simp [envS, hN]
end K82

namespace K82
open PySem PySem.Spec PyProof.Rows L2 Gw
/-! ### shortest: rounds -/
theorem rowO_lt {R : List (Option (List Int))} {j : Int} {r : List Int} (j0 : 0 ≤ j) (h : rowO R j = some r) : j < R.length := by
  unfold rowO at h
  rcases Int.lt_or_le j R.length with q | q
  · exact q
  · rw [List.getElem?_eq_none (by omega)] at h
    cases h
theorem rowO_mem {R : List (Option (List Int))} {j : Int} {r : List Int} (j0 : 0 ≤ j) (h : rowO R j = some r) : some r ∈ R := by
  have hl := rowO_lt j0 h
  exact List.mem_of_getElem? (by rw [rowO_get j0 hl, h])
theorem mem_rowO {R : List (Option (List Int))} {r : List Int} (h : some r ∈ R) : ∃ j : Int, 0 ≤ j ∧ j < R.length ∧ rowO R j = some r := by
  obtain ⟨k, hk, e⟩ := List.getElem_of_mem h
  refine ⟨(k : Int), by omega, by omega, ?_⟩
  have := rowO_get (F := R) (i := (k : Int)) (by omega) (by omega)
  simp [hk, e] at this
  exact this.symm
theorem rowO_ext {R R' : List (Option (List Int))} (hl : R.length = R'.length) (h : ∀ j : Int, 0 ≤ j → j < R.length → rowO R j = rowO R' j) : R = R' := by
  apply List.ext_getElem?
  intro k
  by_cases hk : k < R.length
  · have := h (k : Int) (by omega) (by omega)
    have a := rowO_get (F := R) (i := (k : Int)) (by omega) (by omega)
    have b := rowO_get (F := R') (i := (k : Int)) (by omega) (by omega)
    rw [this, ← b] at a
    simpa using a
  · rw [List.getElem?_eq_none (by omega), List.getElem?_eq_none (by omega)]
theorem sum_le2 {f g : Option (List Int) → Nat} : ∀ {R R' : List (Option (List Int))}, R.length = R'.length → (∀ (k : Nat) o o', R[k]? = some o → R'[k]? = some o' → f o ≤ g o') →
    (R.map f).sum ≤ (R'.map g).sum ∧ ((∃ (k : Nat) (o o' : Option (List Int)), R[k]? = some o ∧ R'[k]? = some o' ∧ f o < g o') → (R.map f).sum < (R'.map g).sum)
  | [], [], _, _ => ⟨Nat.le_refl _, fun ⟨k, o, o', h, _⟩ => by simp at h⟩
  | a :: R, b :: R', hl, h => by
    obtain ⟨h1, h2⟩ := sum_le2 (f := f) (g := g) (R := R) (R' := R') (by simpa using hl) fun k o o' e1 e2 => h (k + 1) o o' (by simpa using e1) (by simpa using e2)
    have h0 := h 0 a b rfl rfl
    simp only [List.map_cons, List.sum_cons]
    refine ⟨by omega, fun ⟨k, o, o', e1, e2, lt⟩ => ?_⟩
    cases k with
    | zero =>
      simp at e1 e2
      subst e1; subst e2
      omega
    | succ k =>
      have := h2 ⟨k, o, o', by simpa using e1, by simpa using e2, lt⟩
      omega
  | [], _ :: _, hl, _ => by simp at hl
  | _ :: _, [], hl, _ => by simp at hl
def cnt (R : List (Option (List Int))) : Nat := (R.map fun o => if o.isSome then 1 else 0).sum
theorem cnt_le_len : ∀ {R : List (Option (List Int))}, cnt R ≤ R.length
  | [] => by simp [cnt]
  | a :: R => by
    have := cnt_le_len (R := R)
    unfold cnt at this ⊢
    simp only [List.map_cons, List.sum_cons, List.length_cons]
    split <;> omega
def lenB : Nat → Nat
  | 0 => 0
  | n + 1 => 3 * (lenB n + 2)
theorem lenB_mono : ∀ {n m : Nat}, n ≤ m → lenB n ≤ lenB m
  | 0, _, _ => by simp [lenB]
  | n + 1, 0, h => by omega
  | n + 1, m + 1, h => by
    have := lenB_mono (n := n) (m := m) (by omega)
    simp only [lenB]
    omega
structure SInv (p : Int) (Hs : List House) (R : List (Option (List Int))) : Prop where
  len : R.length = Hs.length
  ok : RowsOk p Hs R
  wok : ∀ j r, 0 ≤ j → rowO R j = some r → wok r
  short : ∀ j r, 0 ≤ j → rowO R j = some r → r.length ≤ lenB (cnt R)
  down : ∀ (j : Int) o, 0 ≤ j → j < Hs.length → Best p Hs R j o → ole o (rowO R j)
theorem SInv.small {p : Int} {Hs : List House} {R : List (Option (List Int))} (I : SInv p Hs R) (h3 : Hs.length ≤ 3) : ∀ j r, 0 ≤ j → rowO R j = some r → r.length ≤ 78 := fun j r j0 hr => by
  have h1 := I.short j r j0 hr
  have h2 := lenB_mono (n := cnt R) (m := 3) (by have := cnt_le_len (R := R); have := I.len; omega)
  have : lenB 3 = 78 := rfl
  omega
/-- from one round to the next -/
theorem sinv_next {p : Int} {Hs : List House} {R R' : List (Option (List Int))} {B : Nat} (hB : ∀ n, n ≤ 78 → 8 ^ n ≤ B) (p1 : 1 ≤ p) (ph : p + Hs.length ≤ 6) (h3 : Hs.length ≤ 3) (I : SInv p Hs R) (hl : R'.length = Hs.length)
    (hb : ∀ j : Int, 0 ≤ j → j < Hs.length → Best p Hs R j (rowO R' j)) (hz : ∀ j r, 0 ≤ j → rowO R' j = some r → wok r ∧ r.length ≤ 3 * (lenB (cnt R) + 2)) :
    SInv p Hs R' ∧ (R' = R ∨ mu B R' < mu B R) := by
  have lt : ∀ j r, 0 ≤ j → rowO R' j = some r → j < Hs.length := fun j r j0 hr => by have := rowO_lt j0 hr; omega
  have le : ∀ j : Int, 0 ≤ j → j < Hs.length → ole (rowO R' j) (rowO R j) := fun j j0 j1 => I.down j _ j0 j1 (hb j j0 j1)
  have get : ∀ (k : Nat) o, R[k]? = some o → o = rowO R k := fun k o e => by
    have hk := (List.getElem?_eq_some_iff.mp e).1
    have := rowO_get (F := R) (i := (k : Int)) (by omega) (by omega)
    simp [e] at this
    exact this
  have get' : ∀ (k : Nat) o, R'[k]? = some o → o = rowO R' k ∧ k < Hs.length := fun k o e => by
    have hk := (List.getElem?_eq_some_iff.mp e).1
    have := rowO_get (F := R') (i := (k : Int)) (by omega) (by omega)
    simp [e] at this
    exact ⟨this, by omega⟩
  have cs := sum_le2 (f := fun o => if o.isSome then 1 else 0) (g := fun o => if o.isSome then 1 else 0) (R := R) (R' := R') (by rw [I.len, hl]) (fun k o o' e1 e2 => by
    have a := get k o e1
    obtain ⟨b, hk⟩ := get' k o' e2
    cases ho : o with
    | none => simp
    | some s =>
      obtain ⟨s', q, _⟩ := le k (by omega) (by omega) s (by rw [← a, ho])
      rw [b, q]; simp)
  have c1 : cnt R ≤ cnt R' := cs.1
  have c2 : ∀ j r, 0 ≤ j → rowO R j = none → rowO R' j = some r → cnt R + 1 ≤ cnt R' := fun j r j0 hn hs => by
    have hj := lt j r j0 hs
    refine cs.2 ⟨j.toNat, none, some r, ?_, ?_, by simp⟩
    · rw [rowO_get j0 (by rw [I.len]; omega), hn]
    · rw [rowO_get j0 (by omega), hs]
  have small := I.small h3
  refine ⟨⟨hl, ⟨fun j r j0 hr => ?_, fun j r j0 hr => ?_⟩, fun j r j0 hr => (hz j r j0 hr).1, fun j r j0 hr => ?_, fun j o j0 j1 b' => ?_⟩, ?_⟩
  · obtain ⟨w, w1, w2, w3⟩ := (hb j j0 (lt j r j0 hr)).1 r hr
    exact (cat_good I.ok w1 w2 w3).1
  · obtain ⟨w, w1, w2, w3⟩ := (hb j j0 (lt j r j0 hr)).1 r hr
    exact (cat_good I.ok w1 w2 w3).2
  · cases ho : rowO R j with
    | none =>
      have h1 := (hz j r j0 hr).2
      have h2 := lenB_mono (c2 j r j0 ho hr)
      have e : lenB (cnt R + 1) = 3 * (lenB (cnt R) + 2) := rfl
      omega
    | some s =>
      obtain ⟨s', q, v⟩ := le j j0 (lt j r j0 hr) s ho
      rw [hr] at q; cases q
      have h1 := len_le (hz j r j0 hr).1 (I.wok j s j0 ho) v
      have h2 := I.short j s j0 ho
      have h4 := lenB_mono c1
      omega
  · exact best_down ph p1 I.wok (fun j r j0 hr => (hz j r j0 hr).1) le (hb j j0 j1) b'
  · have lv : ∀ (k : Nat) o o', R'[k]? = some o → R[k]? = some o' → muO B o ≤ muO B o' ∧ (o ≠ o' → muO B o < muO B o') := fun k o o' e1 e2 => by
      obtain ⟨a, hk⟩ := get' k o e1
      have b := get k o' e2
      cases ho' : o' with
      | none =>
        cases ho : o with
        | none => exact ⟨Nat.le_refl _, fun z => absurd rfl z⟩
        | some r =>
          have hr : rowO R' (k : Int) = some r := by rw [← a, ho]
          obtain ⟨wr, lr⟩ := hz k r (by omega) hr
          have v := val_lt wr
          have cc := c2 k r (by omega) (by rw [← b, ho']) hr
          have h2 := lenB_mono (n := cnt R + 1) (m := 3) (by have := cnt_le_len (R := R'); omega)
          have e3 : lenB 3 = 78 := rfl
          have e1 : lenB (cnt R + 1) = 3 * (lenB (cnt R) + 2) := rfl
          have := hB r.length (by omega)
          show val r ≤ B ∧ (_ → val r < B)
          exact ⟨by omega, fun _ => by omega⟩
      | some s =>
        obtain ⟨s', q, v⟩ := le k (by omega) (by omega) s (by rw [← b, ho'])
        rw [← a] at q
        rw [q]
        show val s' ≤ val s ∧ (_ → val s' < val s)
        refine ⟨v, fun z => ?_⟩
        have ne : val s' ≠ val s := fun e => z (by rw [val_inj (hz k s' (by omega) (by rw [← a, q])).1 (I.wok k s (by omega) (by rw [← b, ho'])) e])
        omega
    have ms := sum_le2 (f := muO B) (g := muO B) (R := R') (R' := R) (by rw [I.len, hl]) (fun k o o' e1 e2 => (lv k o o' e1 e2).1)
    by_cases e : R' = R
    · exact .inl e
    · refine .inr (ms.2 ?_)
      have : ∃ j : Int, 0 ≤ j ∧ j < R'.length ∧ rowO R' j ≠ rowO R j := by
        by_cases q : ∃ j : Int, 0 ≤ j ∧ j < R'.length ∧ rowO R' j ≠ rowO R j
        · exact q
        · refine absurd (rowO_ext (by rw [I.len, hl]) fun j j0 j1 => ?_) e
          by_cases z : rowO R' j = rowO R j
          · exact z
          · exact absurd ⟨j, j0, j1, z⟩ q
      obtain ⟨j, j0, j1, ne⟩ := this
      exact ⟨j.toNat, rowO R' j, rowO R j, rowO_get j0 j1, rowO_get j0 (by rw [I.len]; omega), (lv j.toNat _ _ (rowO_get j0 j1) (rowO_get j0 (by rw [I.len]; omega))).2 ne⟩
theorem made_short {p : Int} {Hs : List House} {R : List (Option (List Int))} (p1 : 1 ≤ p) (ph : p + Hs.length ≤ 6) (I : SInv p Hs R) : ∀ r, some r ∈ madeL p R (p.toNat + R.length) → wok r ∧ r.length ≤ lenB (cnt R) + 2 := by
  intro r hr
  unfold madeL at hr
  obtain ⟨k, hk, e⟩ := List.mem_map.mp hr
  have hk := List.mem_range.mp hk
  have hl := I.len
  unfold mk at e
  split at e
  · next q =>
    cases ho : rowO R ((k : Int) - p) with
    | none => rw [ho] at e; cases e
    | some s =>
      rw [ho] at e
      have e : some ((k : Int) :: (s ++ [p + (R.length : Int)])) = some r := e
      cases e
      have ws := I.wok _ s (by omega) ho
      have ls := I.short _ s (by omega) ho
      refine ⟨fun d hd => ?_, by simp; omega⟩
      rcases List.mem_cons.mp hd with rfl | hd
      · omega
      · rcases List.mem_append.mp hd with hd | hd
        · exact ws d hd
        · rw [List.mem_singleton.mp hd]; omega
  · cases e
    refine ⟨fun d hd => ?_, by simp⟩
    rw [List.mem_singleton.mp hd]; omega
theorem helpers_loop {p : Int} {Hs : List House} {R : List (Option (List Int))} (p1 : 1 ≤ p) (ph : p + Hs.length ≤ 6) (h3 : Hs.length ≤ 3) (hk : ∀ H ∈ Hs, H.ok (p + Hs.length)) (I : SInv p Hs R) :
    ∀ (n k : Nat) (R' : List (Option (List Int))) (tb : Bool), k + n = Hs.length → R'.length = Hs.length → (∀ j : Int, 0 ≤ j → j < k → Best p Hs R j (rowO R' j) ∧ ∀ r, rowO R' j = some r → wok r ∧ r.length ≤ 3 * (lenB (cnt R) + 2)) →
      (∀ j : Int, k ≤ j → rowO R' j = rowO R j) → (tb = false → R' = R) → (tb = true → R' ≠ R) →
      ∃ R'' tb'', forL (nTg 4) [4, 5, 6, 7, 8] shortest_b2 ((List.range' k n).map fun (i : Nat) => D.i (i : Int)) (envS p Hs (madeL p R (p.toNat + R.length)) R' tb) = .nx (envS p Hs (madeL p R (p.toNat + R.length)) R'' tb'')
        ∧ R''.length = Hs.length ∧ (∀ j : Int, 0 ≤ j → j < Hs.length → Best p Hs R j (rowO R'' j) ∧ ∀ r, rowO R'' j = some r → wok r ∧ r.length ≤ 3 * (lenB (cnt R) + 2)) ∧ (tb'' = false → R'' = R) ∧ (tb'' = true → R'' ≠ R) := by
  intro n
  induction n with
  | zero =>
    intro k R' tb hkn hl hb _ t1 t2
    exact ⟨R', tb, by simp [forL_nil], hl, fun j j0 j1 => hb j j0 (by omega), t1, t2⟩
  | succ n ih =>
    intro k R' tb hkn hl hb he t1 t2
    have lz : lenB (cnt R) + 2 ≤ 100000 := by
      have h2 := lenB_mono (n := cnt R) (m := 3) (by have := cnt_le_len (R := R); have := I.len; omega)
      have : lenB 3 = 78 := rfl
      omega
    obtain ⟨o, bo, zo, st⟩ := hturn (j := (k : Int)) (tb := tb) (R' := R') p1 ph hk I.len hl (by omega) (by omega) (made_short p1 ph I) lz
    have kl : (k : Int) < R'.length := by omega
    have same : ∀ j : Int, 0 ≤ j → rowO (R'.set (k : Int).toNat o) j = if j = (k : Int) then o else rowO R' j := fun j j0 => rowO_set (by omega) j0 kl
    have hk0 := he k (by omega)
    obtain ⟨R'', tb'', e1, e2, e3, e4, e5⟩ := ih (k + 1) (R'.set (k : Int).toNat o) (tb || decide (o ≠ rowO R' k)) (by omega) (by rw [List.length_set, hl]) (fun j j0 j1 => by
        rw [same j j0]
        by_cases q : j = (k : Int)
        · rw [if_pos q, q]; exact ⟨bo, zo⟩
        · rw [if_neg q]; exact hb j j0 (by omega)) (fun j j1 => by
        rw [same j (by omega), if_neg (by omega)]
        exact he j (by omega)) (fun z => by
        rw [Bool.or_eq_false_iff] at z
        have z2 : o = rowO R' k := by simpa using z.2
        rw [z2, set_row (by omega) kl]
        exact t1 z.1) (fun z e => by
        rw [Bool.or_eq_true] at z
        have ek : o = rowO R k := by
          have := same k (by omega)
          rw [e, if_pos rfl] at this
          exact this.symm
        rcases z with z | z
        · refine t2 z (rowO_ext (by rw [hl, I.len]) fun j j0 j1 => ?_)
          by_cases q : j = (k : Int)
          · rw [q]; exact hk0
          · have := same j j0
            rw [e, if_neg q] at this
            exact this.symm
        · have z : o ≠ rowO R' k := by simpa using z
          exact z (by rw [ek, hk0]))
    refine ⟨R'', tb'', ?_, e2, e3, e4, e5⟩
    rw [List.range'_succ, List.map_cons]
    exact (forL_step st).trans e1
def envT (p : Int) (Hs : List House) (R : List (Option (List Int))) (tb : Bool) : En := [.fz (.tup [.v (.int p), .tup (Hs.map (houseD (p + Hs.length)))]), .own (.lst (R.map rowD)), .own (.v (.bl tb)), .no, .no, .no, .no, .no, .no]
theorem round_ok {p : Int} {Hs : List House} {R : List (Option (List Int))} {B : Nat} (hB : ∀ n, n ≤ 78 → 8 ^ n ≤ B) (p1 : 1 ≤ p) (p4 : p ≤ 4) (ph : p + Hs.length ≤ 6) (h3 : Hs.length ≤ 3) (hk : ∀ H ∈ Hs, H.ok (p + Hs.length)) (I : SInv p Hs R) :
    ∃ R' tb, shortest_b3 (envT p Hs R true) = .nx (envS p Hs (madeL p R (p.toNat + R.length)) R' tb) ∧ SInv p Hs R' ∧ ((tb = false ∧ R' = R ∧ ∀ j : Int, 0 ≤ j → j < Hs.length → Best p Hs R j (rowO R j)) ∨ (tb = true ∧ mu B R' < mu B R)) := by
  obtain ⟨R', tb, e1, e2, e3, e4, e5⟩ := helpers_loop p1 ph h3 hk I Hs.length 0 R false (by omega) I.len (fun j j0 j1 => by omega) (fun j _ => rfl) (fun _ => rfl) (fun z => by cases z)
  have nx := sinv_next (R' := R') hB p1 ph h3 I e2 (fun j j0 j1 => (e3 j j0 j1).1) (fun j r j0 hr => (e3 j j0 (by have := rowO_lt j0 hr; omega)).2 r hr)
  refine ⟨R', tb, ?_, nx.1, ?_⟩
  · have lt := letters_ok (p := p) (R := R) (Hd := Hs.map (houseD (p + Hs.length))) p1 p4 (by rw [List.length_map, I.len]) (by rw [I.len]; exact h3) (fun r hr => by
      obtain ⟨j, j0, j1, e⟩ := mem_rowO hr
      have := I.small h3 j r j0 e
      omega)
    have il := I.len
    rw [← List.range_eq_range', ← il] at e1
    have lb : (-4611686018427387904 : Int) ≤ (R.length : Int) ∧ (R.length : Int) < 4611686018427387904 := by omega
    simp [envS] at e1
    simp [shortest_b3, envT, lt, lb]
    rw [e1]
    simp [envS]
  · cases tb with
    | false =>
      have e := e4 rfl
      subst e
      exact .inl ⟨rfl, rfl, fun j j0 j1 => (e3 j j0 j1).1⟩
    | true =>
      rcases nx.2 with q | q
      · exact absurd q (e5 rfl)
      · exact .inr ⟨rfl, q⟩
theorem swhile {p : Int} {Hs : List House} {B : Nat} (hB : ∀ n, n ≤ 78 → 8 ^ n ≤ B) (p1 : 1 ≤ p) (p4 : p ≤ 4) (ph : p + Hs.length ≤ 6) (h3 : Hs.length ≤ 3) (hk : ∀ H ∈ Hs, H.ok (p + Hs.length)) :
    ∀ (n : Nat) (R : List (Option (List Int))), mu B R ≤ n → SInv p Hs R → ∃ R', whileN (fun e => ((pV 2) e).bind dTruth) [3, 4, 5, 6, 7, 8] shortest_b3 (n + 2) (envT p Hs R true) = .nx (envT p Hs R' false)
      ∧ SInv p Hs R' ∧ ∀ j : Int, 0 ≤ j → j < Hs.length → Best p Hs R' j (rowO R' j) := by
  intro n
  have kl : ∀ M R tb, kills [3, 4, 5, 6, 7, 8] (envS p Hs M R tb) = envT p Hs R tb := fun M R tb => by simp [envS, envT]
  have tt : ∀ R tb, ((pV 2) (envT p Hs R tb)).bind dTruth = .ok tb := fun R tb => by simp [envT]
  induction n with
  | zero =>
    intro R hm I
    obtain ⟨R', tb, h1, I', c⟩ := round_ok hB p1 p4 ph h3 hk I
    rcases c with ⟨c1, c2, c3⟩ | ⟨c1, c2⟩
    · subst c1; subst c2
      refine ⟨R', ?_, I', c3⟩
      rw [whileN, tt]
      simp only [if_true, h1, kl]
      rw [whileN, tt]
      simp
    · omega
  | succ n ih =>
    intro R hm I
    obtain ⟨R', tb, h1, I', c⟩ := round_ok hB p1 p4 ph h3 hk I
    rcases c with ⟨c1, c2, c3⟩ | ⟨c1, c2⟩
    · subst c1; subst c2
      refine ⟨R', ?_, I', c3⟩
      rw [whileN, tt]
      simp only [if_true, h1, kl]
      rw [whileN, tt]
      simp
    · subst c1
      obtain ⟨R2, h2, I2, c3⟩ := ih R' (by omega) I'
      refine ⟨R2, ?_, I2, c3⟩
      rw [whileN, tt]
      simp only [if_true, h1, kl]
      exact h2
theorem rowO_rep {n : Nat} {j : Int} : rowO (List.replicate n none) j = none := by
  unfold rowO
  rw [List.getElem?_replicate]
  split <;> rfl
theorem sinv_start {p : Int} {Hs : List House} : SInv p Hs (List.replicate Hs.length none) := by
  refine ⟨by simp, ⟨fun j r _ h => ?_, fun j r _ h => ?_⟩, fun j r _ h => ?_, fun j r _ h => ?_, fun j o _ _ _ s hs => ?_⟩
  all_goals rw [rowO_rep] at *
  · cases h
  · cases h
  · cases h
  · cases h
  · cases hs
theorem u_e0 {HD : D} : env0 9 [HD] = [.fz HD, .no, .no, .no, .no, .no, .no, .no, .no] := by simp
theorem u_e1 {m : Nat} {HD : D} {Hd : List D} (hh : dIx HD (.v (.int 1)) = .ok (.tup Hd)) (hm : Hd.length = m) (no : dMul (.lst [.v .non]) (.v (.int (m : Int))) = .ok (.lst (List.replicate m (.v .non)))) :
    sSet 1 (gL (p2 dMul (pLst (aCons (pC .non) aNil)) (pCall bLen (aCons (p2 dIx (pV 0) (pC (.int 1))) aNil)))) [.fz HD, .no, .no, .no, .no, .no, .no, .no, .no] = .nx [.fz HD, .own (.lst (List.replicate m (.v .non))), .no, .no, .no, .no, .no, .no, .no] := by
  simp [hh, hm, no, -dMul_l]
theorem u_e2 {d0 d1 : Sl} : sSet 2 (gL (pC (.bl true))) [d0, d1, .no, .no, .no, .no, .no, .no, .no] = .nx [d0, d1, .own (.v (.bl true)), .no, .no, .no, .no, .no, .no] := by simp
theorem short_start {p : Int} {Hs : List House} {Hd : List D} {n : Nat} {e : En} (hn : Hd.length = n) (h3 : n ≤ 3) (he : e = [.fz (.tup [.v (.int p), .tup Hd]), .own (.lst (List.replicate n (.v .non))), .own (.v (.bl true)), .no, .no, .no, .no, .no, .no]) :
    shortest_s (env0 9 [.tup [.v (.int p), .tup Hd]]) = (sWhile (fun e => ((pV 2) e).bind dTruth) [3, 4, 5, 6, 7, 8] shortest_b3 e).then (sRet (gTake 1)) := by
  have no := t_no (n := n) (by omega)
  rw [he, u_e0, shortest_s, sSeq_e, u_e1 (Hd := Hd) (by simp) hn no, then_nx, sSeq_e, u_e2, then_nx, sSeq_e]
/-- what shortest tells -/
structure Told (p : Int) (Hs : List House) (R : List (Option (List Int))) : Prop where
  len : R.length = Hs.length
  ok : RowsOk p Hs R
  wok : ∀ j r, 0 ≤ j → rowO R j = some r → wok r
  short : ∀ j r, 0 ≤ j → rowO R j = some r → r.length ≤ 78
  best : ∀ j : Int, 0 ≤ j → j < Hs.length → Best p Hs R j (rowO R j)
theorem shortest_ok {p : Int} {Hs : List House} (p1 : 1 ≤ p) (p4 : p ≤ 4) (ph : p + Hs.length ≤ 6) (h3 : Hs.length ≤ 3) (hk : ∀ H ∈ Hs, H.ok (p + Hs.length)) :
    ∃ R, shortest_d [.tup [.v (.int p), .tup (Hs.map (houseD (p + Hs.length)))]] = .ok (.lst (R.map rowD)) ∧ Told p Hs R := by
  obtain ⟨N, R, h1, I, c⟩ : ∃ N R, whileN (fun e => ((pV 2) e).bind dTruth) [3, 4, 5, 6, 7, 8] shortest_b3 N (envT p Hs (List.replicate Hs.length none) true) = .nx (envT p Hs R false) ∧ SInv p Hs R ∧ ∀ j : Int, 0 ≤ j → j < Hs.length → Best p Hs R j (rowO R j) := by
    obtain ⟨R, h⟩ := swhile (B := 8 ^ 78) (fun n hn => Nat.pow_le_pow_right (by decide) hn) p1 p4 ph h3 hk _ (List.replicate Hs.length none) (Nat.le_refl _) sinv_start
    exact ⟨_, R, h⟩
  refine ⟨R, ?_, I.len, I.ok, I.wok, I.small h3, c⟩
  have w := sWhile_of (t := fun e => ((pV 2) e).bind dTruth) (ks := [3, 4, 5, 6, 7, 8]) (body := shortest_b3) (e := envT p Hs (List.replicate Hs.length none) true) (o := .nx (envT p Hs R false)) N (by rw [show kills [3, 4, 5, 6, 7, 8] (envT p Hs (List.replicate Hs.length none) true) = envT p Hs (List.replicate Hs.length none) true by simp [envT]]; exact h1) (by simp)
  have st := short_start (p := p) (Hs := Hs) (Hd := Hs.map (houseD (p + Hs.length))) (n := Hs.length) (e := envT p Hs (List.replicate Hs.length none) true) (by rw [List.length_map]) h3 (by rw [envT, List.map_replicate, rowD_none])
  rw [shortest_d, fnD_e, st, w]
  simp [envT]
end K82

namespace K82
open PySem PySem.Spec PyProof.Rows L2 Gw
/-! ### the law's rooms, letters -/
theorem nodup_le : ∀ (n : Nat) (l : List Int), l.Nodup → (∀ x ∈ l, 0 ≤ x ∧ x < n) → l.length ≤ n
  | 0, [], _, _ => Nat.le_refl _
  | 0, x :: l, _, h => by have := h x (by simp); omega
  | n + 1, l, hd, h => by
    by_cases q : (n : Int) ∈ l
    · have e := List.length_erase_of_mem q
      have := nodup_le n (l.erase n) (hd.erase _) fun x hx => by
        have h1 := (hd.mem_erase_iff).mp hx
        have h2 := h x h1.2
        have := h1.1
        omega
      omega
    · have := nodup_le n l hd fun x hx => by
        have h2 := h x hx
        have : x ≠ n := fun e => q (e ▸ hx)
        omega
      omega
theorem all_ne {l : List Int} {y : Int} : (∀ x, x ∈ l → ¬ x = y) ↔ ¬ y ∈ l := ⟨fun h q => h y q rfl, fun h x hx e => h (e ▸ hx)⟩
def addR (H : House) (x : Int) (rs : List Int) (l : Int) : List Int := if H.go x l ∈ rs then rs else rs ++ [H.go x l]
def envG (L : Int) (H : House) (ls rs : List Int) (at_ : Nat) : En := [.fz (houseD L H), .fz (.lst (ls.map D.i)), .own (.lst (rs.map D.i)), .own (.v (.int (at_ : Int))), .no]
theorem rt_turn {H : House} {L x l : Int} {rs ls : List Int} {at_ : Nat} (k : H.ok L) (hx : rs[at_]? = some x) (x0 : 0 ≤ x) (x1 : x < H.marks.length) (l0 : 0 ≤ l) (l1 : l < L) (z : rs.length < sizeLine) :
    turn (nTg 4) [4] _law_rooms_to_b1 (.v (.int l)) (envG L H ls rs at_) = .nx (envG L H ls (addR H x rs l) at_) := by
  obtain ⟨g1, g2, g3⟩ := dIx_go k x0 x1 l0 l1
  have w := dIx_way k x0 x1
  simp only [List.getD_eq_getElem?_getD] at g1 w
  have a : dAt (rs.map D.i) (at_ : Int) = .ok (.v (.int x)) := dAt_of (by omega) (by simp [hx])
  unfold addR
  by_cases q : H.go x l ∈ rs
  · simp [turn, envG, _law_rooms_to_b1, houseD, a, w, g1, all_ne, q]
  · simp [turn, envG, _law_rooms_to_b1, houseD, a, w, g1, all_ne, q, z]
theorem addR_mem {H : House} {x l : Int} {rs : List Int} : H.go x l ∈ addR H x rs l := by
  unfold addR; split
  · assumption
  · simp
theorem addR_sub {H : House} {x l y : Int} {rs : List Int} (h : y ∈ rs) : y ∈ addR H x rs l := by
  unfold addR; split
  · exact h
  · simp [h]
theorem addR_get {H : House} {x l y : Int} {rs : List Int} {i : Nat} (h : rs[i]? = some y) : (addR H x rs l)[i]? = some y := by
  unfold addR; split
  · exact h
  · rw [List.getElem?_append_left (List.getElem?_eq_some_iff.mp h).1]; exact h
theorem addR_of {H : House} {x l y : Int} {rs : List Int} (h : y ∈ addR H x rs l) : y ∈ rs ∨ y = H.go x l := by
  unfold addR at h; split at h
  · exact .inl h
  · simpa using h
def Reach (H : House) (ls : List Int) (x : Int) : Prop := ∃ w : List Int, (∀ l ∈ w, l ∈ ls) ∧ H.walk 0 w = x
theorem Reach.step {H : House} {ls : List Int} {x l : Int} (h : Reach H ls x) (hl : l ∈ ls) : Reach H ls (H.go x l) := by
  obtain ⟨w, w1, w2⟩ := h
  refine ⟨w ++ [l], fun y hy => ?_, ?_⟩
  · rcases List.mem_append.mp hy with hy | hy
    · exact w1 y hy
    · rw [List.mem_singleton.mp hy]; exact hl
  · unfold House.walk at w2 ⊢
    rw [List.foldl_append, w2]; rfl
structure GInv (H : House) (ls rs : List Int) (at_ : Nat) : Prop where
  nd : rs.Nodup
  rg : ∀ x ∈ rs, 0 ≤ x ∧ x < H.marks.length
  re : ∀ x ∈ rs, Reach H ls x
  st : (0 : Int) ∈ rs
  le : at_ ≤ rs.length
  cl : ∀ (i : Nat) x, i < at_ → rs[i]? = some x → ∀ l ∈ ls, H.go x l ∈ rs
theorem rt_letters {H : House} {L x : Int} {ls : List Int} {at_ : Nat} (k : H.ok L) : ∀ (l rs : List Int), (∀ y ∈ l, y ∈ ls ∧ 0 ≤ y ∧ y < L) → rs[at_]? = some x → rs.Nodup → (∀ x ∈ rs, 0 ≤ x ∧ x < H.marks.length) → (∀ x ∈ rs, Reach H ls x) →
    ∃ rs', forL (nTg 4) [4] _law_rooms_to_b1 (l.map D.i) (envG L H ls rs at_) = .nx (envG L H ls rs' at_) ∧ rs'.Nodup ∧ (∀ x ∈ rs', 0 ≤ x ∧ x < H.marks.length) ∧ (∀ x ∈ rs', Reach H ls x) ∧ (∀ y ∈ rs, y ∈ rs') ∧ (∀ (i : Nat) y, rs[i]? = some y → rs'[i]? = some y) ∧ ∀ y ∈ l, H.go x y ∈ rs'
  | [], rs, _, _, n, g, r => ⟨rs, by simp [forL_nil], n, g, r, fun _ h => h, fun _ _ h => h, fun _ h => by cases h⟩
  | y :: l, rs, hl, hx, n, g, r => by
    have sl := sline
    have hy := hl y (by simp)
    have xm := List.mem_of_getElem? hx
    have gx := g x xm
    have len := nodup_le _ rs n g
    have k4 := k.le
    have st := rt_turn (ls := ls) k hx gx.1 gx.2 hy.2.1 hy.2.2 (by omega)
    have gg := (dIx_go k gx.1 gx.2 hy.2.1 hy.2.2).2
    obtain ⟨rs', e, n', g', r', s', i', c'⟩ := rt_letters k l (addR H x rs y) (fun z hz => hl z (by simp [hz])) (addR_get hx) (by
      unfold addR; split
      · exact n
      · next q =>
        rw [List.nodup_append]
        refine ⟨n, by simp, fun a ha b hb => ?_⟩
        rw [List.mem_singleton.mp hb]
        exact fun e => q (e ▸ ha)) (fun z hz => by
      rcases addR_of hz with hz | rfl
      · exact g z hz
      · exact gg) (fun z hz => by
      rcases addR_of hz with hz | rfl
      · exact r z hz
      · exact (r x xm).step hy.1)
    refine ⟨rs', ?_, n', g', r', fun z hz => s' z (addR_sub hz), fun i z hz => i' i z (addR_get hz), fun z hz => ?_⟩
    · rw [List.map_cons]; exact (forL_step st).trans e
    · rcases List.mem_cons.mp hz with rfl | hz
      · exact s' _ addR_mem
      · exact c' z hz
theorem rt_while {H : House} {L : Int} {ls : List Int} (k : H.ok L) (hl : ∀ l ∈ ls, 0 ≤ l ∧ l < L) :
    ∀ (n : Nat) (rs : List Int) (at_ : Nat), H.marks.length - at_ ≤ n → GInv H ls rs at_ → ∃ rs' at', whileN (qB (p2 dLt (pV 3) (pCall bLen (aCons (pV 2) aNil)))) [4] _law_rooms_to_b2 (n + 1) (envG L H ls rs at_) = .nx (envG L H ls rs' at') ∧ GInv H ls rs' at' ∧ at' = rs'.length := by
  have tt : ∀ rs (at_ : Nat), qB (p2 dLt (pV 3) (pCall bLen (aCons (pV 2) aNil))) (envG L H ls rs at_) = .ok (decide (at_ < rs.length)) := fun rs at_ => by simp [envG]
  have kl : ∀ rs at_, kills [4] (envG L H ls rs at_) = envG L H ls rs at_ := fun rs at_ => by simp [envG]
  intro n
  induction n with
  | zero =>
    intro rs at_ hn I
    have len := nodup_le _ rs I.nd I.rg
    have e : at_ = rs.length := by have := I.le; omega
    refine ⟨rs, at_, ?_, I, e⟩
    rw [whileN, tt]
    simp [e]
  | succ n ih =>
    intro rs at_ hn I
    have len := nodup_le _ rs I.nd I.rg
    by_cases q : at_ < rs.length
    · obtain ⟨x, hx⟩ : ∃ x, rs[at_]? = some x := ⟨rs[at_], List.getElem?_eq_getElem q⟩
      obtain ⟨rs', e, n', g', r', s', i', c'⟩ := rt_letters (x := x) k ls rs (fun y hy => ⟨hy, hl y hy⟩) hx I.nd I.rg I.re
      have I' : GInv H ls rs' (at_ + 1) := ⟨n', g', r', s' _ I.st, (List.getElem?_eq_some_iff.mp (i' _ _ hx)).1, fun i y hi hy l hl => by
        by_cases q2 : i = at_
        · subst q2
          rw [i' _ _ hx] at hy; cases hy
          exact c' l hl
        · have hi2 : i < rs.length := by omega
          have e1 : rs[i]? = some rs[i] := List.getElem?_eq_getElem hi2
          have := i' _ _ e1
          rw [this] at hy; cases hy
          exact s' _ (I.cl i _ (by omega) e1 l hl)⟩
      obtain ⟨rs2, at2, h2, I2, e2⟩ := ih rs' (at_ + 1) (by omega) I'
      refine ⟨rs2, at2, ?_, I2, e2⟩
      have body : _law_rooms_to_b2 (envG L H ls rs at_) = .nx (envG L H ls rs' (at_ + 1)) := by
        simp [envG] at e
        simp [_law_rooms_to_b2, envG]
        rw [e]
        simp
      rw [whileN, tt]
      simp only [q, decide_true, if_true, body, kl]
      exact h2
    · have e : at_ = rs.length := by have := I.le; omega
      refine ⟨rs, at_, ?_, I, e⟩
      rw [whileN, tt]
      simp [q]
theorem rooms_to_ok {H : House} {L : Int} {ls : List Int} (k : H.ok L) (hl : ∀ l ∈ ls, 0 ≤ l ∧ l < L) :
    ∃ rs : List Int, _law_rooms_to_d [houseD L H, .lst (ls.map D.i)] = .ok (.lst (rs.map D.i)) ∧ ∀ x, x ∈ rs ↔ Reach H ls x := by
  have pos := k.pos
  have I0 : GInv H ls [0] 0 := ⟨by simp, fun x hx => by rw [List.mem_singleton.mp hx]; omega, fun x hx => ⟨[], (fun l h => by cases h), by rw [List.mem_singleton.mp hx]; rfl⟩, by simp, by simp, fun i x h => by omega⟩
  obtain ⟨rs, at_, h1, I, e⟩ := rt_while k hl _ [0] 0 (Nat.le_refl _) I0
  refine ⟨rs, ?_, fun x => ⟨I.re x, ?_⟩⟩
  · have w := sWhile_of (t := qB (p2 dLt (pV 3) (pCall bLen (aCons (pV 2) aNil)))) (ks := [4]) (body := _law_rooms_to_b2) (e := envG L H ls [0] 0) (o := .nx (envG L H ls rs at_)) _ (by rw [show kills [4] (envG L H ls [0] 0) = envG L H ls [0] 0 by simp [envG]]; exact h1) (by simp)
    have st : _law_rooms_to_s (env0 5 [houseD L H, .lst (ls.map D.i)]) = (sWhile (qB (p2 dLt (pV 3) (pCall bLen (aCons (pV 2) aNil)))) [4] _law_rooms_to_b2 (envG L H ls [0] 0)).then (sRet (gTake 2)) := by
      simp [_law_rooms_to_s, envG]
    rw [_law_rooms_to_d, fnD_e, st, w]
    simp [envG]
  · have cl : ∀ (w : List Int) (y : Int), y ∈ rs → (∀ l ∈ w, l ∈ ls) → H.walk y w ∈ rs := by
      intro w
      induction w with
      | nil => intro y hy _; exact hy
      | cons l w ih =>
        intro y hy hw
        obtain ⟨i, hi, ei⟩ := List.getElem_of_mem hy
        exact ih (H.go y l) (I.cl i y (by omega) (by rw [List.getElem?_eq_getElem hi, ei]) l (hw l (by simp))) fun z hz => hw z (by simp [hz])
    rintro ⟨w, w1, rfl⟩
    exact cl w 0 I.st w1
/-! letters that are good -/
def cntG (p : Int) (h : Nat) (G : List Int) : Nat := (List.range h).countP fun (j : Nat) => decide (p + (j : Int) ∈ G)
theorem countP_lt {α : Type} {p q : α → Bool} : ∀ {l : List α}, (∀ x ∈ l, p x = true → q x = true) → (∃ x ∈ l, p x = false ∧ q x = true) → l.countP p < l.countP q
  | [], _, ⟨x, h, _⟩ => by cases h
  | a :: l, h, ⟨x, hx, h1, h2⟩ => by
    have m := List.countP_mono_left (l := l) (p := p) (q := q) fun y hy => h y (by simp [hy])
    rw [List.countP_cons, List.countP_cons]
    rcases List.mem_cons.mp hx with rfl | hx
    · simp [h1, h2]; omega
    · have ih := countP_lt (l := l) (fun y hy => h y (by simp [hy])) ⟨x, hx, h1, h2⟩
      have ha := h a (by simp)
      cases hp : p a
      · simp; split <;> omega
      · simp [ha hp]; omega
def ClosedG (p : Int) (Hs : List House) (G : List Int) : Prop := ∀ (j : Int) (w : List Int), 0 ≤ j → j < Hs.length → (∀ l ∈ w, l ∈ G) → (hsAt Hs j).mark ((hsAt Hs j).walk 0 w) ≠ 0 → p + j ∈ G
structure LInv (p : Int) (Hs : List House) (R : List (Option (List Int))) (G : List Int) : Prop where
  rg : ∀ l ∈ G, 0 ≤ l ∧ l < p + Hs.length
  base : ∀ l : Int, 0 ≤ l → l < p → l ∈ G
  snd : ∀ l ∈ G, p ≤ l → ∃ r, rowO R (l - p) = some r
  nd : G.Nodup
theorem cat_made {p : Int} {Hs : List House} {R : List (Option (List Int))} {G : List Int} (I : LInv p Hs R G) : ∀ {w : List Int}, (∀ l ∈ w, l ∈ G) → ∃ r, cat (mk p Hs.length R) w = some r
  | [], _ => ⟨[], rfl⟩
  | l :: w, h => by
    obtain ⟨r, hr⟩ := cat_made I (w := w) fun x hx => h x (by simp [hx])
    have hl := h l (by simp)
    by_cases q : p ≤ l
    · obtain ⟨s, hs⟩ := I.snd l hl q
      exact ⟨_, cat_cons' (a := l :: (s ++ [p + (Hs.length : Int)])) (by unfold mk; rw [if_pos q, hs]; rfl) hr⟩
    · exact ⟨_, cat_cons' (a := [l]) (by unfold mk; rw [if_neg q]) hr⟩
theorem LInv.add {p : Int} {Hs : List House} {R : List (Option (List Int))} {G : List Int} (T : Told p Hs R) (I : LInv p Hs R G) (p1 : 1 ≤ p) {j : Int} {w : List Int} (j0 : 0 ≤ j) (j1 : j < Hs.length) (hw : ∀ l ∈ w, l ∈ G) (hm : (hsAt Hs j).mark ((hsAt Hs j).walk 0 w) ≠ 0) (hn : p + j ∉ G) : LInv p Hs R (G ++ [p + j]) := by
  refine ⟨fun l hl => ?_, fun l a b => by simp [I.base l a b], fun l hl q => ?_, ?_⟩
  · rcases List.mem_append.mp hl with hl | hl
    · exact I.rg l hl
    · rw [List.mem_singleton.mp hl]; omega
  · rcases List.mem_append.mp hl with hl | hl
    · exact I.snd l hl q
    · rw [List.mem_singleton.mp hl, show p + j - p = j by omega]
      obtain ⟨r, hr⟩ := cat_made I hw
      obtain ⟨s, s1, _⟩ := (T.best j j0 j1).2 w r (fun l hl => I.rg l (hw l hl)) hr hm
      exact ⟨s, s1⟩
  · rw [List.nodup_append]
    refine ⟨I.nd, by simp, fun a ha b hb => ?_⟩
    rw [List.mem_singleton.mp hb]
    exact fun e => hn (e ▸ ha)
def worksD (p : Int) (Hs : List House) : D := .tup [.v (.int p), .tup (Hs.map (houseD (p + Hs.length)))]
def envL (p : Int) (Hs : List House) (G : List Int) (s3 s4 : Sl) : En := [.fz (worksD p Hs), .own (.v (.int p)), .own (.lst (G.map D.i)), s3, s4, .no]
theorem lg_rooms {p : Int} {Hs : List House} {j : Int} {s3 : Sl} (hk : ∀ H ∈ Hs, H.ok (p + Hs.length)) (j0 : 0 ≤ j) (j1 : j < Hs.length) : ∀ (rs G : List Int), (∀ x ∈ rs, 0 ≤ x ∧ x < (hsAt Hs j).marks.length) → G.length < 1000 →
    ∃ G', forL (nTg 5) [5] _law_letters_good_b1 (rs.map D.i) (envL p Hs G s3 (.fz (.v (.int j)))) = .nx (envL p Hs G' s3 (.fz (.v (.int j)))) ∧ (G' = if p + j ∉ G ∧ ∃ x ∈ rs, (hsAt Hs j).mark x ≠ 0 then G ++ [p + j] else G)
  | [], G, _, _ => ⟨G, by simp [forL_nil], by simp⟩
  | x :: rs, G, hr, hz => by
    have sl := sline
    have jl : j.toNat < Hs.length := by omega
    have eH : hsAt Hs j = Hs[j.toNat] := by simp [hsAt, jl]
    have hj : dAt (Hs.map (houseD (p + Hs.length))) j = .ok (houseD (p + Hs.length) (hsAt Hs j)) := dAt_of j0 (by rw [eH]; simp [jl])
    have hx := hr x (by simp)
    have m := dIx_mark (H := hsAt Hs j) hx.1 hx.2
    have z : G.length < sizeLine := by omega
    rw [List.map_cons]
    by_cases q : (hsAt Hs j).mark x = 0
    · have st : turn (nTg 5) [5] _law_letters_good_b1 (D.i x) (envL p Hs G s3 (.fz (.v (.int j)))) = .nx (envL p Hs G s3 (.fz (.v (.int j)))) := by
        simp [houseD] at hj
        simp [turn, envL, worksD, _law_letters_good_b1, houseD, hj, m, all_ne, q]
      obtain ⟨G', e1, e2⟩ := lg_rooms (s3 := s3) hk j0 j1 rs G (fun y hy => hr y (by simp [hy])) hz
      exact ⟨G', (forL_step st).trans e1, by rw [e2]; simp [q]⟩
    · by_cases q2 : p + j ∈ G
      · have st : turn (nTg 5) [5] _law_letters_good_b1 (D.i x) (envL p Hs G s3 (.fz (.v (.int j)))) = .nx (envL p Hs G s3 (.fz (.v (.int j)))) := by
          simp [houseD] at hj
          simp [turn, envL, worksD, _law_letters_good_b1, houseD, hj, m, all_ne, q, q2]
        obtain ⟨G', e1, e2⟩ := lg_rooms (s3 := s3) hk j0 j1 rs G (fun y hy => hr y (by simp [hy])) hz
        exact ⟨G', (forL_step st).trans e1, by rw [e2]; simp [q2]⟩
      · have st : turn (nTg 5) [5] _law_letters_good_b1 (D.i x) (envL p Hs G s3 (.fz (.v (.int j)))) = .nx (envL p Hs (G ++ [p + j]) s3 (.fz (.v (.int j)))) := by
          simp [houseD] at hj
          simp [turn, envL, worksD, _law_letters_good_b1, houseD, hj, m, all_ne, q, q2, z]
        have skip : ∀ (rs : List Int), (∀ x ∈ rs, 0 ≤ x ∧ x < (hsAt Hs j).marks.length) → forL (nTg 5) [5] _law_letters_good_b1 (rs.map D.i) (envL p Hs (G ++ [p + j]) s3 (.fz (.v (.int j)))) = .nx (envL p Hs (G ++ [p + j]) s3 (.fz (.v (.int j)))) := fun rs hr => forL_skip _ fun d hd => by
          obtain ⟨y, hy, rfl⟩ := List.mem_map.mp hd
          have m := dIx_mark (H := hsAt Hs j) (hr y hy).1 (hr y hy).2
          simp [houseD] at hj
          by_cases q3 : (hsAt Hs j).mark y = 0
          · simp [turn, envL, worksD, _law_letters_good_b1, houseD, hj, m, all_ne, q3]
          · simp [turn, envL, worksD, _law_letters_good_b1, houseD, hj, m, all_ne, q3]
        exact ⟨G ++ [p + j], (forL_step st).trans (skip rs fun y hy => hr y (by simp [hy])), by rw [if_pos ⟨q2, x, by simp, q⟩]⟩
theorem lg_helpers {p : Int} {Hs : List House} {R : List (Option (List Int))} {G0 : List Int} {s3 : Sl} (p1 : 1 ≤ p) (ph : p + Hs.length ≤ 6) (hk : ∀ H ∈ Hs, H.ok (p + Hs.length)) (T : Told p Hs R) :
    ∀ (n k : Nat) (G : List Int), k + n = Hs.length → LInv p Hs R G → ((G = G0 ∧ ∀ (j : Int) (w : List Int), 0 ≤ j → j < k → (∀ l ∈ w, l ∈ G0) → (hsAt Hs j).mark ((hsAt Hs j).walk 0 w) ≠ 0 → p + j ∈ G0) ∨ (cntG p Hs.length G0 < cntG p Hs.length G ∧ ¬ ClosedG p Hs G0)) →
      ∃ G', forL (nTg 4) [4, 5] _law_letters_good_b2 ((List.range' k n).map fun (i : Nat) => D.i (i : Int)) (envL p Hs G s3 .no) = .nx (envL p Hs G' s3 .no) ∧ LInv p Hs R G' ∧ ((G' = G0 ∧ ClosedG p Hs G0) ∨ (cntG p Hs.length G0 < cntG p Hs.length G' ∧ ¬ ClosedG p Hs G0)) := by
  intro n
  induction n with
  | zero =>
    intro k G hkn I c
    refine ⟨G, by simp [forL_nil], I, ?_⟩
    rcases c with ⟨c1, c2⟩ | c
    · exact .inl ⟨c1, fun j w j0 j1 => c2 j w j0 (by omega)⟩
    · exact .inr c
  | succ n ih =>
    intro k G hkn I c
    have kl : k < Hs.length := by omega
    have eH : hsAt Hs (k : Int) = Hs[k] := by simp [hsAt, kl]
    have kk : (hsAt Hs (k : Int)).ok (p + Hs.length) := by rw [eH]; exact hk _ (List.getElem_mem kl)
    have hj : dAt (Hs.map (houseD (p + Hs.length))) (k : Int) = .ok (houseD (p + Hs.length) (hsAt Hs (k : Int))) := dAt_of (by omega) (by rw [eH]; simp [kl])
    obtain ⟨rs, e1, e2⟩ := rooms_to_ok (ls := G) kk I.rg
    have p0 : (0 : Int) < (hsAt Hs (k : Int)).marks.length := by have := kk.pos; omega
    have gl : G.length ≤ 6 := by
      have := nodup_le 6 G I.nd fun x hx => by have := I.rg x hx; omega
      exact this
    obtain ⟨G', f1, f2⟩ := lg_rooms (p := p) (s3 := s3) hk (j := (k : Int)) (by omega) (by omega) rs G (fun x hx => by
      obtain ⟨w, w1, rfl⟩ := (e2 x).mp hx
      exact walk_in kk w 0 (by decide) p0 fun l hl => I.rg l (w1 l hl)) (by omega)
    have st : turn (nTg 4) [4, 5] _law_letters_good_b2 (.v (.int (k : Int))) (envL p Hs G s3 .no) = .nx (envL p Hs G' s3 .no) := by
      simp [envL] at f1
      simp [turn, _law_letters_good_b2, envL]
      simp [worksD] at f1 ⊢
      simp [hj, e1]
      rw [f1]
      simp
    have I' : LInv p Hs R G' := by
      rw [f2]
      split
      · next q =>
        obtain ⟨q1, x, q2, q3⟩ := q
        obtain ⟨w, w1, rfl⟩ := (e2 x).mp q2
        exact I.add T p1 (by omega) (by omega) w1 q3 q1
      · exact I
    obtain ⟨G2, g1, g2, g3⟩ := ih (k + 1) G' (by omega) I' (by
      by_cases q : p + (k : Int) ∉ G ∧ ∃ x ∈ rs, (hsAt Hs (k : Int)).mark x ≠ 0
      · rw [if_pos q] at f2
        refine .inr ?_
        have up : cntG p Hs.length G < cntG p Hs.length G' := by
          rw [f2]
          refine countP_lt (fun x _ hx => by simp at hx ⊢; exact .inl hx) ⟨k, List.mem_range.mpr kl, by simp [q.1], by simp⟩
        rcases c with ⟨c1, c2⟩ | ⟨c1, c2⟩
        · subst c1
          refine ⟨up, fun cl => q.1 ?_⟩
          obtain ⟨x, q2, q3⟩ := q.2
          obtain ⟨w, w1, rfl⟩ := (e2 x).mp q2
          exact cl k w (by omega) (by omega) w1 q3
        · exact ⟨by omega, c2⟩
      · rw [if_neg q] at f2
        subst f2
        rcases c with ⟨c1, c2⟩ | c
        · subst c1
          refine .inl ⟨rfl, fun j w j0 j1 w1 w2 => ?_⟩
          by_cases z : j = (k : Int)
          · subst z
            by_cases y : p + (k : Int) ∈ G'
            · exact y
            · exact absurd ⟨y, _, (e2 _).mpr ⟨w, w1, rfl⟩, w2⟩ q
          · exact c2 j w j0 (by omega) w1 w2
        · exact .inr c)
    refine ⟨G2, ?_, g2, g3⟩
    rw [List.range'_succ, List.map_cons]
    exact (forL_step st).trans g1
theorem lg_st {W : D} {Hd : List D} {n k : Nat} {s1 s2 : Sl} {e2 : En} (hh : dIx W (.v (.int 1)) = .ok (.tup Hd)) (hm : Hd.length = n) (hn : n ≤ 3)
    (f1 : forL (nTg 4) [4, 5] _law_letters_good_b2 ((List.range n).map fun (i : Nat) => D.i (i : Int)) [.fz W, s1, s2, .fz (.v (.int (k : Int))), .no, .no] = .nx e2) :
    turn (nTg 3) [3, 4, 5] _law_letters_good_b3 (.v (.int (k : Int))) [.fz W, s1, s2, .no, .no, .no] = .nx (kills [3, 4, 5] e2) := by
  have lb : (-4611686018427387904 : Int) ≤ (n : Int) ∧ (n : Int) < 4611686018427387904 := by omega
  simp [turn, _law_letters_good_b3, hh, hm, lb]
  rw [f1]
theorem lg_turns {p : Int} {Hs : List House} {R : List (Option (List Int))} (p1 : 1 ≤ p) (h3 : Hs.length ≤ 3) (ph : p + Hs.length ≤ 6) (hk : ∀ H ∈ Hs, H.ok (p + Hs.length)) (T : Told p Hs R) :
    ∀ (n k : Nat) (G : List Int), LInv p Hs R G → (ClosedG p Hs G ∨ k ≤ cntG p Hs.length G) →
      ∃ G', forL (nTg 3) [3, 4, 5] _law_letters_good_b3 ((List.range' k n).map fun (i : Nat) => D.i (i : Int)) (envL p Hs G .no .no) = .nx (envL p Hs G' .no .no) ∧ LInv p Hs R G' ∧ (ClosedG p Hs G' ∨ k + n ≤ cntG p Hs.length G') := by
  intro n
  induction n with
  | zero => intro k G I c; exact ⟨G, by simp [forL_nil], I, c⟩
  | succ n ih =>
    intro k G I c
    obtain ⟨G', f1, I', c'⟩ := lg_helpers (G0 := G) (s3 := .fz (.v (.int (k : Int)))) p1 ph hk T Hs.length 0 G (by omega) I (.inl ⟨rfl, fun j w j0 j1 => by omega⟩)
    have st : turn (nTg 3) [3, 4, 5] _law_letters_good_b3 (.v (.int (k : Int))) (envL p Hs G .no .no) = .nx (envL p Hs G' .no .no) := by
      rw [← List.range_eq_range', envL, envL] at f1
      have := lg_st (Hd := Hs.map (houseD (p + Hs.length))) (n := Hs.length) (k := k) (by simp [worksD]) (by simp) (by omega) f1
      rw [envL, this]
      simp [envL]
    obtain ⟨G2, g1, g2, g3⟩ := ih (k + 1) G' I' (by
      rcases c' with ⟨c1, c2⟩ | ⟨c1, c2⟩
      · subst c1; exact .inl c2
      · rcases c with c | c
        · exact absurd c c2
        · exact .inr (by omega))
    refine ⟨G2, ?_, g2, g3.imp id fun z => by omega⟩
    rw [List.range'_succ, List.map_cons]
    exact (forL_step st).trans g1
theorem lg_start {W : D} {p : Int} {Hd : List D} {n : Nat} (h0 : dIx W (.v (.int 0)) = .ok (.v (.int p))) (hh : dIx W (.v (.int 1)) = .ok (.tup Hd)) (hm : Hd.length = n) (hn : n ≤ 3) (lp : (-4611686018427387904 : Int) ≤ p ∧ p ≤ 16777216) :
    _law_letters_good_s (env0 6 [W]) = (forL (nTg 3) [3, 4, 5] _law_letters_good_b3 ((List.range n).map fun (i : Nat) => D.i (i : Int)) [.fz W, .own (.v (.int p)), .own (.lst ((List.range p.toNat).map fun (i : Nat) => D.i (i : Int))), .no, .no, .no]).then (sRet (gTake 2)) := by
  have lb : (-4611686018427387904 : Int) ≤ (n : Int) ∧ (n : Int) < 4611686018427387904 := by omega
  simp [_law_letters_good_s, h0, hh, hm, lb, lp]
theorem letters_good_ok {p : Int} {Hs : List House} {R : List (Option (List Int))} (p1 : 1 ≤ p) (h3 : Hs.length ≤ 3) (ph : p + Hs.length ≤ 6) (hk : ∀ H ∈ Hs, H.ok (p + Hs.length)) (T : Told p Hs R) :
    ∃ G : List Int, _law_letters_good_d [worksD p Hs] = .ok (.lst (G.map D.i)) ∧ G.length ≤ 6 ∧ (∀ j : Int, 0 ≤ j → j < Hs.length → (p + j ∈ G ↔ ∃ r, rowO R j = some r)) ∧ LInv p Hs R G := by
  have sl := sline
  have G0 : ∀ x : Int, x ∈ ((List.range p.toNat).map fun (i : Nat) => (i : Int)) ↔ 0 ≤ x ∧ x < p := fun x => by
    rw [List.mem_map]
    constructor
    · rintro ⟨i, hi, rfl⟩
      have := List.mem_range.mp hi
      omega
    · rintro ⟨a, b⟩
      exact ⟨x.toNat, List.mem_range.mpr (by omega), by omega⟩
  have I0 : LInv p Hs R ((List.range p.toNat).map fun (i : Nat) => (i : Int)) := ⟨fun l hl => by have := (G0 l).mp hl; omega, fun l a b => (G0 l).mpr ⟨a, b⟩, fun l hl q => by have := (G0 l).mp hl; omega, by
    rw [List.Nodup, List.pairwise_map]
    exact (List.nodup_range (n := p.toNat)).imp fun h e => h (by omega)⟩
  obtain ⟨G, f1, I, c⟩ := lg_turns p1 h3 ph hk T Hs.length 0 _ I0 (.inr (by omega))
  have cl : ClosedG p Hs G := by
    rcases c with c | c
    · exact c
    · intro j w j0 j1 _ _
      have e : (List.range Hs.length).countP (fun j : Nat => decide (p + (j : Int) ∈ G)) = (List.range Hs.length).length := by
        have h1 := List.countP_le_length (l := List.range Hs.length) (p := fun j : Nat => decide (p + (j : Int) ∈ G))
        have h2 : Hs.length ≤ (List.range Hs.length).countP (fun j : Nat => decide (p + (j : Int) ∈ G)) := by
          have : 0 + Hs.length ≤ cntG p Hs.length G := c
          unfold cntG at this
          omega
        rw [List.length_range] at h1 ⊢
        omega
      have := List.countP_eq_length.mp e j.toNat (List.mem_range.mpr (by omega))
      simp at this
      rwa [show max j 0 = j by omega] at this
  refine ⟨G, ?_, nodup_le 6 G I.nd fun x hx => by have := I.rg x hx; omega, fun j j0 j1 => ⟨fun h => ?_, fun ⟨r, hr⟩ => ?_⟩, I⟩
  · have lp : (-4611686018427387904 : Int) ≤ p ∧ p ≤ 16777216 := by omega
    rw [← List.range_eq_range'] at f1
    have st := lg_start (W := worksD p Hs) (p := p) (Hd := Hs.map (houseD (p + Hs.length))) (n := Hs.length) (by simp [worksD]) (by simp [worksD]) (by simp) h3 lp
    rw [_law_letters_good_d, fnD_e, st]
    rw [envL, worksD, List.map_map] at f1
    rw [worksD]
    simp only [Function.comp_def] at f1
    rw [f1]
    simp [envL]
  · have := I.snd _ h (by omega)
    rwa [show p + j - p = j by omega] at this
  · exact good_all (G := fun l => l ∈ G) p1 (fun t w t0 t1 hw hm => cl t w t0 t1 (fun l hl => by
      obtain ⟨⟨a, b⟩, c⟩ := hw l hl
      by_cases q : p ≤ l
      · exact c q
      · exact I.base l a (by omega)) hm) r.length r j (Nat.le_refl _) (T.ok.bal j r j0 hr) (T.ok.acc j r j0 hr) j0 j1
end K82

namespace K82
open PySem PySem.Spec PyProof.Rows L2 Gw
/-! ### rows_from_rooms -/
def envB (H : House) (L : Int) (Ml F : List (Option (List Int))) (tb : Bool) (s3 : Sl) : En := [.fz (houseD L H), .fz (.lst (Ml.map rowD)), .own (.lst (F.map rowD)), s3, .own (.v (.bl tb)), .no, .no, .no]
theorem bstep {H : House} {L room l : Int} {Ml F : List (Option (List Int))} {tb : Bool} (k : H.ok L) (hF : F.length = H.marks.length) (hM : (Ml.length : Int) = L) (r0 : 0 ≤ room) (r1 : room < H.marks.length) (l0 : 0 ≤ l) (l1 : l < L)
    (wF : ∀ r, some r ∈ F → wok r ∧ r.length ≤ 1000000) (wM : ∀ r, some r ∈ Ml → wok r ∧ r.length ≤ 1000000) :
    turn (nTg 5) [5, 6, 7] rows_from_rooms_b2 (.v (.int l)) (envB H L Ml F tb (.fz (.v (.int room)))) = .nx (envB H L Ml (relaxB H (rowO Ml) F room l) (tb || decide (relaxB H (rowO Ml) F room l ≠ F)) (.fz (.v (.int room)))) := by
  have sl := sline
  obtain ⟨g1, g2, g3⟩ := dIx_go k r0 r1 l0 l1
  have w := dIx_way k r0 r1
  simp only [List.getD_eq_getElem?_getD] at g1 w
  have a1 := dAt_row (F := F) r0 (by omega)
  have a2 := dAt_row (F := Ml) l0 (by omega)
  have a3 := dAt_row (F := F) g2 (by omega)
  have memF : ∀ (i : Int) r, 0 ≤ i → i < F.length → rowO F i = some r → some r ∈ F := fun i r i0 i1 e => List.mem_of_getElem? (by rw [rowO_get i0 i1, e])
  have memM : ∀ (i : Int) r, 0 ≤ i → i < Ml.length → rowO Ml i = some r → some r ∈ Ml := fun i r i0 i1 e => List.mem_of_getElem? (by rw [rowO_get i0 i1, e])
  unfold relaxB
  cases hu : rowO F (H.go room l) with
  | none =>
    rw [hu] at a3
    simp [houseD] at g1 w ⊢
    simp [turn, envB, houseD, rows_from_rooms_b2, w, g1, a3]
  | some u =>
    rw [hu] at a3
    cases hm : rowO Ml l with
    | none =>
      rw [hm] at a2
      simp [houseD] at g1 w ⊢
      simp [turn, envB, houseD, rows_from_rooms_b2, w, g1, a2, a3]
    | some m =>
      rw [hm] at a2
      obtain ⟨wu, su⟩ := wF u (memF _ u g2 (by omega) hu)
      obtain ⟨wm, sm⟩ := wM m (memM l m l0 (by omega) hm)
      have ls := lesser_ok (a := rowO F room) (b := some (m ++ u)) (fun s e => (wF s (memF _ s r0 (by omega) e)).1) (fun s e => by cases e; exact wok_app.mpr ⟨wm, wu⟩)
      have sr := set_row (F := F) r0 (by omega)
      have z : m.length + u.length ≤ sizeLine := by omega
      have ix : ixN F.length room = some room.toNat := ixN_of r0 (by omega)
      have ix2 : room.toNat < F.length := by omega
      simp only [rowD_some, List.map_append] at ls
      simp only [rowD_some] at a2 a3
      dsimp only
      by_cases hN : lsr (rowO F room) (some (m ++ u)) = rowO F room
      · have e : F.set room.toNat (lsr (rowO F room) (some (m ++ u))) = F := by rw [hN, sr]
        rw [hN] at ls
        have q := deq_rowD (a := rowO F room) (b := rowO F room)
        simp only [e]
        simp [houseD] at g1 w ⊢
        simp [turn, envB, houseD, rows_from_rooms_b2, a1, a2, a3, w, g1, z, ls, q]
      · have q := deq_rowD (a := lsr (rowO F room) (some (m ++ u))) (b := rowO F room)
        have ne : F.set room.toNat (lsr (rowO F room) (some (m ++ u))) ≠ F := fun e => hN (by
          have := rowO_set (F := F) (o := lsr (rowO F room) (some (m ++ u))) r0 r0 (by omega)
          rw [e, if_pos rfl] at this
          exact this.symm)
        simp [houseD] at g1 w ⊢
        simp [turn, envB, houseD, rows_from_rooms_b2, a1, a2, a3, w, g1, z, ls, q, hN, ix, ix2, ne, List.map_set]
theorem bletters {H : House} {L room : Int} {Ml F0 : List (Option (List Int))} {mx B : Nat} (k : H.ok L) (l6 : L ≤ 6) (l0 : 0 ≤ L) (hM : (Ml.length : Int) = L) (wM : ∀ r, some r ∈ Ml → wok r ∧ r.length ≤ mx) (hmx : mx ≤ 100000) (hB : 8 ^ (H.marks.length * mx) ≤ B) (r0 : 0 ≤ room) (r1 : room < H.marks.length)
    (I0 : BInv H L (rowO Ml) mx F0) {tb0 : Bool} : ∃ F tb, forL (nTg 5) [5, 6, 7] rows_from_rooms_b2 ((List.range L.toNat).map fun (i : Nat) => D.i (i : Int)) (envB H L Ml F0 tb0 (.fz (.v (.int room)))) = .nx (envB H L Ml F tb (.fz (.v (.int room))))
      ∧ BInv H L (rowO Ml) mx F ∧ ((tb = tb0 ∧ F = F0 ∧ ∀ l : Int, 0 ≤ l → l < L → closedB H (rowO Ml) F0 room l) ∨ (tb = true ∧ mu B F < mu B F0)) := by
  have hMl : ∀ (l : Int) m, 0 ≤ l → l < L → rowO Ml l = some m → wok m ∧ m.length ≤ mx := fun l m a b e => wM m (List.mem_of_getElem? (by rw [rowO_get a (by omega), e]))
  have key := forL_inv (t := nTg 5) (ks := [5, 6, 7]) (body := rows_from_rooms_b2) (fun i : Nat => D.i (i : Int)) (fun l e => (∀ i ∈ l, i < L.toNat) ∧ ∃ F tb, e = envB H L Ml F tb (.fz (.v (.int room))) ∧ BInv H L (rowO Ml) mx F ∧ ((tb = tb0 ∧ F = F0 ∧ ∀ i : Nat, i < L.toNat → i ∉ l → closedB H (rowO Ml) F0 room i) ∨ (tb = true ∧ mu B F < mu B F0))) (by
    rintro a r e ⟨hl, F, tb, rfl, I, c⟩
    have ha := hl a (by simp)
    have st := bstep (tb := tb) k I.len hM r0 r1 (l := (a : Int)) (by omega) (by omega) (fun r hr => ⟨I.wok r hr, by
      have h1 := I.short r hr
      have h2 := List.length_filter_le (fun o : Option (List Int) => o.isSome) F
      rw [I.len] at h2
      have h3 := k.le
      have h4 : (F.filter fun o => o.isSome).length * mx ≤ 4 * mx := Nat.mul_le_mul_right _ (by omega)
      omega⟩) (fun r hr => ⟨(wM r hr).1, by have := (wM r hr).2; omega⟩)
    refine ⟨_, st, fun i hi => hl i (by simp [hi]), _, _, rfl, ?_⟩
    rcases relaxB_ok (B := B) k hMl hB I r0 r1 (l := (a : Int)) (by omega) (by omega) with ⟨e, cl⟩ | ⟨I', m'⟩
    · rw [e]
      refine ⟨I, ?_⟩
      rcases c with ⟨c1, c2, c3⟩ | ⟨c1, c2⟩
      · subst c2
        refine .inl ⟨by simp [c1], rfl, fun i hi hn => ?_⟩
        by_cases q : i = a
        · subst q; exact cl
        · exact c3 i hi (by simp [q, hn])
      · exact .inr ⟨by simp [c1], c2⟩
    · refine ⟨I', .inr ⟨?_, ?_⟩⟩
      · have : relaxB H (rowO Ml) F room a ≠ F := fun e => by rw [e] at m'; omega
        simp [this]
      · rcases c with ⟨_, c2, _⟩ | ⟨_, c2⟩
        · subst c2; exact m'
        · omega) (List.range L.toNat) _ ⟨fun i hi => List.mem_range.mp hi, F0, tb0, rfl, I0, .inl ⟨rfl, rfl, fun i hi hn => absurd (List.mem_range.mpr hi) hn⟩⟩
  obtain ⟨e2, h1, _, F, tb, rfl, I, c⟩ := key
  refine ⟨F, tb, h1, I, ?_⟩
  rcases c with ⟨c1, c2, c3⟩ | c
  · exact .inl ⟨c1, c2, fun l a b => by
      have := c3 l.toNat (by omega) (by simp)
      rwa [show ((l.toNat : Nat) : Int) = l by omega] at this⟩
  · exact .inr c
theorem brooms {H : House} {L : Int} {Ml F0 : List (Option (List Int))} {mx B : Nat} (k : H.ok L) (l6 : L ≤ 6) (l0 : 0 ≤ L) (hM : (Ml.length : Int) = L) (wM : ∀ r, some r ∈ Ml → wok r ∧ r.length ≤ mx) (hmx : mx ≤ 100000) (hB : 8 ^ (H.marks.length * mx) ≤ B)
    (I0 : BInv H L (rowO Ml) mx F0) {tb0 : Bool} : ∃ F tb, forL (nTg 3) [3, 5, 6, 7] rows_from_rooms_b3 ((List.range H.marks.length).map fun (i : Nat) => D.i (i : Int)) (envB H L Ml F0 tb0 .no) = .nx (envB H L Ml F tb .no)
      ∧ BInv H L (rowO Ml) mx F ∧ ((tb = tb0 ∧ F = F0 ∧ ∀ room l : Int, 0 ≤ room → room < H.marks.length → 0 ≤ l → l < L → closedB H (rowO Ml) F0 room l) ∨ (tb = true ∧ mu B F < mu B F0)) := by
  have key := forL_inv (t := nTg 3) (ks := [3, 5, 6, 7]) (body := rows_from_rooms_b3) (fun i : Nat => D.i (i : Int)) (fun l e => (∀ i ∈ l, i < H.marks.length) ∧ ∃ F tb, e = envB H L Ml F tb .no ∧ BInv H L (rowO Ml) mx F ∧ ((tb = tb0 ∧ F = F0 ∧ ∀ i : Nat, i < H.marks.length → i ∉ l → ∀ x : Int, 0 ≤ x → x < L → closedB H (rowO Ml) F0 i x) ∨ (tb = true ∧ mu B F < mu B F0))) (by
    rintro a r e ⟨hl, F, tb, rfl, I, c⟩
    have ha := hl a (by simp)
    obtain ⟨F', tb', st, I', c'⟩ := bletters (room := (a : Int)) (tb0 := tb) k l6 l0 hM wM hmx hB (by omega) (by omega) I
    have lb : (-4611686018427387904 : Int) ≤ L ∧ L < 4611686018427387904 := by omega
    refine ⟨envB H L Ml F' tb' .no, ?_, fun i hi => hl i (by simp [hi]), F', tb', rfl, I', ?_⟩
    · simp [envB] at st
      simp [turn, envB, rows_from_rooms_b3]
      simp [houseD] at st ⊢
      simp [lb]
      rw [st]
      simp
    · rcases c' with ⟨d1, d2, d3⟩ | ⟨d1, d2⟩
      · subst d1; subst d2
        rcases c with ⟨c1, c2, c3⟩ | ⟨c1, c2⟩
        · subst c2
          refine .inl ⟨c1, rfl, fun i hi hn x x0 x1 => ?_⟩
          by_cases q : i = a
          · subst q; exact d3 x x0 x1
          · exact c3 i hi (by simp [q, hn]) x x0 x1
        · exact .inr ⟨c1, c2⟩
      · refine .inr ⟨d1, ?_⟩
        rcases c with ⟨_, c2, _⟩ | ⟨_, c2⟩
        · subst c2; exact d2
        · omega) (List.range H.marks.length) _ ⟨fun i hi => List.mem_range.mp hi, F0, tb0, rfl, I0, .inl ⟨rfl, rfl, fun i hi hn => absurd (List.mem_range.mpr hi) hn⟩⟩
  obtain ⟨e2, h1, _, F, tb, rfl, I, c⟩ := key
  refine ⟨F, tb, h1, I, ?_⟩
  rcases c with ⟨c1, c2, c3⟩ | c
  · exact .inl ⟨c1, c2, fun room l a b x y => by
      have := c3 room.toNat (by omega) (by simp) l x y
      rwa [show ((room.toNat : Nat) : Int) = room by omega] at this⟩
  · exact .inr c
theorem bwhile {H : House} {L : Int} {Ml : List (Option (List Int))} {mx B : Nat} (k : H.ok L) (l6 : L ≤ 6) (l0 : 0 ≤ L) (hM : (Ml.length : Int) = L) (wM : ∀ r, some r ∈ Ml → wok r ∧ r.length ≤ mx) (hmx : mx ≤ 100000) (hB : 8 ^ (H.marks.length * mx) ≤ B) :
    ∀ (n : Nat) (F0 : List (Option (List Int))), mu B F0 ≤ n → BInv H L (rowO Ml) mx F0 → ∃ F, whileN (fun e => ((pV 4) e).bind dTruth) [3, 5, 6, 7] rows_from_rooms_b4 (n + 2) (envB H L Ml F0 true .no) = .nx (envB H L Ml F false .no)
      ∧ BInv H L (rowO Ml) mx F ∧ ∀ room l : Int, 0 ≤ room → room < H.marks.length → 0 ≤ l → l < L → closedB H (rowO Ml) F room l := by
  intro n
  have body : ∀ F0, BInv H L (rowO Ml) mx F0 → ∃ F tb, rows_from_rooms_b4 (envB H L Ml F0 true .no) = .nx (envB H L Ml F tb .no) ∧ BInv H L (rowO Ml) mx F ∧ ((tb = false ∧ F = F0 ∧ ∀ room l : Int, 0 ≤ room → room < H.marks.length → 0 ≤ l → l < L → closedB H (rowO Ml) F0 room l) ∨ (tb = true ∧ mu B F < mu B F0)) := by
    intro F0 I0
    obtain ⟨F, tb, h1, I, c⟩ := brooms (tb0 := false) k l6 l0 hM wM hmx hB I0
    refine ⟨F, tb, ?_, I, c⟩
    have := k.le
    have lb : (-4611686018427387904 : Int) ≤ (F0.length : Int) ∧ (F0.length : Int) < 4611686018427387904 := by rw [I0.len]; omega
    simp [envB] at h1
    simp [rows_from_rooms_b4, envB, lb]
    rw [I0.len, h1]
  have kl : ∀ F tb, kills [3, 5, 6, 7] (envB H L Ml F tb .no) = envB H L Ml F tb .no := fun F tb => by simp [envB]
  have tt : ∀ F tb, ((pV 4) (envB H L Ml F tb .no)).bind dTruth = .ok tb := fun F tb => by simp [envB]
  induction n with
  | zero =>
    intro F0 hm I0
    obtain ⟨F, tb, h1, I, c⟩ := body F0 I0
    rcases c with ⟨c1, c2, c3⟩ | ⟨c1, c2⟩
    · subst c1; subst c2
      refine ⟨F, ?_, I, c3⟩
      rw [whileN, tt]
      simp only [if_true, h1, kl]
      rw [whileN, tt]
      simp
    · omega
  | succ n ih =>
    intro F0 hm I0
    obtain ⟨F, tb, h1, I, c⟩ := body F0 I0
    rcases c with ⟨c1, c2, c3⟩ | ⟨c1, c2⟩
    · subst c1; subst c2
      refine ⟨F, ?_, I, c3⟩
      rw [whileN, tt]
      simp only [if_true, h1, kl]
      rw [whileN, tt]
      simp
    · subst c1
      obtain ⟨F', h2, I2, c3⟩ := ih F (by omega) I
      refine ⟨F', ?_, I2, c3⟩
      rw [whileN, tt]
      simp only [if_true, h1, kl]
      exact h2
def fillF (H : House) (k : Nat) : List (Option (List Int)) := (List.range H.marks.length).map fun (i : Nat) => if i < k ∧ H.mark i ≠ 0 then some [] else none
theorem fill_row {H : House} {k : Nat} {i : Int} (i0 : 0 ≤ i) (i1 : i < H.marks.length) : rowO (fillF H k) i = if i < k ∧ H.mark i ≠ 0 then some [] else none := by
  unfold rowO fillF
  have h : i.toNat < H.marks.length := by omega
  rw [List.getElem?_map, List.getElem?_range h]
  have e : ((i.toNat : Nat) : Int) = i := by omega
  show (if i.toNat < k ∧ H.mark ((i.toNat : Nat) : Int) ≠ 0 then some [] else none) = _
  rw [e]
  by_cases q : H.mark i = 0
  · simp [q]
  · by_cases q2 : i < k
    · rw [if_pos ⟨by omega, q⟩, if_pos ⟨q2, q⟩]
    · rw [if_neg (fun z => q2 (by omega)), if_neg (fun z => q2 z.1)]
theorem fill_len {H : House} {k : Nat} : (fillF H k).length = H.marks.length := by simp [fillF]
theorem fill_eq {A B : List (Option (List Int))} (hl : A.length = B.length) (h : ∀ j : Int, 0 ≤ j → j < A.length → rowO A j = rowO B j) : A = B := by
  apply List.ext_getElem?
  intro k
  by_cases hk : k < A.length
  · have := h (k : Int) (by omega) (by omega)
    have a := rowO_get (F := A) (i := (k : Int)) (by omega) (by omega)
    have b := rowO_get (F := B) (i := (k : Int)) (by omega) (by omega)
    rw [this, ← b] at a
    simpa using a
  · rw [List.getElem?_eq_none (by omega), List.getElem?_eq_none (by omega)]
theorem fill_next {H : House} {k : Nat} (hk : k < H.marks.length) : fillF H (k + 1) = if H.mark k ≠ 0 then (fillF H k).set k (some []) else fillF H k := by
  have hl : (if H.mark k ≠ 0 then (fillF H k).set k (some []) else fillF H k).length = H.marks.length := by split <;> simp [fill_len]
  refine fill_eq (by rw [hl, fill_len]) fun j j0 j1 => ?_
  rw [fill_len] at j1
  rw [fill_row j0 j1]
  by_cases q : H.mark k ≠ 0
  · rw [if_pos q]
    have := rowO_set (F := fillF H k) (i := (k : Int)) (j := j) (o := some []) (by omega) j0 (by rw [fill_len]; omega)
    simp only [Int.toNat_natCast] at this
    rw [this]
    by_cases e : j = (k : Int)
    · rw [if_pos e, if_pos ⟨by omega, by rw [e]; exact q⟩]
    · rw [if_neg e, fill_row j0 j1]
      by_cases z : j < k
      · simp [z, show j < (k : Int) + 1 by omega]
      · rw [if_neg (fun y => z (by have := y.1; omega)), if_neg (fun y => z y.1)]
  · rw [if_neg q, fill_row j0 j1]
    by_cases e : j = (k : Int)
    · subst e
      rw [if_neg (fun y => q y.2), if_neg (fun y => q y.2)]
    · by_cases z : j < k
      · simp [z, show j < (k : Int) + 1 by omega]
      · rw [if_neg (fun y => z (by have := y.1; omega)), if_neg (fun y => z y.1)]
theorem fill_loop {H : House} {L : Int} {Ml : List (Option (List Int))} (k : H.ok L) : ∀ (n j : Nat), j + n = H.marks.length →
    forL (nTg 3) [3] rows_from_rooms_b1 ((List.range' j n).map fun (i : Nat) => D.i (i : Int)) [.fz (houseD L H), .fz (.lst (Ml.map rowD)), .own (.lst ((fillF H j).map rowD)), .no, .no, .no, .no, .no] = .nx [.fz (houseD L H), .fz (.lst (Ml.map rowD)), .own (.lst ((fillF H H.marks.length).map rowD)), .no, .no, .no, .no, .no] := by
  intro n
  induction n with
  | zero => intro j hj; simp [forL_nil, show j = H.marks.length by omega]
  | succ n ih =>
    intro j hj
    rw [List.range'_succ, List.map_cons]
    refine (forL_step ?_).trans (ih (j + 1) (by omega))
    have m := dIx_mark (H := H) (room := (j : Int)) (by omega) (by omega)
    have fl := fill_len (H := H) (k := j)
    have ix : ixN H.marks.length (j : Int) = some j := by
      have := ixN_of (n := H.marks.length) (i := (j : Int)) (by omega) (by omega)
      simpa using this
    have jl : j < H.marks.length := by omega
    rw [fill_next jl]
    generalize fillF H j = F at *
    by_cases q : H.mark j = 0
    · simp [turn, rows_from_rooms_b1, houseD, m, q]
    · simp [turn, rows_from_rooms_b1, houseD, m, q, fl, ix, jl, List.map_set]
theorem fill_inv {H : House} {L : Int} {M : Int → Option (List Int)} {mx : Nat} : BInv H L M mx (fillF H H.marks.length) := by
  have only : ∀ r, some r ∈ fillF H H.marks.length → r = [] := fun r hr => by
    unfold fillF at hr
    obtain ⟨i, _, e⟩ := List.mem_map.mp hr
    split at e
    · cases e; rfl
    · cases e
  refine ⟨fill_len, fun room r0 r1 hm => ?_, fun room r r0 hr => ?_, fun r hr => ?_, fun r hr => ?_⟩
  · rw [fill_row r0 r1, if_pos ⟨r1, hm⟩]; exact ⟨_, rfl⟩
  · have r1 : room < H.marks.length := by
      rcases Int.lt_or_le room H.marks.length with q | q
      · exact q
      · unfold rowO at hr
        rw [List.getElem?_eq_none (by rw [fill_len]; omega)] at hr
        cases hr
    rw [fill_row r0 r1] at hr
    split at hr
    · next q => cases hr; exact ⟨[], fun l h => (by cases h), rfl, q.2⟩
    · cases hr
  · rw [only r hr]; intro d hd; cases hd
  · rw [only r hr]; simp
theorem from_start {HD Ms : D} {m : Nat} {Fs : List D} {e : En} (hh : dIx HD (.v (.int 1)) = .ok (.tup Fs)) (hm : Fs.length = m) (n4 : m ≤ 4)
    (hf : forL (nTg 3) [3] rows_from_rooms_b1 ((List.range m).map fun (i : Nat) => D.i (i : Int)) [.fz HD, .fz Ms, .own (.lst (List.replicate m (.v .non))), .no, .no, .no, .no, .no] = .nx [.fz HD, .fz Ms, .own (.lst e0), .no, .no, .no, .no, .no]) (he : e = [.fz HD, .fz Ms, .own (.lst e0), .no, .own (.v (.bl true)), .no, .no, .no]) :
    rows_from_rooms_s (env0 8 [HD, Ms]) = (sWhile (fun e => ((pV 4) e).bind dTruth) [3, 5, 6, 7] rows_from_rooms_b4 e).then (sRet (gTake 2)) := by
  have no := t_no (n := m) (by omega)
  have lb : (-4611686018427387904 : Int) ≤ (m : Int) ∧ (m : Int) < 4611686018427387904 := by omega
  have e1 : sSet 2 (gL (p2 dMul (pLst (aCons (pC .non) aNil)) (pCall bLen (aCons (p2 dIx (pV 0) (pC (.int 1))) aNil)))) (env0 8 [HD, Ms]) = .nx [.fz HD, .fz Ms, .own (.lst (List.replicate m (.v .non))), .no, .no, .no, .no, .no] := by
    simp [hh, hm, no, -dMul_l]
  have e2 : sForR (nTg 3) [3] (pCall bLen (aCons (pV 2) aNil)) rows_from_rooms_b1 [.fz HD, .fz Ms, .own (.lst (List.replicate m (.v .non))), .no, .no, .no, .no, .no] = .nx [.fz HD, .fz Ms, .own (.lst e0), .no, .no, .no, .no, .no] := by
    rw [← hf]
    simp [lb]
  have e3 : sSet 4 (gL (pC (.bl true))) [.fz HD, .fz Ms, .own (.lst e0), .no, .no, .no, .no, .no] = .nx [.fz HD, .fz Ms, .own (.lst e0), .no, .own (.v (.bl true)), .no, .no, .no] := by simp
  rw [he, rows_from_rooms_s, sSeq_e, e1, then_nx, sSeq_e, e2, then_nx, sSeq_e, e3, then_nx, sSeq_e]
theorem from_ok {H : House} {L : Int} {Ml : List (Option (List Int))} {mx : Nat} (k : H.ok L) (l6 : L ≤ 6) (l0 : 0 ≤ L) (hM : (Ml.length : Int) = L) (wM : ∀ r, some r ∈ Ml → wok r ∧ r.length ≤ mx) (hmx : mx ≤ 100000) :
    ∃ F, rows_from_rooms_d [houseD L H, .lst (Ml.map rowD)] = .ok (.lst (F.map rowD)) ∧ BInv H L (rowO Ml) mx F ∧ ∀ room l : Int, 0 ≤ room → room < H.marks.length → 0 ≤ l → l < L → closedB H (rowO Ml) F room l := by
  have n1 := k.pos
  have n4 := k.le
  obtain ⟨N, F, h1, I, c⟩ : ∃ N F, whileN (fun e => ((pV 4) e).bind dTruth) [3, 5, 6, 7] rows_from_rooms_b4 N (envB H L Ml (fillF H H.marks.length) true .no) = .nx (envB H L Ml F false .no)
      ∧ BInv H L (rowO Ml) mx F ∧ ∀ room l : Int, 0 ≤ room → room < H.marks.length → 0 ≤ l → l < L → closedB H (rowO Ml) F room l := by
    obtain ⟨F, h⟩ := bwhile (B := 8 ^ (H.marks.length * mx)) k l6 l0 hM wM hmx (Nat.le_refl _) _ (fillF H H.marks.length) (Nat.le_refl _) fill_inv
    exact ⟨_, F, h⟩
  refine ⟨F, ?_, I, c⟩
  have w := sWhile_of (t := fun e => ((pV 4) e).bind dTruth) (ks := [3, 5, 6, 7]) (body := rows_from_rooms_b4) (e := envB H L Ml (fillF H H.marks.length) true .no) (o := .nx (envB H L Ml F false .no)) N (by rw [show kills [3, 5, 6, 7] (envB H L Ml (fillF H H.marks.length) true .no) = envB H L Ml (fillF H H.marks.length) true .no by simp [envB]]; exact h1) (by simp)
  have fl := fill_loop (Ml := Ml) k H.marks.length 0 (by omega)
  have f0 : (fillF H 0).map rowD = List.replicate H.marks.length (.v .non) := by
    unfold fillF
    rw [List.map_map]
    apply List.ext_getElem?
    intro i
    rw [List.getElem?_map, List.getElem?_replicate]
    by_cases q : i < H.marks.length
    · simp [List.getElem?_range q, q]
    · rw [List.getElem?_eq_none (by simp; omega), if_neg q]; rfl
  rw [f0, ← List.range_eq_range'] at fl
  rw [rows_from_rooms_d, fnD_e, from_start ix_house1 (by simp) n4 fl (e := envB H L Ml (fillF H H.marks.length) true .no) (by rw [envB]), w]
  simp [envB]
end K82

namespace K82
open PySem PySem.Spec PyProof.Rows L2 Gw
/-! ### calls_within -/
abbrev Call := Int × List Int × List Int
def callD (x : Call) : D := .tup [.v (.int x.1), .tup (x.2.1.map D.i), .tup (x.2.2.map D.i)]
def callAt (H : House) (p : Int) (Ml A B : List (Option (List Int))) (room l : Int) : Option Call := match rowO A room, rowO Ml l, rowO B (H.go room l) with
  | some a, some _, some b => some (l - p, a, b)
  | _, _, _ => none
def envC (H : House) (L p : Int) (Ml A B : List (Option (List Int))) (CL : List Call) (s6 : Sl) : En := [.fz (houseD L H), .fz (.v (.int p)), .fz (.lst (Ml.map rowD)), .own (.lst (A.map rowD)), .own (.lst (B.map rowD)), .own (.lst (CL.map callD)), s6, .no, .no]
theorem cw_turn {H : House} {L p room l : Int} {Ml A B : List (Option (List Int))} {CL : List Call} (k : H.ok L) (hA : A.length = H.marks.length) (hB : B.length = H.marks.length) (hM : (Ml.length : Int) = L) (r0 : 0 ≤ room) (r1 : room < H.marks.length) (l0 : 0 ≤ l) (l1 : l < L) (z : CL.length < 1000) :
    turn (nTg 7) [7, 8] calls_within_b1 (.v (.int l)) (envC H L p Ml A B CL (.fz (.v (.int room)))) = .nx (envC H L p Ml A B (CL ++ (callAt H p Ml A B room l).toList) (.fz (.v (.int room)))) := by
  have sl := sline
  obtain ⟨g1, g2, g3⟩ := dIx_go k r0 r1 l0 l1
  have w := dIx_way k r0 r1
  simp only [List.getD_eq_getElem?_getD] at g1 w
  have a1 := dAt_row (F := A) r0 (by omega)
  have a2 := dAt_row (F := Ml) l0 (by omega)
  have a3 := dAt_row (F := B) g2 (by omega)
  have z1 : CL.length < sizeLine := by omega
  unfold callAt
  cases ha : rowO A room with
  | none =>
    rw [ha] at a1
    simp [turn, envC, houseD, calls_within_b1, w, g1, a1, a2, a3]
  | some a =>
    rw [ha] at a1
    cases hm : rowO Ml l with
    | none =>
      rw [hm] at a2
      simp [turn, envC, houseD, calls_within_b1, w, g1, a1, a2, a3]
    | some m =>
      rw [hm] at a2
      cases hb : rowO B (H.go room l) with
      | none =>
        rw [hb] at a3
        simp [turn, envC, houseD, calls_within_b1, w, g1, a1, a2, a3]
      | some b =>
        rw [hb] at a3
        simp [turn, envC, houseD, calls_within_b1, w, g1, a1, a2, a3, z1, callD]
theorem cw_letters {H : House} {L p room : Int} {Ml A B : List (Option (List Int))} (k : H.ok L) (hA : A.length = H.marks.length) (hB : B.length = H.marks.length) (hM : (Ml.length : Int) = L) (r0 : 0 ≤ room) (r1 : room < H.marks.length) (p0 : 0 ≤ p) :
    ∀ (ls : List Nat) (CL : List Call), (∀ i ∈ ls, p + (i : Int) < L) → CL.length + ls.length < 1000 →
      forL (nTg 7) [7, 8] calls_within_b1 (ls.map fun (i : Nat) => D.i (p + (i : Int))) (envC H L p Ml A B CL (.fz (.v (.int room)))) = .nx (envC H L p Ml A B (CL ++ ls.flatMap fun (i : Nat) => (callAt H p Ml A B room (p + (i : Int))).toList) (.fz (.v (.int room))))
  | [], CL, _, _ => by simp [forL_nil]
  | i :: ls, CL, hl, hz => by
    simp at hz
    have st := cw_turn (CL := CL) (p := p) (A := A) (B := B) (Ml := Ml) k hA hB hM r0 r1 (l := p + (i : Int)) (by omega) (hl i (by simp)) (by omega)
    have ol : ((callAt H p Ml A B room (p + (i : Int))).toList).length ≤ 1 := by cases callAt H p Ml A B room (p + (i : Int)) <;> simp
    have ih := cw_letters k hA hB hM r0 r1 p0 ls (CL ++ (callAt H p Ml A B room (p + (i : Int))).toList) (fun j hj => hl j (by simp [hj])) (by rw [List.length_append]; omega)
    rw [List.map_cons, List.flatMap_cons, ← List.append_assoc]
    exact (forL_step st).trans ih
theorem cw_rooms {H : House} {L p : Int} {Ml A B : List (Option (List Int))} (k : H.ok L) (hA : A.length = H.marks.length) (hB : B.length = H.marks.length) (hM : (Ml.length : Int) = L) (p0 : 0 ≤ p) (pl : p ≤ L) (l6 : L ≤ 6) :
    ∀ (rs : List Nat) (CL : List Call), (∀ i ∈ rs, i < H.marks.length) → CL.length + 10 * rs.length < 900 →
      forL (nTg 6) [6, 7, 8] calls_within_b2 (rs.map fun (i : Nat) => D.i (i : Int)) (envC H L p Ml A B CL .no) = .nx (envC H L p Ml A B (CL ++ rs.flatMap fun (r : Nat) => (List.range (L - p).toNat).flatMap fun (i : Nat) => (callAt H p Ml A B (r : Int) (p + (i : Int))).toList) .no)
  | [], CL, _, _ => by simp [forL_nil]
  | r :: rs, CL, hr, hz => by
    simp at hz
    have r1 := hr r (by simp)
    have lt := cw_letters (room := (r : Int)) (Ml := Ml) (A := A) (B := B) k hA hB hM (by omega) (by omega) p0 (List.range (L - p).toNat) CL (fun i hi => by have := List.mem_range.mp hi; omega) (by simp; omega)
    have ln : ((List.range (L - p).toNat).flatMap fun (i : Nat) => (callAt H p Ml A B (r : Int) (p + (i : Int))).toList).length ≤ 10 := by
      have : ∀ l : List Nat, (l.flatMap fun (i : Nat) => (callAt H p Ml A B (r : Int) (p + (i : Int))).toList).length ≤ l.length := by
        intro l
        induction l with
        | nil => simp
        | cons i l ih =>
          rw [List.flatMap_cons, List.length_append, List.length_cons]
          have : ((callAt H p Ml A B (r : Int) (p + (i : Int))).toList).length ≤ 1 := by cases callAt H p Ml A B (r : Int) (p + (i : Int)) <;> simp
          omega
      have := this (List.range (L - p).toNat)
      rw [List.length_range] at this
      omega
    have ih := cw_rooms k hA hB hM p0 pl l6 rs (CL ++ (List.range (L - p).toNat).flatMap fun (i : Nat) => (callAt H p Ml A B (r : Int) (p + (i : Int))).toList) (fun i hi => hr i (by simp [hi])) (by rw [List.length_append]; omega)
    rw [List.map_cons, List.flatMap_cons, ← List.append_assoc]
    refine (forL_step ?_).trans ih
    have lb : (-4611686018427387904 : Int) ≤ p ∧ p < 4611686018427387904 ∧ (-4611686018427387904 : Int) ≤ L ∧ L < 4611686018427387904 := by omega
    simp [envC] at lt
    simp [turn, envC, calls_within_b2]
    simp [houseD] at lt ⊢
    simp [lb]
    rw [lt]
    simp
theorem cw_start {HD P Ms : D} {As Bs : List D} {n : Nat} (n4 : n ≤ 100) (h1 : rows_to_rooms_d [HD, Ms] = .ok (.lst As)) (h2 : rows_from_rooms_d [HD, Ms] = .ok (.lst Bs)) (hl : As.length = n) :
    calls_within_s (env0 9 [HD, P, Ms]) = (forL (nTg 6) [6, 7, 8] calls_within_b2 ((List.range n).map fun (i : Nat) => D.i (i : Int)) [.fz HD, .fz P, .fz Ms, .own (.lst As), .own (.lst Bs), .own (.lst []), .no, .no, .no]).then (sRet (gTake 5)) := by
  have lb : (-4611686018427387904 : Int) ≤ (n : Int) ∧ (n : Int) < 4611686018427387904 := by omega
  simp [calls_within_s, h1, h2, hl, lb]
theorem walk_app {H : House} {u v : List Int} {room : Int} : H.walk room (u ++ v) = H.walk (H.walk room u) v := by unfold House.walk; rw [List.foldl_append]
theorem within_ok {p : Int} {Hs : List House} {R : List (Option (List Int))} {k : Int} (p1 : 1 ≤ p) (h3 : Hs.length ≤ 3) (ph : p + Hs.length ≤ 6) (hk : ∀ H ∈ Hs, H.ok (p + Hs.length)) (T : Told p Hs R) (k0 : 0 ≤ k) (k1 : k < Hs.length) :
    ∃ CL : List Call, calls_within_d [houseD (p + Hs.length) (hsAt Hs k), .v (.int p), .lst ((madeL p R (p.toNat + R.length)).map rowD)] = .ok (.lst (CL.map callD)) ∧
      (∀ x ∈ CL, Edge p Hs R k x.1 ∧ (∃ w1 w2, (∀ l ∈ w1, 0 ≤ l ∧ l < p + Hs.length) ∧ (∀ l ∈ w2, 0 ≤ l ∧ l < p + Hs.length) ∧ cat (mk p Hs.length R) w1 = some x.2.1 ∧ cat (mk p Hs.length R) w2 = some x.2.2 ∧ (hsAt Hs k).mark ((hsAt Hs k).walk 0 (w1 ++ (p + x.1) :: w2)) ≠ 0) ∧ x.2.1.length ≤ 320 ∧ x.2.2.length ≤ 320) ∧
      ∀ c, Edge p Hs R k c → ∃ a b, (c, a, b) ∈ CL := by
  have kl : k.toNat < Hs.length := by omega
  have eH : hsAt Hs k = Hs[k.toNat] := by simp [hsAt, kl]
  have kk : (hsAt Hs k).ok (p + Hs.length) := by rw [eH]; exact hk _ (List.getElem_mem kl)
  have il := T.len
  have ml : ((madeL p R (p.toNat + R.length)).length : Int) = p + Hs.length := by rw [madeL_len]; omega
  have mrow : ∀ l : Int, 0 ≤ l → l < p + Hs.length → rowO (madeL p R (p.toNat + R.length)) l = mk p Hs.length R l := fun l a b => by rw [madeL_row a (by omega), il]
  have wM : ∀ r, some r ∈ madeL p R (p.toNat + R.length) → wok r ∧ r.length ≤ 80 := by
    intro r hr
    obtain ⟨l, l0, l1, e⟩ := mem_rowO hr
    rw [ml] at l1
    rw [mrow l l0 l1] at e
    unfold mk at e
    split at e
    · next q =>
      cases ho : rowO R (l - p) with
      | none => rw [ho] at e; cases e
      | some s =>
        rw [ho] at e
        have e : some (l :: (s ++ [p + (Hs.length : Int)])) = some r := e
        cases e
        have ws := T.wok _ s (by omega) ho
        have ls := T.short _ s (by omega) ho
        refine ⟨fun d hd => ?_, by simp; omega⟩
        rcases List.mem_cons.mp hd with rfl | hd
        · omega
        · rcases List.mem_append.mp hd with hd | hd
          · exact ws d hd
          · rw [List.mem_singleton.mp hd]; omega
    · cases e
      refine ⟨fun d hd => ?_, by simp⟩
      rw [List.mem_singleton.mp hd]; omega
  obtain ⟨A, a1, IA, cA⟩ := rooms_ok kk (by omega) (by omega) ml wM (by omega)
  obtain ⟨B, b1, IB, cB⟩ := from_ok kk (by omega) (by omega) ml wM (by omega)
  have cc : ∀ w : List Int, (∀ l ∈ w, 0 ≤ l ∧ l < p + Hs.length) → cat (rowO (madeL p R (p.toNat + R.length))) w = cat (mk p Hs.length R) w := fun w hw => cat_congr fun l hl' => mrow l (hw l hl').1 (hw l hl').2
  have lp := cw_rooms (p := p) (Ml := madeL p R (p.toNat + R.length)) (A := A) (B := B) kk IA.len IB.len ml (by omega) (by omega) ph (List.range A.length) [] (fun i hi => by have := List.mem_range.mp hi; rw [IA.len] at this; exact this) (by have := kk.le; have := IA.len; simp; omega)
  rw [List.nil_append] at lp
  obtain ⟨CL, hCL⟩ : ∃ CL : List Call, CL = (List.range A.length).flatMap fun (r : Nat) => (List.range (p + (Hs.length : Int) - p).toNat).flatMap fun (i : Nat) => (callAt (hsAt Hs k) p (madeL p R (p.toNat + R.length)) A B (r : Int) (p + (i : Int))).toList := ⟨_, rfl⟩
  rw [← hCL] at lp
  refine ⟨CL, ?_, ?_, ?_⟩
  · rw [calls_within_d, fnD_e, cw_start (n := A.length) (by have := kk.le; have := IA.len; omega) a1 b1 (by simp)]
    simp only [envC, List.map_nil] at lp
    rw [lp]
    simp
  · intro x hx
    rw [hCL] at hx
    obtain ⟨r, hr, hx⟩ := List.mem_flatMap.mp hx
    obtain ⟨i, hi, hx⟩ := List.mem_flatMap.mp hx
    have hr := List.mem_range.mp hr
    have hi := List.mem_range.mp hi
    have hr1 : (r : Int) < (hsAt Hs k).marks.length := by have := IA.len; omega
    have hx : callAt (hsAt Hs k) p (madeL p R (p.toNat + R.length)) A B (r : Int) (p + (i : Int)) = some x := Option.mem_toList.mp hx
    obtain ⟨_, g2, g3⟩ := dIx_go kk (room := (r : Int)) (l := p + (i : Int)) (by omega) hr1 (by omega) (by omega)
    unfold callAt at hx
    cases ha : rowO A (r : Int) with
    | none => rw [ha] at hx; cases hx
    | some a =>
      cases hm : rowO (madeL p R (p.toNat + R.length)) (p + (i : Int)) with
      | none => rw [ha, hm] at hx; cases hx
      | some m =>
        cases hb : rowO B ((hsAt Hs k).go (r : Int) (p + (i : Int))) with
        | none => rw [ha, hm, hb] at hx; cases hx
        | some b =>
          rw [ha, hm, hb] at hx
          have hx : some (p + (i : Int) - p, a, b) = some x := hx
          cases hx
          obtain ⟨w1, u1, u2, u3⟩ := IA.real (r : Int) a (by omega) ha
          obtain ⟨w2, v1, v2, v3⟩ := IB.real _ b g2 hb
          rw [cc w1 u1] at u2
          rw [cc w2 v1] at v2
          rw [mrow _ (by omega) (by omega)] at hm
          have mk' : (hsAt Hs k).mark ((hsAt Hs k).walk 0 (w1 ++ (p + (i : Int)) :: w2)) ≠ 0 := by
            rw [walk_app, u3]; exact v3
          have e : p + (i : Int) - p = i := by omega
          have rc : ∃ s, rowO R (i : Int) = some s := by
            unfold mk at hm
            rw [if_pos (by omega), e] at hm
            cases ho : rowO R (i : Int) with
            | none => rw [ho] at hm; cases hm
            | some s => exact ⟨s, rfl⟩
          have mA : some a ∈ A := rowO_mem (by omega) ha
          have mB : some b ∈ B := rowO_mem g2 hb
          have sA := IA.short a mA
          have sB := IB.short b mB
          have fA := List.length_filter_le (fun o : Option (List Int) => o.isSome) A
          have fB := List.length_filter_le (fun o : Option (List Int) => o.isSome) B
          rw [IA.len] at fA
          rw [IB.len] at fB
          have k4 := kk.le
          simp only [e]
          refine ⟨⟨by omega, by omega, rc, w1, w2, lt_cat u1 u2, lt_cat v1 v2, mk'⟩, ⟨w1, w2, u1, v1, u2, v2, mk'⟩, ?_, ?_⟩
          · have : (A.filter fun o => o.isSome).length * 80 ≤ 4 * 80 := Nat.mul_le_mul_right _ (by omega)
            show a.length ≤ 320
            omega
          · have : (B.filter fun o => o.isSome).length * 80 ≤ 4 * 80 := Nat.mul_le_mul_right _ (by omega)
            show b.length ≤ 320
            omega
  · rintro c ⟨c0, c1, ⟨rc, hrc⟩, w1, w2, h1, h2, hm⟩
    have l1 : ∀ l ∈ w1, 0 ≤ l ∧ l < p + Hs.length := fun l hl => ⟨(h1 l hl).1, (h1 l hl).2.1⟩
    have l2 : ∀ l ∈ w2, 0 ≤ l ∧ l < p + Hs.length := fun l hl => ⟨(h2 l hl).1, (h2 l hl).2.1⟩
    obtain ⟨r1, e1⟩ := cat_lt h1
    obtain ⟨r2, e2⟩ := cat_lt h2
    rw [← cc w1 l1] at e1
    rw [← cc w2 l2] at e2
    obtain ⟨a, ha, _⟩ := closed_least kk IA cA w1.length w1 r1 rfl l1 e1
    have p0 : (0 : Int) < (hsAt Hs k).marks.length := by have := kk.pos; omega
    have wi := walk_in kk w1 0 (by decide) p0 l1
    obtain ⟨_, g2, g3⟩ := dIx_go kk (l := p + c) wi.1 wi.2 (by omega) (by omega)
    rw [walk_app] at hm
    obtain ⟨b, hb⟩ := closedB_all kk IB cB w2 _ r2 g2 g3 l2 e2 hm
    have hmk : rowO (madeL p R (p.toNat + R.length)) (p + c) = some ((p + c) :: (rc ++ [p + (Hs.length : Int)])) := by
      rw [mrow _ (by omega) (by omega)]
      unfold mk
      rw [if_pos (by omega), show p + c - p = c by omega, hrc]; rfl
    refine ⟨a, b, ?_⟩
    rw [hCL]
    refine List.mem_flatMap.mpr ⟨((hsAt Hs k).walk 0 w1).toNat, List.mem_range.mpr (by have := IA.len; omega), List.mem_flatMap.mpr ⟨c.toNat, List.mem_range.mpr (by omega), Option.mem_toList.mpr ?_⟩⟩
    have ew : ((((hsAt Hs k).walk 0 w1).toNat : Nat) : Int) = (hsAt Hs k).walk 0 w1 := by omega
    have ec : ((c.toNat : Nat) : Int) = c := by omega
    rw [ew, ec]
    unfold callAt
    rw [ha, hmk, hb, show p + c - p = c by omega]
end K82

namespace K82
open PySem PySem.Spec PyProof.Rows L2 Gw
/-! ### uses_of -/
abbrev Use := List Int × List Int × List Int
def optAt {α : Type} (U : List (Option α)) (j : Int) : Option α := (U[j.toNat]?).join
theorem optAt_get {α : Type} {U : List (Option α)} {j : Int} (j0 : 0 ≤ j) (j1 : j < U.length) : U[j.toNat]? = some (optAt U j) := by
  unfold optAt
  have : j.toNat < U.length := by omega
  simp [this]
theorem optAt_set {α : Type} {U : List (Option α)} {i j : Int} {o : Option α} (i0 : 0 ≤ i) (j0 : 0 ≤ j) (hi : i < U.length) : optAt (U.set i.toNat o) j = if j = i then o else optAt U j := by
  unfold optAt
  by_cases h : j = i
  · subst h
    rw [if_pos rfl, List.getElem?_set_self (by omega)]
    rfl
  · rw [if_neg h, List.getElem?_set_ne (by omega)]
theorem optAt_lt {α : Type} {U : List (Option α)} {j : Int} {u : α} (j0 : 0 ≤ j) (h : optAt U j = some u) : j < U.length := by
  unfold optAt at h
  rcases Int.lt_or_le j U.length with q | q
  · exact q
  · rw [List.getElem?_eq_none (by omega)] at h
    cases h
def cntO {α : Type} (U : List (Option α)) : Nat := (U.map fun o => if o.isSome then 1 else 0).sum
theorem cntO_le {α : Type} : ∀ {U : List (Option α)}, cntO U ≤ U.length
  | [] => by simp [cntO]
  | a :: U => by
    have := cntO_le (U := U)
    unfold cntO at this ⊢
    simp only [List.map_cons, List.sum_cons, List.length_cons]
    split <;> omega
theorem cntO_set {α : Type} {x : α} : ∀ {U : List (Option α)} {k : Nat}, U[k]? = some none → cntO (U.set k (some x)) = cntO U + 1
  | [], k, h => by simp at h
  | a :: U, 0, h => by
    have : a = none := by simpa using h
    subst this
    simp [cntO]; omega
  | a :: U, k + 1, h => by
    have := cntO_set (x := x) (U := U) (k := k) (by simpa using h)
    unfold cntO at this ⊢
    simp only [List.set_cons_succ, List.map_cons, List.sum_cons]
    omega
def useD : Option Use → D
  | some u => .tup [.tup (u.1.map D.i), .tup (u.2.1.map D.i), .tup (u.2.2.map D.i)]
  | none => .v .non
@[simp] theorem imm_useD {o : Option Use} : imm (useD o) = true := by cases o <;> simp [useD]
theorem dAt_use {U : List (Option Use)} {j : Int} (j0 : 0 ≤ j) (j1 : j < U.length) : dAt (U.map useD) j = .ok (useD (optAt U j)) := by
  refine dAt_of j0 ?_
  rw [List.getElem?_map, optAt_get j0 j1]
  rfl
def envU (W : D) (p : Int) (Hd : List D) (R Ml : List (Option (List Int))) (U : List (Option Use)) (Wt : List Int) (k : Int) (s8 s9 s10 : Sl) : En :=
  [.fz W, .fz (.v (.int p)), .fz (.tup Hd), .own (.lst (R.map rowD)), .own (.lst (Ml.map rowD)), .own (.lst (U.map useD)), .own (.lst (Wt.map D.i)), .own (.v (.int k)), s8, s9, s10, .no, .no, .no]
def stepU (R : List (Option (List Int))) (a b : List Int) (st : List (Option Use) × List Int) (x : Call) : List (Option Use) × List Int :=
  if optAt st.1 x.1 = none then (st.1.set x.1.toNat (some (a ++ x.2.1, (rowO R x.1).getD [], x.2.2 ++ b)), st.2 ++ [x.1]) else st
theorem u_turn {W : D} {p k : Int} {Hd : List D} {R Ml : List (Option (List Int))} {U : List (Option Use)} {Wt a b r : List Int} {s8 s9 s10 : Sl} {x : Call} (h8 : (s8 = .own (.tup (a.map D.i)) ∧ s10 = .own (.tup (b.map D.i))) ∨ (s8 = .fz (.tup (a.map D.i)) ∧ s10 = .fz (.tup (b.map D.i))))
    (c0 : 0 ≤ x.1) (c1 : x.1 < U.length) (hR : U.length = R.length) (hr : rowO R x.1 = some r) (z1 : a.length + x.2.1.length < 100000) (z2 : x.2.2.length + b.length < 100000) (z3 : Wt.length < 1000) :
    turn (nTup (nsCons (nTg 11) (nsCons (nTg 12) (nsCons (nTg 13) nsNil)))) [11, 12, 13] uses_of_b1 (callD x) (envU W p Hd R Ml U Wt k s8 s9 s10) = .nx (envU W p Hd R Ml (stepU R a b (U, Wt) x).1 (stepU R a b (U, Wt) x).2 k s8 s9 s10) := by
  have sl := sline
  obtain ⟨c, hd, tl⟩ := x
  simp only at c0 c1 hr z1 z2
  have du := dAt_use (U := U) c0 c1
  have dr := dAt_row (F := R) c0 (by omega)
  rw [hr, rowD_some] at dr
  have y1 : a.length + hd.length ≤ sizeLine := by omega
  have y2 : tl.length + b.length ≤ sizeLine := by omega
  have y3 : Wt.length < sizeLine := by omega
  have ix : ixN U.length c = some c.toNat := ixN_of c0 c1
  have ix2 : c.toNat < U.length := by omega
  unfold stepU
  simp only
  cases ho : optAt U c with
  | some u =>
    rw [ho] at du
    simp [useD] at du
    rcases h8 with ⟨rfl, rfl⟩ | ⟨rfl, rfl⟩ <;> simp [turn, envU, uses_of_b1, callD, du]
  | none =>
    rw [ho] at du
    simp [useD] at du
    rcases h8 with ⟨rfl, rfl⟩ | ⟨rfl, rfl⟩ <;> simp [turn, envU, uses_of_b1, callD, du, dr, y1, y2, y3, ix, ix2, hr, List.map_set, useD]
def headOf (p j : Int) (u : Use) : List Int := if 0 < j then u.1 ++ [p + j] else u.1
def tailOf (p : Int) (h : Nat) (j : Int) (u : Use) : List Int := if 0 < j then [p + (h : Int)] ++ u.2.2 else u.2.2
structure UseOk (p : Int) (Hs : List House) (R : List (Option (List Int))) (j : Int) (u : Use) : Prop where
  used : Used p Hs R j
  row : rowO R j = some u.2.1
  zero : j = 0 → u.1 = [] ∧ u.2.2 = []
  ctx : CtxOk p Hs j (headOf p j u) (tailOf p Hs.length j u)
structure UInv (p : Int) (Hs : List House) (R : List (Option (List Int))) (U : List (Option Use)) (Wt : List Int) : Prop where
  len : U.length = Hs.length
  zero : ∃ u, optAt U 0 = some u
  snd : ∀ j u, 0 ≤ j → optAt U j = some u → UseOk p Hs R j u
  small : ∀ j u, 0 ≤ j → optAt U j = some u → u.1.length + 321 ≤ 321 * cntO U ∧ u.2.2.length + 321 ≤ 321 * cntO U
  nd : Wt.Nodup
  wt : ∀ j ∈ Wt, 0 ≤ j ∧ j < Hs.length ∧ ∃ u, optAt U j = some u
theorem u_step {p : Int} {Hs : List House} {R : List (Option (List Int))} {U : List (Option Use)} {Wt a b : List Int} {k : Int} {x : Call} (p1 : 1 ≤ p) (h3 : Hs.length ≤ 3) (T : Told p Hs R) (I : UInv p Hs R U Wt) (uk : Used p Hs R k) (C : CtxOk p Hs k a b)
    (la : a.length + 320 ≤ 321 * cntO U) (lb : b.length + 320 ≤ 321 * cntO U)
    (ex : Edge p Hs R k x.1 ∧ (∃ w1 w2, (∀ l ∈ w1, 0 ≤ l ∧ l < p + Hs.length) ∧ (∀ l ∈ w2, 0 ≤ l ∧ l < p + Hs.length) ∧ cat (mk p Hs.length R) w1 = some x.2.1 ∧ cat (mk p Hs.length R) w2 = some x.2.2 ∧ (hsAt Hs k).mark ((hsAt Hs k).walk 0 (w1 ++ (p + x.1) :: w2)) ≠ 0) ∧ x.2.1.length ≤ 320 ∧ x.2.2.length ≤ 320) :
    UInv p Hs R (stepU R a b (U, Wt) x).1 (stepU R a b (U, Wt) x).2 ∧ (∀ j u, 0 ≤ j → optAt U j = some u → optAt (stepU R a b (U, Wt) x).1 j = some u) ∧ (∃ u, optAt (stepU R a b (U, Wt) x).1 x.1 = some u) ∧ (∀ j ∈ Wt, j ∈ (stepU R a b (U, Wt) x).2) ∧
      (∀ j u, 0 ≤ j → optAt (stepU R a b (U, Wt) x).1 j = some u → (∃ u, optAt U j = some u) ∨ j ∈ (stepU R a b (U, Wt) x).2) ∧ (∀ j ∈ (stepU R a b (U, Wt) x).2, j ∈ Wt ∨ optAt U j = none) ∧ cntO U ≤ cntO (stepU R a b (U, Wt) x).1 ∧ cntO (stepU R a b (U, Wt) x).1 + Wt.length = cntO U + (stepU R a b (U, Wt) x).2.length := by
  obtain ⟨ed, ⟨w1, w2, u1, u2, e1, e2, hm⟩, l1, l2⟩ := ex
  obtain ⟨c, hd, tl⟩ := x
  have c0 : 0 ≤ c := ed.1
  have c1 : c < Hs.length := ed.2.1
  obtain ⟨rc, hrc⟩ := ed.2.2.1
  simp only at e1 e2 hm l1 l2 hrc
  have cu : c < U.length := by rw [I.len]; exact c1
  unfold stepU
  simp only
  by_cases q : optAt U c = none
  · rw [if_pos q, hrc]
    simp only [Option.getD_some]
    have gs : ∀ j : Int, 0 ≤ j → optAt (U.set c.toNat (some (a ++ hd, rc, tl ++ b))) j = if j = c then some (a ++ hd, rc, tl ++ b) else optAt U j := fun j j0 => optAt_set c0 j0 cu
    have cn : cntO (U.set c.toNat (some (a ++ hd, rc, tl ++ b))) = cntO U + 1 := cntO_set (by rw [optAt_get c0 cu, q])
    have cz : c ≠ 0 := fun z => by
      obtain ⟨u, hu⟩ := I.zero
      rw [z, hu] at q; cases q
    have nw : c ∉ Wt := fun z => by
      obtain ⟨_, _, u, hu⟩ := I.wt c z
      rw [q] at hu; cases hu
    have ctx := ctx_step T.ok p1 C c0 c1 u1 u2 e1 e2 hm
    refine ⟨⟨by rw [List.length_set, I.len], ?_, fun j u j0 hu => ?_, fun j u j0 hu => ?_, ?_, fun j hj => ?_⟩, fun j u j0 hu => ?_, ?_, fun j hj => by simp [hj], fun j u j0 hu => ?_, fun j hj => ?_, by rw [cn]; omega, by rw [cn, List.length_append]; simp; omega⟩
    · obtain ⟨u, hu⟩ := I.zero
      exact ⟨u, by rw [gs 0 (by omega), if_neg (by omega)]; exact hu⟩
    · rw [gs j j0] at hu
      split at hu
      · next e =>
        subst e
        cases hu
        refine ⟨.step uk ed, hrc, fun z => absurd z cz, ?_⟩
        unfold headOf tailOf
        rw [if_pos (by omega), if_pos (by omega)]
        simp only [List.append_assoc] at ctx ⊢
        exact ctx
      · exact I.snd j u j0 hu
    · rw [gs j j0] at hu
      rw [cn]
      split at hu
      · cases hu
        simp only [List.length_append]
        omega
      · have := I.small j u j0 hu; omega
    · rw [List.nodup_append]
      refine ⟨I.nd, by simp, fun a ha b hb => ?_⟩
      rw [List.mem_singleton.mp hb]
      exact fun e => nw (e ▸ ha)
    · rcases List.mem_append.mp hj with hj | hj
      · obtain ⟨a0, a1, u, hu⟩ := I.wt j hj
        refine ⟨a0, a1, ?_⟩
        rw [gs j a0]
        split
        · exact ⟨_, rfl⟩
        · exact ⟨u, hu⟩
      · rw [List.mem_singleton.mp hj]
        exact ⟨c0, c1, _, by rw [gs c c0, if_pos rfl]⟩
    · rw [gs j j0, if_neg (fun e => by rw [e, q] at hu; cases hu)]; exact hu
    · exact ⟨_, by rw [gs c c0, if_pos rfl]⟩
    · rw [gs j j0] at hu
      split at hu
      · next e => exact .inr (by simp [e])
      · exact .inl ⟨u, hu⟩
    · rcases List.mem_append.mp hj with hj | hj
      · exact .inl hj
      · rw [List.mem_singleton.mp hj]; exact .inr q
  · rw [if_neg q]
    refine ⟨I, fun j u _ hu => hu, ?_, fun j hj => hj, fun j u _ hu => .inl ⟨u, hu⟩, fun j hj => .inl hj, Nat.le_refl _, rfl⟩
    cases ho : optAt U c with
    | none => exact absurd ho q
    | some u => exact ⟨u, rfl⟩
theorem u_calls {W : D} {p k : Int} {Hd : List D} {Hs : List House} {R Ml : List (Option (List Int))} {a b : List Int} {s8 s9 s10 : Sl} (p1 : 1 ≤ p) (h3 : Hs.length ≤ 3) (T : Told p Hs R) (uk : Used p Hs R k) (C : CtxOk p Hs k a b) (h8 : (s8 = .own (.tup (a.map D.i)) ∧ s10 = .own (.tup (b.map D.i))) ∨ (s8 = .fz (.tup (a.map D.i)) ∧ s10 = .fz (.tup (b.map D.i)))) :
    ∀ (CL : List Call) (U : List (Option Use)) (Wt : List Int), UInv p Hs R U Wt → a.length + 320 ≤ 321 * cntO U → b.length + 320 ≤ 321 * cntO U →
      (∀ x ∈ CL, Edge p Hs R k x.1 ∧ (∃ w1 w2, (∀ l ∈ w1, 0 ≤ l ∧ l < p + Hs.length) ∧ (∀ l ∈ w2, 0 ≤ l ∧ l < p + Hs.length) ∧ cat (mk p Hs.length R) w1 = some x.2.1 ∧ cat (mk p Hs.length R) w2 = some x.2.2 ∧ (hsAt Hs k).mark ((hsAt Hs k).walk 0 (w1 ++ (p + x.1) :: w2)) ≠ 0) ∧ x.2.1.length ≤ 320 ∧ x.2.2.length ≤ 320) →
      ∃ U' Wt', forL (nTup (nsCons (nTg 11) (nsCons (nTg 12) (nsCons (nTg 13) nsNil)))) [11, 12, 13] uses_of_b1 (CL.map callD) (envU W p Hd R Ml U Wt k s8 s9 s10) = .nx (envU W p Hd R Ml U' Wt' k s8 s9 s10) ∧ UInv p Hs R U' Wt' ∧ (∀ j u, 0 ≤ j → optAt U j = some u → optAt U' j = some u) ∧ (∀ x ∈ CL, ∃ u, optAt U' x.1 = some u) ∧ (∀ j ∈ Wt, j ∈ Wt') ∧
        (∀ j u, 0 ≤ j → optAt U' j = some u → (∃ u, optAt U j = some u) ∨ j ∈ Wt') ∧ (∀ j ∈ Wt', j ∈ Wt ∨ optAt U j = none) ∧ cntO U' + Wt.length = cntO U + Wt'.length
  | [], U, Wt, I, _, _, _ => ⟨U, Wt, by simp [forL_nil], I, fun _ _ _ h => h, fun x hx => (by cases hx), fun _ h => h, fun j u _ h => .inl ⟨u, h⟩, fun j h => .inl h, rfl⟩
  | x :: CL, U, Wt, I, la, lb, hx => by
    have ex := hx x (by simp)
    have c0 : 0 ≤ x.1 := ex.1.1
    have c1 : x.1 < Hs.length := ex.1.2.1
    obtain ⟨rc, hrc⟩ := ex.1.2.2.1
    have cl := cntO_le (U := U)
    have il := I.len
    have wl : Wt.length < 1000 := by
      have := nodup_le Hs.length Wt I.nd fun j hj => ⟨(I.wt j hj).1, (I.wt j hj).2.1⟩
      omega
    have st := u_turn (W := W) (p := p) (k := k) (Hd := Hd) (Ml := Ml) (s9 := s9) (x := x) (U := U) (Wt := Wt) (R := R) h8 c0 (by rw [il]; exact c1) (by rw [il, T.len]) hrc (by have := ex.2.2.1; omega) (by have := ex.2.2.2; omega) wl
    obtain ⟨I', k1, k2, k3, k4, k5, k6, k7⟩ := u_step p1 h3 T I uk C la lb ex
    generalize stepU R a b (U, Wt) x = V at *
    obtain ⟨U1, W1⟩ := V
    simp only at st I' k1 k2 k3 k4 k5 k6 k7
    obtain ⟨U', Wt', e, I2, m1, m2, m3, m4, m5, m6⟩ := u_calls (W := W) (Hd := Hd) (Ml := Ml) (s9 := s9) p1 h3 T uk C h8 CL U1 W1 I' (by omega) (by omega) (fun y hy => hx y (by simp [hy]))
    refine ⟨U', Wt', ?_, I2, fun j u j0 hu => m1 j u j0 (k1 j u j0 hu), fun y hy => ?_, fun j hj => m3 j (k3 j hj), fun j u j0 hu => ?_, fun j hj => ?_, by omega⟩
    · rw [List.map_cons]; exact (forL_step st).trans e
    · rcases List.mem_cons.mp hy with rfl | hy
      · obtain ⟨u, hu⟩ := k2
        exact ⟨u, m1 _ u c0 hu⟩
      · exact m2 y hy
    · rcases m4 j u j0 hu with ⟨u', hu'⟩ | h
      · rcases k4 j u' j0 hu' with h | h
        · exact .inl h
        · exact .inr (m3 j h)
      · exact .inr h
    · rcases m5 j hj with h | h
      · exact k5 j h
      · refine .inr ?_
        cases ho : optAt U j with
        | none => rfl
        | some u => rw [k1 j u ((I2.wt j hj).1) ho] at h; cases h
end K82

namespace K82
open PySem PySem.Spec PyProof.Rows L2 Gw
theorem fxPopAt_0 {d : D} {ds : List D} : fxPopAt (d :: ds) [.v (.int 0)] = some (d, ds) := by
  unfold fxPopAt seqIndex?
  simp
def envV (W : D) (p : Int) (Hd : List D) (R Ml : List (Option (List Int))) (U : List (Option Use)) (Wt : List Int) : En :=
  [.fz W, .fz (.v (.int p)), .fz (.tup Hd), .own (.lst (R.map rowD)), .own (.lst (Ml.map rowD)), .own (.lst (U.map useD)), .own (.lst (Wt.map D.i)), .no, .no, .no, .no, .no, .no, .no]
theorem ub_1 {W : D} {p k : Int} {Hd : List D} {R Ml : List (Option (List Int))} {U : List (Option Use)} {Wt : List Int} :
    sSet 7 (gM (lVar 6) fxPopAt (aCons (pC (.int 0)) aNil)) (envV W p Hd R Ml U (k :: Wt)) = .nx [.fz W, .fz (.v (.int p)), .fz (.tup Hd), .own (.lst (R.map rowD)), .own (.lst (Ml.map rowD)), .own (.lst (U.map useD)), .own (.lst (Wt.map D.i)), .own (.v (.int k)), .no, .no, .no, .no, .no, .no] := by
  simp [envV, fxPopAt_0]
theorem ub_2 {W : D} {p k : Int} {Hd : List D} {R Ml : List (Option (List Int))} {U : List (Option Use)} {Wt : List Int} {u : Use} (k0 : 0 ≤ k) (k1 : k < U.length) (hu : optAt U k = some u) :
    sUn (nTup (nsCons (nTg 8) (nsCons (nTg 9) (nsCons (nTg 10) nsNil)))) (pImm (p2 dIx (pV 5) (pV 7))) [.fz W, .fz (.v (.int p)), .fz (.tup Hd), .own (.lst (R.map rowD)), .own (.lst (Ml.map rowD)), .own (.lst (U.map useD)), .own (.lst (Wt.map D.i)), .own (.v (.int k)), .no, .no, .no, .no, .no, .no]
      = .nx (envU W p Hd R Ml U Wt k (.fz (.tup (u.1.map D.i))) (.fz (.tup (u.2.1.map D.i))) (.fz (.tup (u.2.2.map D.i)))) := by
  have du := dAt_use (U := U) k0 k1
  rw [hu] at du
  simp [useD] at du
  simp [envU, du]
theorem ub_3 {W : D} {p k : Int} {Hd : List D} {n : Nat} {R Ml : List (Option (List Int))} {U : List (Option Use)} {Wt : List Int} {u : Use} (hn : Hd.length = n) (z1 : u.1.length < 100000) (z2 : u.2.2.length < 100000) :
    ∃ s8 s10, sIf (qB (p2 dGt (pV 7) (pC (.int 0)))) (sSeq (sSet 8 (gL (p2 dAdd (pV 8) (pTup (aCons (p2 dAdd (pV 1) (pV 7)) aNil))))) (sSet 10 (gL (p2 dAdd (pTup (aCons (p2 dAdd (pV 1) (pCall bLen (aCons (pV 2) aNil))) aNil)) (pV 10))))) sNil (envU W p Hd R Ml U Wt k (.fz (.tup (u.1.map D.i))) (.fz (.tup (u.2.1.map D.i))) (.fz (.tup (u.2.2.map D.i))))
      = .nx (envU W p Hd R Ml U Wt k s8 (.fz (.tup (u.2.1.map D.i))) s10) ∧ ((s8 = .own (.tup ((headOf p k u).map D.i)) ∧ s10 = .own (.tup ((tailOf p n k u).map D.i))) ∨ (s8 = .fz (.tup ((headOf p k u).map D.i)) ∧ s10 = .fz (.tup ((tailOf p n k u).map D.i)))) := by
  have sl := sline
  have y1 : u.1.length + 1 ≤ sizeLine := by omega
  have y2 : 1 + u.2.2.length ≤ sizeLine := by omega
  have y3 : u.2.2.length + 1 ≤ sizeLine := by omega
  unfold headOf tailOf
  by_cases q : 0 < k
  · refine ⟨_, _, ?_, .inl ⟨rfl, rfl⟩⟩
    simp [envU, q, y1, y2, y3, hn]
  · refine ⟨_, _, ?_, .inr ⟨rfl, rfl⟩⟩
    simp [envU, q]
theorem ub_4 {W HD : D} {p k : Int} {Hd : List D} {R Ml : List (Option (List Int))} {U : List (Option Use)} {Wt : List Int} {s8 s9 s10 : Sl} {CL : List Call} (hh : dAt Hd k = .ok HD) (hc : calls_within_d [HD, .v (.int p), .lst (Ml.map rowD)] = .ok (.lst (CL.map callD))) :
    sFor (nTup (nsCons (nTg 11) (nsCons (nTg 12) (nsCons (nTg 13) nsNil)))) [11, 12, 13] (pCall calls_within_d (aCons (p2 dIx (pV 2) (pV 7)) (aCons (pV 1) (aCons (pV 4) aNil)))) uses_of_b1 (envU W p Hd R Ml U Wt k s8 s9 s10)
      = forL (nTup (nsCons (nTg 11) (nsCons (nTg 12) (nsCons (nTg 13) nsNil)))) [11, 12, 13] uses_of_b1 (CL.map callD) (envU W p Hd R Ml U Wt k s8 s9 s10) := by
  simp [envU, hh, hc]
def ClosedU (p : Int) (Hs : List House) (R : List (Option (List Int))) (U : List (Option Use)) (Wt : List Int) : Prop := ∀ k u, 0 ≤ k → optAt U k = some u → k ∉ Wt → ∀ c, Edge p Hs R k c → ∃ u, optAt U c = some u
theorem u_body {W : D} {p k : Int} {Hs : List House} {R : List (Option (List Int))} {U : List (Option Use)} {Wt : List Int} (p1 : 1 ≤ p) (h3 : Hs.length ≤ 3) (ph : p + Hs.length ≤ 6) (hk : ∀ H ∈ Hs, H.ok (p + Hs.length)) (T : Told p Hs R) (I : UInv p Hs R U (k :: Wt)) (C : ClosedU p Hs R U (k :: Wt)) :
    ∃ U' Wt' s8 s9 s10, uses_of_b2 (envV W p (Hs.map (houseD (p + Hs.length))) R (madeL p R (p.toNat + R.length)) U (k :: Wt)) = .nx (envU W p (Hs.map (houseD (p + Hs.length))) R (madeL p R (p.toNat + R.length)) U' Wt' k s8 s9 s10) ∧ UInv p Hs R U' Wt' ∧ ClosedU p Hs R U' Wt' ∧ cntO U' + Wt.length = cntO U + Wt'.length := by
  obtain ⟨k0, k1, u, hu⟩ := I.wt k (by simp)
  have ku : k < U.length := by rw [I.len]; exact k1
  have I1 : UInv p Hs R U Wt := ⟨I.len, I.zero, I.snd, I.small, (List.nodup_cons.mp I.nd).2, fun j hj => I.wt j (by simp [hj])⟩
  have ok := I.snd k u k0 hu
  have sm := I.small k u k0 hu
  have cl := cntO_le (U := U)
  have il := I.len
  obtain ⟨CL, c1, c2, c3⟩ := within_ok p1 h3 ph hk T k0 k1
  have kl : k.toNat < Hs.length := by omega
  have eH : hsAt Hs k = Hs[k.toNat] := by simp [hsAt, kl]
  have hj : dAt (Hs.map (houseD (p + Hs.length))) k = .ok (houseD (p + Hs.length) (hsAt Hs k)) := dAt_of k0 (by rw [eH]; simp [kl])
  obtain ⟨s8, s10, b3, h8⟩ := ub_3 (W := W) (p := p) (k := k) (Hd := Hs.map (houseD (p + Hs.length))) (n := Hs.length) (R := R) (Ml := madeL p R (p.toNat + R.length)) (U := U) (Wt := Wt) (u := u) (by simp) (by omega) (by omega)
  have lh : (headOf p k u).length ≤ u.1.length + 1 := by unfold headOf; split <;> simp
  have lt : (tailOf p Hs.length k u).length ≤ u.2.2.length + 1 := by unfold tailOf; split <;> simp <;> omega
  obtain ⟨U', Wt', e, I2, m1, m2, m3, m4, m5, m6⟩ := u_calls (W := W) (Hd := Hs.map (houseD (p + Hs.length))) (Ml := madeL p R (p.toNat + R.length)) (s9 := .fz (.tup (u.2.1.map D.i))) p1 h3 T ok.used ok.ctx h8 CL U Wt I1 (by omega) (by omega) c2
  refine ⟨U', Wt', s8, .fz (.tup (u.2.1.map D.i)), s10, ?_, I2, fun j v j0 hv hn c ec => ?_, m6⟩
  · rw [uses_of_b2, sSeq_e, ub_1, then_nx, sSeq_e, ub_2 k0 ku hu, then_nx, sSeq_e, b3, then_nx, ub_4 hj c1, e]
  · by_cases q : j = k
    · subst q
      obtain ⟨a, b, hm⟩ := c3 c ec
      exact m2 _ hm
    · rcases m4 j v j0 hv with ⟨v', hv'⟩ | h
      · obtain ⟨v2, hv2⟩ := C j v' j0 hv' (fun z => by
          rcases List.mem_cons.mp z with z | z
          · exact q z
          · exact hn (m3 j z)) c ec
        exact ⟨v2, m1 c v2 ec.1 hv2⟩
      · exact absurd h hn
theorem u_while {W : D} {p : Int} {Hs : List House} {R : List (Option (List Int))} (p1 : 1 ≤ p) (h3 : Hs.length ≤ 3) (ph : p + Hs.length ≤ 6) (hk : ∀ H ∈ Hs, H.ok (p + Hs.length)) (T : Told p Hs R) :
    ∀ (n : Nat) (U : List (Option Use)) (Wt : List Int), Hs.length + Wt.length ≤ n + cntO U → UInv p Hs R U Wt → ClosedU p Hs R U Wt →
      ∃ U', whileN (qB (p2 dGt (pCall bLen (aCons (pV 6) aNil)) (pC (.int 0)))) [7, 8, 9, 10, 11, 12, 13] uses_of_b2 (n + 1) (envV W p (Hs.map (houseD (p + Hs.length))) R (madeL p R (p.toNat + R.length)) U Wt) = .nx (envV W p (Hs.map (houseD (p + Hs.length))) R (madeL p R (p.toNat + R.length)) U' []) ∧ UInv p Hs R U' [] ∧ ClosedU p Hs R U' [] := by
  have tt : ∀ Hd Ml U Wt, qB (p2 dGt (pCall bLen (aCons (pV 6) aNil)) (pC (.int 0))) (envV W p Hd R Ml U Wt) = .ok (decide (0 < Wt.length)) := fun Hd Ml U Wt => by simp [envV]
  have kl : ∀ Hd Ml U Wt k s8 s9 s10, kills [7, 8, 9, 10, 11, 12, 13] (envU W p Hd R Ml U Wt k s8 s9 s10) = envV W p Hd R Ml U Wt := fun Hd Ml U Wt k s8 s9 s10 => by simp [envU, envV]
  intro n
  induction n with
  | zero =>
    intro U Wt hn I C
    have := cntO_le (U := U)
    rw [I.len] at this
    have e : Wt = [] := List.eq_nil_of_length_eq_zero (by omega)
    subst e
    refine ⟨U, ?_, I, C⟩
    rw [whileN, tt]
    simp
  | succ n ih =>
    intro U Wt hn I C
    cases Wt with
    | nil =>
      refine ⟨U, ?_, I, C⟩
      rw [whileN, tt]
      simp
    | cons k Wt =>
      obtain ⟨U1, W1, s8, s9, s10, e, I1, C1, m⟩ := u_body (W := W) p1 h3 ph hk T I C
      simp at hn
      obtain ⟨U', e', I', C'⟩ := ih U1 W1 (by omega) I1 C1
      refine ⟨U', ?_, I', C'⟩
      rw [whileN, tt]
      simp only [List.length_cons, Nat.zero_lt_succ, decide_true, if_true, e, kl]
      exact e'
theorem us_0 {p : Int} {Hd : List D} : sUn (nTup (nsCons (nTg 1) (nsCons (nTg 2) nsNil))) (pFz 0) (env0 14 [.tup [.v (.int p), .tup Hd]]) = .nx [.fz (.tup [.v (.int p), .tup Hd]), .fz (.v (.int p)), .fz (.tup Hd), .no, .no, .no, .no, .no, .no, .no, .no, .no, .no, .no] := by
  simp
theorem us_1 {W P S Tl : D} (h : shortest_d [W] = .ok Tl) : sSet 3 (gL (pCall shortest_d (aCons (pV 0) aNil))) [.fz W, .fz P, .fz S, .no, .no, .no, .no, .no, .no, .no, .no, .no, .no, .no] = .nx [.fz W, .fz P, .fz S, .own Tl, .no, .no, .no, .no, .no, .no, .no, .no, .no, .no] := by
  simp [h]
theorem us_2 {W P S Tl Md : D} (h : letters_made_d [W, Tl] = .ok Md) : sSet 4 (gL (pCall letters_made_d (aCons (pV 0) (aCons (pV 3) aNil)))) [.fz W, .fz P, .fz S, .own Tl, .no, .no, .no, .no, .no, .no, .no, .no, .no, .no] = .nx [.fz W, .fz P, .fz S, .own Tl, .own Md, .no, .no, .no, .no, .no, .no, .no, .no, .no] := by
  simp [h]
theorem us_3 {W P S Tl Md : D} {m : Nat} (hm : bLen [S] = .ok (.v (.int (m : Int)))) (no : dMul (.lst [.v .non]) (.v (.int (m : Int))) = .ok (.lst (List.replicate m (.v .non)))) :
    sSet 5 (gL (p2 dMul (pLst (aCons (pC .non) aNil)) (pCall bLen (aCons (pV 2) aNil)))) [.fz W, .fz P, .fz S, .own Tl, .own Md, .no, .no, .no, .no, .no, .no, .no, .no, .no] = .nx [.fz W, .fz P, .fz S, .own Tl, .own Md, .own (.lst (List.replicate m (.v .non))), .no, .no, .no, .no, .no, .no, .no, .no] := by
  simp [hm, no, -dMul_l]
theorem optAt_rep {α : Type} {n : Nat} {j : Int} : optAt (List.replicate n (none : Option α)) j = none := by
  unfold optAt
  rw [List.getElem?_replicate]
  split <;> rfl
theorem cntO_rep {α : Type} : ∀ {n : Nat}, cntO (List.replicate n (none : Option α)) = 0
  | 0 => rfl
  | n + 1 => by
    have := cntO_rep (α := α) (n := n)
    unfold cntO at this ⊢
    rw [List.replicate_succ, List.map_cons, List.sum_cons, this]
    rfl
theorem uses_ok {p : Int} {Hs : List House} {R : List (Option (List Int))} (p1 : 1 ≤ p) (p4 : p ≤ 4) (h1 : 1 ≤ Hs.length) (h3 : Hs.length ≤ 3) (ph : p + Hs.length ≤ 6) (hk : ∀ H ∈ Hs, H.ok (p + Hs.length)) (T : Told p Hs R) (sh : shortest_d [worksD p Hs] = .ok (.lst (R.map rowD))) :
    ∃ U : List (Option Use), uses_of_d [worksD p Hs] = .ok (.lst (U.map useD)) ∧ U.length = Hs.length ∧ (∀ j : Int, 0 ≤ j → j < Hs.length → ((∃ u, optAt U j = some u) ↔ Used p Hs R j)) ∧ ∀ j u, 0 ≤ j → optAt U j = some u → UseOk p Hs R j u ∧ u.1.length ≤ 642 ∧ u.2.2.length ≤ 642 := by
  have il := T.len
  have lm := letters_ok (p := p) (R := R) (Hd := Hs.map (houseD (p + Hs.length))) p1 p4 (by rw [List.length_map, il]) (by omega) (fun r hr => by
    obtain ⟨j, j0, j1, e⟩ := mem_rowO hr
    have := T.short j r j0 e
    omega)
  have no := t_no (n := Hs.length) (by omega)
  have ur : (List.replicate Hs.length (none : Option Use)).map useD = List.replicate Hs.length (.v .non) := by rw [List.map_replicate]; rfl
  have st : uses_of_s (env0 14 [worksD p Hs]) = uses_of_t4 [.fz (worksD p Hs), .fz (.v (.int p)), .fz (.tup (Hs.map (houseD (p + Hs.length)))), .own (.lst (R.map rowD)), .own (.lst ((madeL p R (p.toNat + R.length)).map rowD)), .own (.lst (List.replicate Hs.length (.v .non))), .no, .no, .no, .no, .no, .no, .no, .no] := by
    have e0 := us_0 (p := p) (Hd := Hs.map (houseD (p + Hs.length)))
    rw [← worksD] at e0 lm
    rw [uses_of_s, sSeq_e, e0, then_nx, uses_of_t1, sSeq_e, us_1 sh, then_nx, uses_of_t2, sSeq_e, us_2 lm, then_nx, uses_of_t3, sSeq_e, us_3 (m := Hs.length) (by simp) no, then_nx]
  have dr := dAt_row (F := R) (i := 0) (by decide) (by omega)
  cases hr : rowO R 0 with
  | none =>
    rw [hr, rowD_none] at dr
    refine ⟨List.replicate Hs.length none, ?_, by simp, fun j j0 j1 => ?_, fun j u j0 hu => ?_⟩
    · rw [uses_of_d, fnD_e, st, uses_of_t4, ur]
      generalize worksD p Hs = W at *
      simp [dr]
    · rw [optAt_rep]
      constructor
      · rintro ⟨u, h⟩; cases h
      · intro h
        exfalso
        induction h with
        | zero h => rw [hr] at h; cases h
        | step _ _ ih => rename_i k c hu _; exact ih (by
            cases hu with
            | zero h => omega
            | step _ e => exact e.1) (by
            cases hu with
            | zero h => omega
            | step _ e => exact e.2.1)
    · rw [optAt_rep] at hu; cases hu
  | some r0 =>
    rw [hr, rowD_some] at dr
    obtain ⟨U0, hU0⟩ : ∃ U0 : List (Option Use), U0 = (List.replicate Hs.length none).set 0 (some ([], r0, [])) := ⟨_, rfl⟩
    have g0 : ∀ j : Int, 0 ≤ j → optAt U0 j = if j = 0 then some ([], r0, []) else none := fun j j0 => by
      have := optAt_set (U := List.replicate Hs.length (none : Option Use)) (i := 0) (j := j) (o := some ([], r0, [])) (by decide) j0 (by simp; omega)
      rw [optAt_rep] at this
      rw [hU0]
      exact this
    have c0 : cntO U0 = 1 := by
      rw [hU0, cntO_set (by rw [List.getElem?_replicate, if_pos (by omega)]), cntO_rep]
    have I0 : UInv p Hs R U0 [0] := by
      refine ⟨by rw [hU0]; simp, ⟨_, by rw [g0 0 (by decide), if_pos rfl]⟩, fun j u j0 hu => ?_, fun j u j0 hu => ?_, by simp, fun j hj => ?_⟩
      · rw [g0 j j0] at hu
        split at hu
        · next e =>
          subst e
          cases hu
          refine ⟨.zero hr, hr, fun _ => ⟨rfl, rfl⟩, fun y hb hy => ?_, fun Hs' hl y hb hy => ?_⟩
          · unfold headOf tailOf
            rw [if_neg (by omega), if_neg (by omega)]
            simp
            exact ⟨hb, hy⟩
          · unfold headOf tailOf at hy
            rw [if_neg (by omega), if_neg (by omega)] at hy
            simpa using hy
        · cases hu
      · rw [g0 j j0] at hu
        split at hu
        · cases hu; simp [c0]
        · cases hu
      · rw [List.mem_singleton.mp hj]
        exact ⟨by omega, by omega, _, by rw [g0 0 (by decide), if_pos rfl]⟩
    have C0 : ClosedU p Hs R U0 [0] := fun k u k0 hu hn => by
      rw [g0 k k0] at hu
      split at hu
      · next e => exact absurd (by simp [e]) hn
      · cases hu
    obtain ⟨U, e, I, C⟩ := u_while (W := worksD p Hs) p1 h3 ph hk T (Hs.length + 1) U0 [0] (by show Hs.length + 1 ≤ _; omega) I0 C0
    have cl := cntO_le (U := U)
    have iu := I.len
    refine ⟨U, ?_, I.len, fun j j0 j1 => ⟨fun ⟨u, hu⟩ => (I.snd j u j0 hu).used, fun h => ?_⟩, fun j u j0 hu => ⟨I.snd j u j0 hu, by have := I.small j u j0 hu; omega, by have := I.small j u j0 hu; omega⟩⟩
    · have w := sWhile_of (t := qB (p2 dGt (pCall bLen (aCons (pV 6) aNil)) (pC (.int 0)))) (ks := [7, 8, 9, 10, 11, 12, 13]) (body := uses_of_b2) (e := envV (worksD p Hs) p (Hs.map (houseD (p + Hs.length))) R (madeL p R (p.toNat + R.length)) U0 [0]) (o := .nx (envV (worksD p Hs) p (Hs.map (houseD (p + Hs.length))) R (madeL p R (p.toNat + R.length)) U [])) _ (by rw [show kills [7, 8, 9, 10, 11, 12, 13] (envV (worksD p Hs) p (Hs.map (houseD (p + Hs.length))) R (madeL p R (p.toNat + R.length)) U0 [0]) = envV (worksD p Hs) p (Hs.map (houseD (p + Hs.length))) R (madeL p R (p.toNat + R.length)) U0 [0] by simp [envV]]; exact e) (by simp)
      have t4 : uses_of_t4 [.fz (worksD p Hs), .fz (.v (.int p)), .fz (.tup (Hs.map (houseD (p + Hs.length)))), .own (.lst (R.map rowD)), .own (.lst ((madeL p R (p.toNat + R.length)).map rowD)), .own (.lst (List.replicate Hs.length (.v .non))), .no, .no, .no, .no, .no, .no, .no, .no] = uses_of_t7 (envV (worksD p Hs) p (Hs.map (houseD (p + Hs.length))) R (madeL p R (p.toNat + R.length)) U0 [0]) := by
        have hs : (List.replicate Hs.length (D.v .non)).set 0 (.tup [.tup [], .tup (r0.map D.i), .tup []]) = U0.map useD := by
          rw [hU0, List.map_set, ur]
          rfl
        have ix : ixN Hs.length 0 = some 0 := by
          have := ixN_of (n := Hs.length) (i := 0) (by decide) (by omega)
          simpa using this
        have pos : 0 < Hs.length := by omega
        rw [uses_of_t4, uses_of_t5, uses_of_t6, envV]
        generalize worksD p Hs = W at *
        generalize uses_of_t7 = F
        simp [dr, ix, pos, hs]
      rw [uses_of_d, fnD_e, st, t4, uses_of_t7, sSeq_e, w]
      generalize worksD p Hs = W at *
      simp [envV, uses_of_t8]
    · clear j1
      induction h with
      | zero h => exact I.zero
      | step hu ed ih =>
        rename_i k c
        have k0 : 0 ≤ k := by
          cases hu with
          | zero h => omega
          | step _ e => exact e.1
        obtain ⟨u, hu'⟩ := ih k0
        exact C k u k0 hu' (by simp) c ed
end K82

namespace K82
open PySem PySem.Spec PyProof.Rows L2 Gw
/-! ### the law's rooms from which a room with a mark is reached -/
def ToMark (H : House) (ls : List Int) (x : Int) : Prop := ∃ w : List Int, (∀ l ∈ w, l ∈ ls) ∧ H.mark (H.walk x w) ≠ 0
structure TInv (H : House) (ls rs : List Int) : Prop where
  nd : rs.Nodup
  rg : ∀ x ∈ rs, 0 ≤ x ∧ x < H.marks.length
  snd : ∀ x ∈ rs, ToMark H ls x
  base : ∀ x : Int, 0 ≤ x → x < H.marks.length → H.mark x ≠ 0 → x ∈ rs
def envF (L : Int) (H : House) (ls rs : List Int) (s3 s4 : Sl) : En := [.fz (houseD L H), .fz (.lst (ls.map D.i)), .own (.lst (rs.map D.i)), s3, s4, .no]
theorem rf_letters {H : House} {L x : Int} {ls : List Int} {s3 : Sl} (k : H.ok L) (x0 : 0 ≤ x) (x1 : x < H.marks.length) : ∀ (l rs : List Int), (∀ y ∈ l, 0 ≤ y ∧ y < L) → rs.length < 1000 →
    ∃ rs', forL (nTg 5) [5] _law_rooms_from_b1 (l.map D.i) (envF L H ls rs s3 (.fz (.v (.int x)))) = .nx (envF L H ls rs' s3 (.fz (.v (.int x)))) ∧ ((rs' = rs ∧ (x ∈ rs ∨ ∀ y ∈ l, H.go x y ∉ rs)) ∨ (rs' = rs ++ [x] ∧ x ∉ rs ∧ ∃ y ∈ l, H.go x y ∈ rs))
  | [], rs, _, _ => ⟨rs, by simp [forL_nil], .inl ⟨rfl, .inr fun y hy => by cases hy⟩⟩
  | y :: l, rs, hl, hz => by
    have sl := sline
    have hy := hl y (by simp)
    obtain ⟨g1, g2, g3⟩ := dIx_go k x0 x1 hy.1 hy.2
    have w := dIx_way k x0 x1
    simp only [List.getD_eq_getElem?_getD] at g1 w
    have z : rs.length < sizeLine := by omega
    rw [List.map_cons]
    by_cases q : H.go x y ∈ rs
    · by_cases q2 : x ∈ rs
      · obtain ⟨rs', e, c⟩ := rf_letters (ls := ls) (s3 := s3) k x0 x1 l rs (fun z hz => hl z (by simp [hz])) hz
        refine ⟨rs', (forL_step ?_).trans e, ?_⟩
        · simp [turn, envF, _law_rooms_from_b1, houseD, w, g1, all_ne, q, q2]
        · rcases c with ⟨c1, _⟩ | ⟨_, c2, _⟩
          · exact .inl ⟨c1, .inl q2⟩
          · exact absurd q2 c2
      · have st : turn (nTg 5) [5] _law_rooms_from_b1 (.v (.int y)) (envF L H ls rs s3 (.fz (.v (.int x)))) = .nx (envF L H ls (rs ++ [x]) s3 (.fz (.v (.int x)))) := by
          simp [turn, envF, _law_rooms_from_b1, houseD, w, g1, all_ne, q, q2, z]
        have skip := forL_skip (t := nTg 5) (ks := [5]) (body := _law_rooms_from_b1) (e := envF L H ls (rs ++ [x]) s3 (.fz (.v (.int x)))) (l.map D.i) (fun d hd => by
          obtain ⟨v, hv, rfl⟩ := List.mem_map.mp hd
          have hv := hl v (by simp [hv])
          obtain ⟨g1, g2, g3⟩ := dIx_go k x0 x1 hv.1 hv.2
          simp only [List.getD_eq_getElem?_getD] at g1
          by_cases q3 : H.go x v ∈ rs
          · simp [turn, envF, _law_rooms_from_b1, houseD, w, g1, q3]
          · by_cases q4 : x = H.go x v
            · simp [turn, envF, _law_rooms_from_b1, houseD, w, g1, q3, ← q4]
            · simp [turn, envF, _law_rooms_from_b1, houseD, w, g1, q3, q4])
        exact ⟨rs ++ [x], (forL_step st).trans skip, .inr ⟨rfl, q2, y, by simp, q⟩⟩
    · obtain ⟨rs', e, c⟩ := rf_letters (ls := ls) (s3 := s3) k x0 x1 l rs (fun z hz => hl z (by simp [hz])) hz
      refine ⟨rs', (forL_step ?_).trans e, ?_⟩
      · simp [turn, envF, _law_rooms_from_b1, houseD, w, g1, q]
      · rcases c with ⟨c1, c2⟩ | ⟨c1, c2, v, c3, c4⟩
        · refine .inl ⟨c1, c2.imp id fun h v hv => ?_⟩
          rcases List.mem_cons.mp hv with rfl | hv
          · exact q
          · exact h v hv
        · exact .inr ⟨c1, c2, v, by simp [c3], c4⟩
def ClosedF (H : House) (ls rs : List Int) : Prop := ∀ x : Int, 0 ≤ x → x < H.marks.length → ∀ l ∈ ls, H.go x l ∈ rs → x ∈ rs
theorem rf_rooms {H : House} {L : Int} {ls rs0 : List Int} {s3 : Sl} (k : H.ok L) (hl : ∀ l ∈ ls, 0 ≤ l ∧ l < L) :
    ∀ (n j : Nat) (rs : List Int), j + n = H.marks.length → TInv H ls rs → ((rs = rs0 ∧ ∀ x : Int, 0 ≤ x → x < j → ∀ l ∈ ls, H.go x l ∈ rs0 → x ∈ rs0) ∨ (rs0.length < rs.length ∧ ¬ ClosedF H ls rs0)) →
      ∃ rs', forL (nTg 4) [4, 5] _law_rooms_from_b2 ((List.range' j n).map fun (i : Nat) => D.i (i : Int)) (envF L H ls rs s3 .no) = .nx (envF L H ls rs' s3 .no) ∧ TInv H ls rs' ∧ ((rs' = rs0 ∧ ClosedF H ls rs0) ∨ (rs0.length < rs'.length ∧ ¬ ClosedF H ls rs0)) := by
  intro n
  induction n with
  | zero =>
    intro j rs hj I c
    refine ⟨rs, by simp [forL_nil], I, ?_⟩
    rcases c with ⟨c1, c2⟩ | c
    · exact .inl ⟨c1, fun x x0 x1 => c2 x x0 (by omega)⟩
    · exact .inr c
  | succ n ih =>
    intro j rs hj I c
    have len := nodup_le _ rs I.nd I.rg
    have k4 := k.le
    obtain ⟨rs', e, c'⟩ := rf_letters (ls := ls) (s3 := s3) k (x := (j : Int)) (by omega) (by omega) ls rs hl (by omega)
    have st : turn (nTg 4) [4, 5] _law_rooms_from_b2 (.v (.int (j : Int))) (envF L H ls rs s3 .no) = .nx (envF L H ls rs' s3 .no) := by
      simp [envF] at e
      simp [turn, _law_rooms_from_b2, envF]
      rw [e]
      simp
    have I' : TInv H ls rs' := by
      rcases c' with ⟨c1, _⟩ | ⟨c1, c2, y, c3, c4⟩
      · rw [c1]; exact I
      · rw [c1]
        refine ⟨?_, fun x hx => ?_, fun x hx => ?_, fun x a b d => by simp [I.base x a b d]⟩
        · rw [List.nodup_append]
          refine ⟨I.nd, by simp, fun a ha b hb => ?_⟩
          rw [List.mem_singleton.mp hb]
          exact fun e => c2 (e ▸ ha)
        · rcases List.mem_append.mp hx with hx | hx
          · exact I.rg x hx
          · rw [List.mem_singleton.mp hx]; omega
        · rcases List.mem_append.mp hx with hx | hx
          · exact I.snd x hx
          · rw [List.mem_singleton.mp hx]
            obtain ⟨w, w1, w2⟩ := I.snd _ c4
            refine ⟨y :: w, fun l hl' => ?_, w2⟩
            rcases List.mem_cons.mp hl' with rfl | hl'
            · exact c3
            · exact w1 l hl'
    obtain ⟨rs2, e2, I2, c2⟩ := ih (j + 1) rs' (by omega) I' (by
      rcases c' with ⟨c1, c2⟩ | ⟨c1, c2, y, c3, c4⟩
      · subst c1
        rcases c with ⟨d1, d2⟩ | d
        · subst d1
          refine .inl ⟨rfl, fun x x0 x1 l hl' hx => ?_⟩
          by_cases z : x = (j : Int)
          · subst z
            rcases c2 with c2 | c2
            · exact c2
            · exact absurd hx (c2 l hl')
          · exact d2 x x0 (by omega) l hl' hx
        · exact .inr d
      · refine .inr ?_
        subst c1
        rcases c with ⟨d1, d2⟩ | ⟨d1, d2⟩
        · subst d1
          exact ⟨by simp, fun cl => c2 (cl j (by omega) (by omega) y c3 c4)⟩
        · exact ⟨by simp; omega, d2⟩)
    refine ⟨rs2, ?_, I2, c2⟩
    rw [List.range'_succ, List.map_cons]
    exact (forL_step st).trans e2
theorem rf_st {HD Ls : D} {Fs : List D} {m : Nat} {s2 s3 : Sl} {e2 : En} (hh : dIx HD (.v (.int 1)) = .ok (.tup Fs)) (hm : Fs.length = m) (n4 : m ≤ 4) {t : Int}
    (f1 : forL (nTg 4) [4, 5] _law_rooms_from_b2 ((List.range m).map fun (i : Nat) => D.i (i : Int)) [.fz HD, .fz Ls, s2, .fz (.v (.int t)), .no, .no] = .nx e2) :
    turn (nTg 3) [3, 4, 5] _law_rooms_from_b3 (.v (.int t)) [.fz HD, .fz Ls, s2, .no, .no, .no] = .nx (kills [3, 4, 5] e2) := by
  have lb : (-4611686018427387904 : Int) ≤ (m : Int) ∧ (m : Int) < 4611686018427387904 := by omega
  simp [turn, _law_rooms_from_b3, hh, hm, lb]
  rw [f1]
theorem rf_turns {H : House} {L : Int} {ls : List Int} (k : H.ok L) (hl : ∀ l ∈ ls, 0 ≤ l ∧ l < L) :
    ∀ (n j : Nat) (rs : List Int), TInv H ls rs → (ClosedF H ls rs ∨ j ≤ rs.length) →
      ∃ rs', forL (nTg 3) [3, 4, 5] _law_rooms_from_b3 ((List.range' j n).map fun (i : Nat) => D.i (i : Int)) (envF L H ls rs .no .no) = .nx (envF L H ls rs' .no .no) ∧ TInv H ls rs' ∧ (ClosedF H ls rs' ∨ j + n ≤ rs'.length) := by
  intro n
  induction n with
  | zero => intro j rs I c; exact ⟨rs, by simp [forL_nil], I, c⟩
  | succ n ih =>
    intro j rs I c
    obtain ⟨rs', f1, I', c'⟩ := rf_rooms (rs0 := rs) (s3 := .fz (.v (.int (j : Int)))) k hl H.marks.length 0 rs (by omega) I (.inl ⟨rfl, fun x x0 x1 => by omega⟩)
    have st : turn (nTg 3) [3, 4, 5] _law_rooms_from_b3 (.v (.int (j : Int))) (envF L H ls rs .no .no) = .nx (envF L H ls rs' .no .no) := by
      rw [← List.range_eq_range', envF, envF] at f1
      have := rf_st (s3 := .no) (ix_house1 (L := L) (H := H)) (by simp) k.le f1
      rw [envF, this]
      simp [envF]
    obtain ⟨rs2, g1, g2, g3⟩ := ih (j + 1) rs' I' (by
      rcases c' with ⟨c1, c2⟩ | ⟨c1, c2⟩
      · subst c1; exact .inl c2
      · rcases c with c | c
        · exact absurd c c2
        · exact .inr (by omega))
    refine ⟨rs2, ?_, g2, g3.imp id fun z => by omega⟩
    rw [List.range'_succ, List.map_cons]
    exact (forL_step st).trans g1
theorem rf_start {HD Ls : D} {Fs : List D} {m : Nat} {rs : List Int} (hh : dIx HD (.v (.int 1)) = .ok (.tup Fs)) (hm : Fs.length = m) (n4 : m ≤ 4) (hr : rs.length ≤ 4)
    (hc : compL (nTg 4) (qB (p2 (dEq true) (p2 dIx (p2 dIx (pV 0) (pC (.int 1))) (pV 4)) (pC (.int 0)))) (pImm (pV 4)) [.fz HD, .fz Ls, .no, .no, .no, .no] ((List.range m).map fun (i : Nat) => D.i (i : Int)) = .ok (rs.map D.i)) :
    _law_rooms_from_s (env0 6 [HD, Ls]) = (forL (nTg 3) [3, 4, 5] _law_rooms_from_b3 ((List.range m).map fun (i : Nat) => D.i (i : Int)) [.fz HD, .fz Ls, .own (.lst (rs.map D.i)), .no, .no, .no]).then (sRet (gTake 2)) := by
  have sl := sline
  have lb : (-4611686018427387904 : Int) ≤ (m : Int) ∧ (m : Int) < 4611686018427387904 := by omega
  have z : rs.length ≤ sizeLine := by omega
  rw [_law_rooms_from_s, sSeq_e]
  have e1 : sSet 2 (gL (pCompR (nTg 4) (qB (p2 (dEq true) (p2 dIx (p2 dIx (pV 0) (pC (.int 1))) (pV 4)) (pC (.int 0)))) (pImm (pV 4)) [4] (pCall bLen (aCons (p2 dIx (pV 0) (pC (.int 1))) aNil)))) (env0 6 [HD, Ls]) = .nx [.fz HD, .fz Ls, .own (.lst (rs.map D.i)), .no, .no, .no] := by
    generalize qB (p2 (dEq true) (p2 dIx (p2 dIx (pV 0) (pC (.int 1))) (pV 4)) (pC (.int 0))) = q at *
    simp [hh, hm, lb]
    rw [hc]
    simp [z]
  rw [e1, then_nx]
  simp [hh, hm, lb]
theorem rooms_from_ok {H : House} {L : Int} {ls : List Int} (k : H.ok L) (hl : ∀ l ∈ ls, 0 ≤ l ∧ l < L) :
    ∃ rs : List Int, _law_rooms_from_d [houseD L H, .lst (ls.map D.i)] = .ok (.lst (rs.map D.i)) ∧ ∀ x, x ∈ rs ↔ (0 ≤ x ∧ x < H.marks.length) ∧ ToMark H ls x := by
  have n4 := k.le
  obtain ⟨r0, hr0⟩ : ∃ r0 : List Int, r0 = ((List.range H.marks.length).filter fun (i : Nat) => H.mark (i : Int) != 0).map fun (i : Nat) => (i : Int) := ⟨_, rfl⟩
  have cf := compL_filter (t := nTg 4) (q := qB (p2 (dEq true) (p2 dIx (p2 dIx (pV 0) (pC (.int 1))) (pV 4)) (pC (.int 0)))) (pe := pImm (pV 4)) (env := [.fz (houseD L H), .fz (.lst (ls.map D.i)), .no, .no, .no, .no]) (fun (i : Nat) => D.i (i : Int)) (fun (i : Nat) => H.mark (i : Int) != 0) (fun (i : Nat) => D.i (i : Int)) (List.range H.marks.length) (fun i hi => ⟨_, rfl, by
    have hi := List.mem_range.mp hi
    have m := dIx_mark (H := H) (room := (i : Int)) (by omega) (by omega)
    simp [houseD, m]
    by_cases q : H.mark (i : Int) = 0 <;> simp [q], fun _ => by simp⟩)
  have mem0 : ∀ x : Int, x ∈ r0 ↔ 0 ≤ x ∧ x < H.marks.length ∧ H.mark x ≠ 0 := fun x => by
    rw [hr0]
    constructor
    · intro h
      obtain ⟨i, hi, rfl⟩ := List.mem_map.mp h
      obtain ⟨h1, h2⟩ := List.mem_filter.mp hi
      have := List.mem_range.mp h1
      exact ⟨by omega, by omega, by simpa using h2⟩
    · rintro ⟨a, b, c⟩
      have e : ((x.toNat : Nat) : Int) = x := by omega
      exact List.mem_map.mpr ⟨x.toNat, List.mem_filter.mpr ⟨List.mem_range.mpr (by omega), by rw [e]; simpa using c⟩, e⟩
  have I0 : TInv H ls r0 := by
    refine ⟨?_, fun x hx => ?_, fun x hx => ⟨[], (fun l h => by cases h), ((mem0 x).mp hx).2.2⟩, fun x a b c => (mem0 x).mpr ⟨a, b, c⟩⟩
    · rw [hr0, List.Nodup, List.pairwise_map]
      exact ((List.nodup_range (n := H.marks.length)).filter _).imp fun h e => h (by omega)
    · have := (mem0 x).mp hx; omega
  have len0 := nodup_le _ r0 I0.nd I0.rg
  obtain ⟨rs, f1, I, c⟩ := rf_turns k hl H.marks.length 0 r0 I0 (.inr (by omega))
  have len := nodup_le _ rs I.nd I.rg
  have cl : ClosedF H ls rs := by
    rcases c with c | c
    · exact c
    · intro x x0 x1 _ _ _
      by_cases q : x ∈ rs
      · exact q
      · have := nodup_le H.marks.length (x :: rs) (List.nodup_cons.mpr ⟨q, I.nd⟩) (fun y hy => by
          rcases List.mem_cons.mp hy with rfl | hy
          · exact ⟨x0, x1⟩
          · exact I.rg y hy)
        rw [List.length_cons] at this
        omega
  refine ⟨rs, ?_, fun x => ⟨fun h => ⟨I.rg x h, I.snd x h⟩, ?_⟩⟩
  · have e : ((List.range H.marks.length).filter fun (i : Nat) => H.mark (i : Int) != 0).map (fun (i : Nat) => D.i (i : Int)) = r0.map D.i := by rw [hr0, List.map_map]; rfl
    rw [e] at cf
    rw [← List.range_eq_range', envF, envF] at f1
    rw [_law_rooms_from_d, fnD_e, rf_start (ix_house1 (L := L) (H := H)) (by simp) n4 (by omega) cf, f1]
    simp
  · rintro ⟨⟨x0, x1⟩, w, w1, w2⟩
    have go : ∀ (w : List Int) (x : Int), 0 ≤ x → x < H.marks.length → (∀ l ∈ w, l ∈ ls) → H.mark (H.walk x w) ≠ 0 → x ∈ rs := by
      intro w
      induction w with
      | nil => intro x a b _ hm; exact I.base x a b hm
      | cons l w ih =>
        intro x a b hw hm
        have h := hl l (hw l (by simp))
        obtain ⟨_, g2, g3⟩ := dIx_go k a b h.1 h.2
        exact cl x a b l (hw l (by simp)) (ih (H.go x l) g2 g3 (fun y hy => hw y (by simp [hy])) hm)
    exact go w x x0 x1 w1 w2
end K82

namespace K82
open PySem PySem.Spec PyProof.Rows L2 Gw
/-! ### the law's helpers of use -/
theorem edge_of {p : Int} {Hs : List House} {R : List (Option (List Int))} {G : List Int} {k : Int} (p1 : 1 ≤ p) (I : LInv p Hs R G) (hG : ∀ j : Int, 0 ≤ j → j < Hs.length → (p + j ∈ G ↔ ∃ r, rowO R j = some r)) {x s : Int} (hx : Reach (hsAt Hs k) G x) (hs : s ∈ G) (q : p ≤ s) (hm : ToMark (hsAt Hs k) G ((hsAt Hs k).go x s)) : Edge p Hs R k (s - p) := by
  obtain ⟨w1, u1, rfl⟩ := hx
  obtain ⟨w2, v1, v2⟩ := hm
  have rg := I.rg s hs
  have lt : ∀ l ∈ G, LtOk p Hs.length R l := fun l hl => ⟨(I.rg l hl).1, (I.rg l hl).2, fun q => I.snd l hl q⟩
  refine ⟨by omega, by omega, I.snd s hs q, w1, w2, fun l hl => lt l (u1 l hl), fun l hl => lt l (v1 l hl), ?_⟩
  rw [show p + (s - p) = s by omega, walk_app]
  exact v2
theorem of_edge {p : Int} {Hs : List House} {R : List (Option (List Int))} {G : List Int} {k c : Int} (p1 : 1 ≤ p) (I : LInv p Hs R G) (hG : ∀ j : Int, 0 ≤ j → j < Hs.length → (p + j ∈ G ↔ ∃ r, rowO R j = some r)) (e : Edge p Hs R k c) : p + c ∈ G ∧ ∃ x, Reach (hsAt Hs k) G x ∧ ToMark (hsAt Hs k) G ((hsAt Hs k).go x (p + c)) := by
  obtain ⟨c0, c1, r, w1, w2, h1, h2, hm⟩ := e
  have lt : ∀ l, LtOk p Hs.length R l → l ∈ G := fun l ⟨a, b, c⟩ => by
    by_cases q : p ≤ l
    · have := (hG (l - p) (by omega) (by omega)).mpr (c q)
      rwa [show p + (l - p) = l by omega] at this
    · exact I.base l a (by omega)
  refine ⟨(hG c c0 c1).mpr r, (hsAt Hs k).walk 0 w1, ⟨w1, fun l hl => lt l (h1 l hl), rfl⟩, w2, fun l hl => lt l (h2 l hl), ?_⟩
  rw [walk_app] at hm
  exact hm
structure OInv (p : Int) (Hs : List House) (R : List (Option (List Int))) (fd : List Int) : Prop where
  nd : fd.Nodup
  us : ∀ x ∈ fd, 0 ≤ x ∧ x < Hs.length ∧ Used p Hs R x
  st : (0 : Int) ∈ fd
def envO (W : D) (p : Int) (s2 : Sl) (fd : List Int) (at_ : Nat) (s5 s6 s7 : Sl) : En := [.fz W, s2, .own (.v (.int p)), .own (.lst (fd.map D.i)), .own (.v (.int (at_ : Int))), s5, s6, s7, .no]
theorem ou_turn {W : D} {p L x s : Int} {H : House} {s2 : Sl} {fd es : List Int} {at_ : Nat} (k : H.ok L) (x0 : 0 ≤ x) (x1 : x < H.marks.length) (l0 : 0 ≤ s) (l1 : s < L) (z : fd.length < 1000) :
    turn (nTg 8) [8] _law_of_use_b1 (.v (.int s)) (envO W p s2 fd at_ (.own (houseD L H)) (.own (.lst (es.map D.i))) (.fz (.v (.int x)))) = .nx (envO W p s2 (if p ≤ s ∧ H.go x s ∈ es ∧ s - p ∉ fd then fd ++ [s - p] else fd) at_ (.own (houseD L H)) (.own (.lst (es.map D.i))) (.fz (.v (.int x)))) := by
  have sl := sline
  obtain ⟨g1, g2, g3⟩ := dIx_go k x0 x1 l0 l1
  have w := dIx_way k x0 x1
  simp only [List.getD_eq_getElem?_getD] at g1 w
  have z1 : fd.length < sizeLine := by omega
  by_cases q1 : p ≤ s
  · by_cases q2 : H.go x s ∈ es
    · by_cases q3 : s - p ∈ fd
      · simp [turn, envO, _law_of_use_b1, houseD, w, g1, all_ne, q1, q2, q3]
      · simp [turn, envO, _law_of_use_b1, houseD, w, g1, all_ne, q1, q2, q3, z1]
    · simp [turn, envO, _law_of_use_b1, houseD, w, g1, all_ne, q1, q2]
  · simp [turn, envO, _law_of_use_b1, houseD, w, g1, all_ne, q1]
theorem ou_signs {W : D} {p k x : Int} {Hs : List House} {R : List (Option (List Int))} {G : List Int} {s2 : Sl} {es : List Int} {at_ : Nat} (p1 : 1 ≤ p) (h3 : Hs.length ≤ 3) (kk : (hsAt Hs k).ok (p + Hs.length)) (I : LInv p Hs R G) (hG : ∀ j : Int, 0 ≤ j → j < Hs.length → (p + j ∈ G ↔ ∃ r, rowO R j = some r))
    (hx : Reach (hsAt Hs k) G x) (x0 : 0 ≤ x) (x1 : x < (hsAt Hs k).marks.length) (he : ∀ y, y ∈ es ↔ (0 ≤ y ∧ y < (hsAt Hs k).marks.length) ∧ ToMark (hsAt Hs k) G y) (uk : Used p Hs R k) :
    ∀ (ls fd : List Int), (∀ l ∈ ls, l ∈ G) → OInv p Hs R fd → ∃ fd', forL (nTg 8) [8] _law_of_use_b1 (ls.map D.i) (envO W p s2 fd at_ (.own (houseD (p + Hs.length) (hsAt Hs k))) (.own (.lst (es.map D.i))) (.fz (.v (.int x)))) = .nx (envO W p s2 fd' at_ (.own (houseD (p + Hs.length) (hsAt Hs k))) (.own (.lst (es.map D.i))) (.fz (.v (.int x)))) ∧ OInv p Hs R fd' ∧ (∀ (i : Nat) y, fd[i]? = some y → fd'[i]? = some y) ∧
      ∀ s ∈ ls, p ≤ s → (hsAt Hs k).go x s ∈ es → s - p ∈ fd'
  | [], fd, _, O => ⟨fd, by simp [forL_nil], O, fun _ _ h => h, fun s hs => by cases hs⟩
  | s :: ls, fd, hl, O => by
    have hs := hl s (by simp)
    have rg := I.rg s hs
    have len := nodup_le Hs.length fd O.nd fun y hy => ⟨(O.us y hy).1, (O.us y hy).2.1⟩
    have st := ou_turn (W := W) (p := p) (s2 := s2) (fd := fd) (es := es) (at_ := at_) kk x0 x1 rg.1 rg.2 (by omega)
    have gg := (dIx_go kk x0 x1 rg.1 rg.2).2
    rw [List.map_cons]
    by_cases q : p ≤ s ∧ (hsAt Hs k).go x s ∈ es ∧ s - p ∉ fd
    · rw [if_pos q] at st
      have ed := edge_of p1 I hG hx hs q.1 ((he _).mp q.2.1).2
      obtain ⟨fd', e, O', i', c'⟩ := ou_signs (W := W) (s2 := s2) (at_ := at_) p1 h3 kk I hG hx x0 x1 he uk ls (fd ++ [s - p]) (fun y hy => hl y (by simp [hy])) ⟨by
        rw [List.nodup_append]
        refine ⟨O.nd, by simp, fun a ha b hb => ?_⟩
        rw [List.mem_singleton.mp hb]
        exact fun e => q.2.2 (e ▸ ha), fun y hy => by
        rcases List.mem_append.mp hy with hy | hy
        · exact O.us y hy
        · rw [List.mem_singleton.mp hy]
          exact ⟨ed.1, ed.2.1, .step uk ed⟩, by simp [O.st]⟩
      have pre : ∀ (i : Nat) y, fd[i]? = some y → fd'[i]? = some y := fun i y h => i' i y (by rw [List.getElem?_append_left (List.getElem?_eq_some_iff.mp h).1]; exact h)
      refine ⟨fd', (forL_step st).trans e, O', pre, fun y hy a b => ?_⟩
      rcases List.mem_cons.mp hy with rfl | hy
      · have : (fd ++ [y - p])[fd.length]? = some (y - p) := by simp
        exact List.mem_of_getElem? (i' _ _ this)
      · exact c' y hy a b
    · rw [if_neg q] at st
      obtain ⟨fd', e, O', i', c'⟩ := ou_signs (W := W) (s2 := s2) (at_ := at_) p1 h3 kk I hG hx x0 x1 he uk ls fd (fun y hy => hl y (by simp [hy])) O
      refine ⟨fd', (forL_step st).trans e, O', i', fun y hy a b => ?_⟩
      rcases List.mem_cons.mp hy with rfl | hy
      · by_cases q2 : y - p ∈ fd
        · obtain ⟨i, hi, ei⟩ := List.getElem_of_mem q2
          exact List.mem_of_getElem? (i' i _ (by rw [List.getElem?_eq_getElem hi, ei]))
        · exact absurd ⟨a, b, q2⟩ q
      · exact c' y hy a b
theorem ou_rooms {W : D} {p k : Int} {Hs : List House} {R : List (Option (List Int))} {G : List Int} {es : List Int} {at_ : Nat} (p1 : 1 ≤ p) (h3 : Hs.length ≤ 3) (kk : (hsAt Hs k).ok (p + Hs.length)) (I : LInv p Hs R G) (hG : ∀ j : Int, 0 ≤ j → j < Hs.length → (p + j ∈ G ↔ ∃ r, rowO R j = some r))
    (he : ∀ y, y ∈ es ↔ (0 ≤ y ∧ y < (hsAt Hs k).marks.length) ∧ ToMark (hsAt Hs k) G y) (uk : Used p Hs R k) :
    ∀ (rs fd : List Int) (s2 : Sl), (s2 = .fz (.lst (G.map D.i))) → (∀ x ∈ rs, Reach (hsAt Hs k) G x) → OInv p Hs R fd → ∃ fd' s2', (s2' = .fz (.lst (G.map D.i))) ∧ forL (nTg 7) [7, 8] _law_of_use_b2 (rs.map D.i) (envO W p s2 fd at_ (.own (houseD (p + Hs.length) (hsAt Hs k))) (.own (.lst (es.map D.i))) .no) = .nx (envO W p s2' fd' at_ (.own (houseD (p + Hs.length) (hsAt Hs k))) (.own (.lst (es.map D.i))) .no) ∧ OInv p Hs R fd' ∧ (∀ (i : Nat) y, fd[i]? = some y → fd'[i]? = some y) ∧
      ∀ x ∈ rs, ∀ s ∈ G, p ≤ s → (hsAt Hs k).go x s ∈ es → s - p ∈ fd'
  | [], fd, s2, h2, _, O => ⟨fd, s2, h2, by simp [forL_nil], O, fun _ _ h => h, fun x hx => by cases hx⟩
  | x :: rs, fd, s2, h2, hr, O => by
    have hx := hr x (by simp)
    have p0 : (0 : Int) < (hsAt Hs k).marks.length := by have := kk.pos; omega
    have xi : 0 ≤ x ∧ x < (hsAt Hs k).marks.length := by
      obtain ⟨w, w1, rfl⟩ := hx
      exact walk_in kk w 0 (by decide) p0 fun l hl => I.rg l (w1 l hl)
    obtain ⟨fd1, e1, O1, i1, c1⟩ := ou_signs (W := W) (s2 := .fz (.lst (G.map D.i))) (at_ := at_) p1 h3 kk I hG hx xi.1 xi.2 he uk G fd (fun l hl => hl) O
    have st : turn (nTg 7) [7, 8] _law_of_use_b2 (.v (.int x)) (envO W p s2 fd at_ (.own (houseD (p + Hs.length) (hsAt Hs k))) (.own (.lst (es.map D.i))) .no) = .nx (envO W p (.fz (.lst (G.map D.i))) fd1 at_ (.own (houseD (p + Hs.length) (hsAt Hs k))) (.own (.lst (es.map D.i))) .no) := by
      simp [envO] at e1
      subst h2
      simp [turn, _law_of_use_b2, envO]
      rw [e1]
      simp
    obtain ⟨fd', s2', h2', e', O', i', c'⟩ := ou_rooms (W := W) (at_ := at_) p1 h3 kk I hG he uk rs fd1 (.fz (.lst (G.map D.i))) rfl (fun y hy => hr y (by simp [hy])) O1
    refine ⟨fd', s2', h2', ?_, O', fun i y h => i' i y (i1 i y h), fun y hy s hs a b => ?_⟩
    · rw [List.map_cons]; exact (forL_step st).trans e'
    · rcases List.mem_cons.mp hy with rfl | hy
      · have := c1 s hs a b
        obtain ⟨i, hi, ei⟩ := List.getElem_of_mem this
        exact List.mem_of_getElem? (i' i _ (by rw [List.getElem?_eq_getElem hi, ei]))
      · exact c' y hy s hs a b
theorem ob_1 {W HD : D} {p k : Int} {Hd : List D} {s2 : Sl} {fd : List Int} {at_ : Nat} (hh : dIx W (.v (.int 1)) = .ok (.tup Hd)) (hk : dAt Hd k = .ok HD) (im : imm HD = true) (ha : fd[at_]? = some k) :
    sSet 5 (gL (pImm (p2 dIx (p2 dIx (pV 0) (pC (.int 1))) (p2 dIx (pV 3) (pV 4))))) (envO W p s2 fd at_ .no .no .no) = .nx (envO W p s2 fd at_ (.own HD) .no .no) := by
  have a : dAt (fd.map D.i) (at_ : Int) = .ok (.v (.int k)) := dAt_of (by omega) (by simp [ha])
  simp [envO, hh, hk, im, a]
theorem ob_2 {W HD : D} {p : Int} {s2 : Sl} {fd G es : List Int} {at_ : Nat} (h2 : s2 = .fz (.lst (G.map D.i))) (h : _law_rooms_from_d [HD, .lst (G.map D.i)] = .ok (.lst (es.map D.i))) :
    sSet 6 (gL (pCall _law_rooms_from_d (aCons (pV 5) (aCons (pV 1) aNil)))) (envO W p s2 fd at_ (.own HD) .no .no) = .nx (envO W p s2 fd at_ (.own HD) (.own (.lst (es.map D.i))) .no) := by
  subst h2; simp [envO, h]
theorem ob_3 {W HD : D} {p : Int} {s2 s6 : Sl} {fd G rs : List Int} {at_ : Nat} (h2 : s2 = .fz (.lst (G.map D.i))) (h : _law_rooms_to_d [HD, .lst (G.map D.i)] = .ok (.lst (rs.map D.i))) :
    sFor (nTg 7) [7, 8] (pCall _law_rooms_to_d (aCons (pV 5) (aCons (pV 1) aNil))) _law_of_use_b2 (envO W p s2 fd at_ (.own HD) s6 .no) = forL (nTg 7) [7, 8] _law_of_use_b2 (rs.map D.i) (envO W p s2 fd at_ (.own HD) s6 .no) := by
  subst h2; simp [envO, h]
theorem ob_4 {W : D} {p : Int} {s2 s5 s6 s7 : Sl} {fd : List Int} {at_ : Nat} : sSet 4 (gL (p2 dAdd (pV 4) (pC (.int 1)))) (envO W p s2 fd at_ s5 s6 s7) = .nx (envO W p s2 fd (at_ + 1) s5 s6 s7) := by
  simp [envO]
theorem ou_while {W : D} {p : Int} {Hs : List House} {R : List (Option (List Int))} {G : List Int} (p1 : 1 ≤ p) (h3 : Hs.length ≤ 3) (hk : ∀ H ∈ Hs, H.ok (p + Hs.length)) (I : LInv p Hs R G) (hG : ∀ j : Int, 0 ≤ j → j < Hs.length → (p + j ∈ G ↔ ∃ r, rowO R j = some r)) (hW : dIx W (.v (.int 1)) = .ok (.tup (Hs.map (houseD (p + Hs.length))))) :
    ∀ (n : Nat) (fd : List Int) (at_ : Nat) (s2 : Sl), Hs.length - at_ ≤ n → at_ ≤ fd.length → (s2 = .fz (.lst (G.map D.i))) → OInv p Hs R fd → (∀ (i : Nat) k, i < at_ → fd[i]? = some k → ∀ c, Edge p Hs R k c → c ∈ fd) →
      ∃ fd' at' s2', (s2' = .fz (.lst (G.map D.i))) ∧ whileN (qB (p2 dLt (pV 4) (pCall bLen (aCons (pV 3) aNil)))) [5, 6, 7, 8] _law_of_use_b3 (n + 1) (envO W p s2 fd at_ .no .no .no) = .nx (envO W p s2' fd' at' .no .no .no) ∧ OInv p Hs R fd' ∧ ∀ k ∈ fd', ∀ c, Edge p Hs R k c → c ∈ fd' := by
  have tt : ∀ s2 fd (at_ : Nat), qB (p2 dLt (pV 4) (pCall bLen (aCons (pV 3) aNil))) (envO W p s2 fd at_ .no .no .no) = .ok (decide (at_ < fd.length)) := fun s2 fd at_ => by simp [envO]
  have kl : ∀ s2 fd at_ s5 s6, kills [5, 6, 7, 8] (envO W p s2 fd at_ s5 s6 .no) = envO W p s2 fd at_ .no .no .no := fun s2 fd at_ s5 s6 => by simp [envO]
  have fin : ∀ (n : Nat) (fd : List Int) (at_ : Nat) (s2 : Sl), at_ = fd.length → (s2 = .fz (.lst (G.map D.i))) → OInv p Hs R fd → (∀ (i : Nat) k, i < at_ → fd[i]? = some k → ∀ c, Edge p Hs R k c → c ∈ fd) →
      ∃ fd' at' s2', (s2' = .fz (.lst (G.map D.i))) ∧ whileN (qB (p2 dLt (pV 4) (pCall bLen (aCons (pV 3) aNil)))) [5, 6, 7, 8] _law_of_use_b3 (n + 1) (envO W p s2 fd at_ .no .no .no) = .nx (envO W p s2' fd' at' .no .no .no) ∧ OInv p Hs R fd' ∧ ∀ k ∈ fd', ∀ c, Edge p Hs R k c → c ∈ fd' := by
    intro n fd at_ s2 e h2 O C
    refine ⟨fd, at_, s2, h2, ?_, O, fun k hk c ec => ?_⟩
    · rw [whileN, tt]
      simp [e]
    · obtain ⟨i, hi, ei⟩ := List.getElem_of_mem hk
      exact C i k (by omega) (by rw [List.getElem?_eq_getElem hi, ei]) c ec
  intro n
  induction n with
  | zero =>
    intro fd at_ s2 hn ha h2 O C
    have len := nodup_le Hs.length fd O.nd fun y hy => ⟨(O.us y hy).1, (O.us y hy).2.1⟩
    exact fin 0 fd at_ s2 (by omega) h2 O C
  | succ n ih =>
    intro fd at_ s2 hn ha h2 O C
    have len := nodup_le Hs.length fd O.nd fun y hy => ⟨(O.us y hy).1, (O.us y hy).2.1⟩
    by_cases q : at_ < fd.length
    · obtain ⟨k, hka⟩ : ∃ k, fd[at_]? = some k := ⟨fd[at_], List.getElem?_eq_getElem q⟩
      obtain ⟨k0, k1, uk⟩ := O.us k (List.mem_of_getElem? hka)
      have kl' : k.toNat < Hs.length := by omega
      have eH : hsAt Hs k = Hs[k.toNat] := by simp [hsAt, kl']
      have kk : (hsAt Hs k).ok (p + Hs.length) := by rw [eH]; exact hk _ (List.getElem_mem kl')
      have hj : dAt (Hs.map (houseD (p + Hs.length))) k = .ok (houseD (p + Hs.length) (hsAt Hs k)) := dAt_of k0 (by rw [eH]; simp [kl'])
      obtain ⟨es, e1, he⟩ := rooms_from_ok kk I.rg
      obtain ⟨rs, e2, hr⟩ := rooms_to_ok kk I.rg
      obtain ⟨fd1, s21, h21, e3, O1, i1, c1⟩ := ou_rooms (W := W) (at_ := at_) p1 h3 kk I hG he uk rs fd s2 h2 (fun x hx => (hr x).mp hx) O
      have body : _law_of_use_b3 (envO W p s2 fd at_ .no .no .no) = .nx (envO W p s21 fd1 (at_ + 1) (.own (houseD (p + Hs.length) (hsAt Hs k))) (.own (.lst (es.map D.i))) .no) := by
        rw [_law_of_use_b3, sSeq_e, ob_1 hW hj imm_houseD hka, then_nx, sSeq_e, ob_2 h2 e1, then_nx, sSeq_e, ob_3 h2 e2, e3, then_nx, ob_4]
      obtain ⟨fd2, at2, s22, h22, w2, O2, C2⟩ := ih fd1 (at_ + 1) s21 (by omega) ((List.getElem?_eq_some_iff.mp (i1 _ _ hka)).1) h21 O1 (fun i m hi hm c ec => by
        by_cases z : i = at_
        · subst z
          rw [i1 _ _ hka] at hm; cases hm
          obtain ⟨g, x, rx, tx⟩ := of_edge p1 I hG ec
          have xi : 0 ≤ x ∧ x < (hsAt Hs k).marks.length := by
            obtain ⟨w, w1, rfl⟩ := rx
            exact walk_in kk w 0 (by decide) (by have := kk.pos; omega) fun l hl => I.rg l (w1 l hl)
          have rg := I.rg _ g
          have := c1 x ((hr x).mpr rx) (p + c) g (by have := ec.1; omega) ((he _).mpr ⟨(dIx_go kk xi.1 xi.2 rg.1 rg.2).2, tx⟩)
          rwa [show p + c - p = c by omega] at this
        · have hi2 : i < fd.length := by omega
          have e1 : fd[i]? = some fd[i] := List.getElem?_eq_getElem hi2
          have := i1 _ _ e1
          rw [this] at hm; cases hm
          have := C i _ (by omega) e1 c ec
          obtain ⟨i', hi', ei⟩ := List.getElem_of_mem this
          exact List.mem_of_getElem? (i1 i' _ (by rw [List.getElem?_eq_getElem hi', ei])))
      refine ⟨fd2, at2, s22, h22, ?_, O2, C2⟩
      rw [whileN, tt]
      simp only [q, decide_true, if_true, body, kl]
      exact w2
    · exact fin _ fd at_ s2 (by omega) h2 O C
theorem ou_start {W : D} {p : Int} {G : List Int} (h0 : dIx W (.v (.int 0)) = .ok (.v (.int p))) :
    _law_of_use_s (env0 9 [W, .lst (G.map D.i)]) = if p ∈ G then (sWhile (qB (p2 dLt (pV 4) (pCall bLen (aCons (pV 3) aNil)))) [5, 6, 7, 8] _law_of_use_b3 (envO W p (.fz (.lst (G.map D.i))) [0] 0 .no .no .no)).then (sRet (gL (pCall bSortI (aCons (pV 3) aNil)))) else .rt (.lst []) [.fz W, .fz (.lst (G.map D.i)), .own (.v (.int p)), .no, .no, .no, .no, .no, .no] := by
  have e3 : ∀ s0 s1 s2 : Sl, sSet 3 (gL (pLst (aCons (pC (.int 0)) aNil))) [s0, s1, s2, .no, .no, .no, .no, .no, .no] = .nx [s0, s1, s2, .own (.lst [.v (.int 0)]), .no, .no, .no, .no, .no] := fun s0 s1 s2 => by simp
  have e4 : ∀ s0 s1 s2 s3 : Sl, sSet 4 (gL (pC (.int 0))) [s0, s1, s2, s3, .no, .no, .no, .no, .no] = .nx [s0, s1, s2, s3, .own (.v (.int 0)), .no, .no, .no, .no] := fun s0 s1 s2 s3 => by simp
  have e1 : sSet 2 (gL (pImm (p2 dIx (pV 0) (pC (.int 0))))) (env0 9 [W, .lst (G.map D.i)]) = .nx [.fz W, .fz (.lst (G.map D.i)), .own (.v (.int p)), .no, .no, .no, .no, .no, .no] := by simp [h0]
  have ee : envO W p (.fz (.lst (G.map D.i))) [0] 0 .no .no .no = [.fz W, .fz (.lst (G.map D.i)), .own (.v (.int p)), .own (.lst [.v (.int 0)]), .own (.v (.int 0)), .no, .no, .no, .no] := rfl
  rw [_law_of_use_s, sSeq_e, e1, then_nx, sSeq_e, ee]
  by_cases q : p ∈ G
  · have e5 : sIf (qB (p2 (dIn true) (pV 2) (pV 1))) (sRet (gL (pLst aNil))) sNil [.fz W, .fz (.lst (G.map D.i)), .own (.v (.int p)), .no, .no, .no, .no, .no, .no] = .nx [.fz W, .fz (.lst (G.map D.i)), .own (.v (.int p)), .no, .no, .no, .no, .no, .no] := by simp [all_ne, q]
    rw [if_pos q, e5, then_nx, sSeq_e, e3, then_nx, sSeq_e, e4, then_nx, sSeq_e]
  · have e5 : sIf (qB (p2 (dIn true) (pV 2) (pV 1))) (sRet (gL (pLst aNil))) sNil [.fz W, .fz (.lst (G.map D.i)), .own (.v (.int p)), .no, .no, .no, .no, .no, .no] = .rt (.lst []) [.fz W, .fz (.lst (G.map D.i)), .own (.v (.int p)), .no, .no, .no, .no, .no, .no] := by simp [all_ne, q]
    rw [if_neg q, e5, then_rt]
theorem of_use_ok {p : Int} {Hs : List House} {R : List (Option (List Int))} {G : List Int} (p1 : 1 ≤ p) (h1 : 1 ≤ Hs.length) (h3 : Hs.length ≤ 3) (hk : ∀ H ∈ Hs, H.ok (p + Hs.length)) (hg : ∀ j : Int, 0 ≤ j → j < Hs.length → (p + j ∈ G ↔ ∃ r, rowO R j = some r)) (I : LInv p Hs R G) :
    ∃ fd : List Int, _law_of_use_d [worksD p Hs, .lst (G.map D.i)] = .ok (.lst (fd.map D.i)) ∧ fd.Nodup ∧ fd.Pairwise (· ≤ ·) ∧ fd.length ≤ 3 ∧ (∀ j ∈ fd, 0 ≤ j ∧ j < Hs.length) ∧ ∀ j : Int, j ∈ fd ↔ Used p Hs R j := by
  have st := ou_start (p := p) (W := worksD p Hs) (G := G) (by simp [worksD])
  by_cases q : p ∈ G
  · rw [if_pos q] at st
    have r0 := (hg 0 (by decide) (by omega)).mp (by rwa [show p + 0 = p by omega])
    obtain ⟨r, hr⟩ := r0
    have O0 : OInv p Hs R [0] := ⟨by simp, fun x hx => by rw [List.mem_singleton.mp hx]; exact ⟨by omega, by omega, .zero hr⟩, by simp⟩
    obtain ⟨fd, at_, s2, h2, w, O, C⟩ := ou_while (W := worksD p Hs) p1 h3 hk I hg (by simp [worksD]) Hs.length [0] 0 (.fz (.lst (G.map D.i))) (by omega) (by simp) rfl O0 (fun i k hi => by omega)
    have len := nodup_le Hs.length fd O.nd fun y hy => ⟨(O.us y hy).1, (O.us y hy).2.1⟩
    have pm := sortI_perm (l := fd)
    refine ⟨sortI fd, ?_, pm.nodup_iff.mpr O.nd, sortI_srt, by rw [pm.length_eq]; omega, fun j hj => let q := O.us j (pm.mem_iff.mp hj); ⟨q.1, q.2.1⟩, fun j => ⟨fun h => (O.us j (pm.mem_iff.mp h)).2.2, fun h => pm.mem_iff.mpr ?_⟩⟩
    · have ww := sWhile_of (t := qB (p2 dLt (pV 4) (pCall bLen (aCons (pV 3) aNil)))) (ks := [5, 6, 7, 8]) (body := _law_of_use_b3) (e := envO (worksD p Hs) p (.fz (.lst (G.map D.i))) [0] 0 .no .no .no) (o := .nx (envO (worksD p Hs) p s2 fd at_ .no .no .no)) _ (by rw [show kills [5, 6, 7, 8] (envO (worksD p Hs) p (.fz (.lst (G.map D.i))) [0] 0 .no .no .no) = envO (worksD p Hs) p (.fz (.lst (G.map D.i))) [0] 0 .no .no .no by simp [envO]]; exact w) (by simp)
      rw [_law_of_use_d, fnD_e, st, ww]
      simp [envO]
    · induction h with
      | zero h => exact O.st
      | step _ ed ih => exact C _ ih _ ed
  · rw [if_neg q] at st
    refine ⟨[], ?_, by simp, by simp, by simp, (fun j hj => by cases hj), fun j => ⟨(fun h => by cases h), fun h => ?_⟩⟩
    · rw [_law_of_use_d, fnD_e, st]
      simp
    · exfalso
      induction h with
      | zero h => exact q (by have := (hg 0 (by decide) (by omega)).mpr ⟨_, h⟩; rwa [show p + 0 = p by omega] at this)
      | step _ _ ih => exact ih
end K82

namespace K82
open PySem PySem.Spec PyProof.Rows L2 Gw
/-! ### unlike_word: two houses walked side by side -/
abbrev Rm := Option Int
def rmD : Rm → D
  | none => .v .non
  | some i => .v (.int i)
def rmK : Rm → AK
  | none => .non
  | some i => .int i
theorem rmD_ak {x : Rm} : rmD x = akD (rmK x) := by cases x <;> rfl
theorem rmK_inj {x y : Rm} (h : rmK x = rmK y) : x = y := by
  cases x <;> cases y <;> first | rfl | (cases h; done) | (cases h; rfl)
@[simp] theorem imm_rm {x : Rm} : imm (rmD x) = true := by cases x <;> simp [rmD]
abbrev Pr := Rm × Rm
def prD (q : Pr) : D := .tup [rmD q.1, rmD q.2]
def prK (q : Pr) : Ky := .t [rmK q.1, rmK q.2]
theorem prK_inj {a b : Pr} (h : prK a = prK b) : a = b := by
  injection h with h
  injection h with h1 h2
  injection h2 with h2 _
  exact Prod.ext (rmK_inj h1) (rmK_inj h2)
theorem kY_pr {q : Pr} : kY (prD q) = some (prK q) := by
  have : prD q = .tup ([rmK q.1, rmK q.2].map akD) := by unfold prD; rw [rmD_ak, rmD_ak]; rfl
  rw [this, kY_t]; rfl
@[simp] theorem imm_pr {q : Pr} : imm (prD q) = true := by simp [prD]
abbrev Wd := List (Pr × List Int)
def keysW (W : Wd) : List D := W.map fun e => prD e.1
def valsW (W : Wd) : List D := W.map fun e => D.tup (e.2.map D.i)
theorem kOk_W {W : Wd} {q : Pr} : kOk (keysW W) (prK q) = true := by
  unfold kOk keysW
  rw [List.all_eq_true]
  intro d hd
  obtain ⟨e, _, rfl⟩ := List.mem_map.mp hd
  rw [kY_pr]; rfl
theorem kIx_W {q : Pr} : ∀ {W : Wd}, kIx (keysW W) (prK q) = W.findIdx? fun e => decide (e.1 = q)
  | [] => rfl
  | e :: W => by
    unfold keysW
    rw [List.map_cons, kIx_cons, List.findIdx?_cons, kY_pr]
    have ih := kIx_W (q := q) (W := W)
    unfold keysW at ih
    rw [ih]
    by_cases h : e.1 = q
    · simp [h]
    · rw [if_neg (fun z => h (prK_inj (Option.some.inj z)))]; simp [h]
def look (W : Wd) (q : Pr) : Option (List Int) := (W.find? fun e => decide (e.1 = q)).map (·.2)
theorem dix_W {W : Wd} {q : Pr} {u : List Int} (h : look W q = some u) : dDIx (.dic (keysW W) (valsW W)) (prD q) = .ok (.tup (u.map D.i)) := by
  rw [dDIx_e, kY_pr]
  simp only [kOk_W, if_true]
  unfold look at h
  rw [find_ix] at h
  rw [kIx_W]
  cases hj : W.findIdx? (fun e => decide (e.1 = q)) with
  | none => rw [hj] at h; cases h
  | some j =>
    rw [hj] at h
    simp only [Option.bind_some] at h ⊢
    unfold valsW
    rw [List.getElem?_map]
    cases he : W[j]? with
    | none => rw [he] at h; cases h
    | some e =>
      rw [he] at h
      simp at h
      simp [h]
theorem din_W {W : Wd} {q : Pr} : dDIn true (prD q) (.dic (keysW W) (valsW W)) = .ok (.v (.bl (decide (q ∉ W.map (·.1))))) := by
  rw [dDIn_e, kY_pr]
  simp only [kOk_W, if_true]
  rw [kIx_W]
  congr 3
  rw [List.findIdx?_isSome, decide_not]
  congr 1
  induction W with
  | nil => simp
  | cons e W ih =>
    rw [List.any_cons, ih]
    by_cases h : e.1 = q
    · simp [h]
    · simp [h, Ne.symm h]
theorem kput_W {W : Wd} {q : Pr} (h : q ∉ W.map (·.1)) : kIx (keysW W) (prK q) = none := by
  rw [kIx_W]
  rw [List.findIdx?_eq_none_iff]
  intro e he
  simp only [decide_eq_false_iff_not]
  exact fun z => h (List.mem_map.mpr ⟨e, he, z⟩)
structure Side (L : Int) (HD MD : D) (n : Rm → Int → Rm) (t : Rm → Bool) (ok : Rm → Prop) : Prop where
  nx : ∀ x l, ok x → 0 ≤ l → l < L → room_next_d [HD, rmD x, .v (.int l), MD] = .ok (rmD (n x l)) ∧ ok (n x l)
  tk : ∀ x, ok x → taken_at_d [HD, rmD x] = .ok (.v (.bl (t x)))
  z : ok (some 0)
  cd : ∀ x, ok x → x = none ∨ ∃ i : Int, x = some i ∧ 0 ≤ i ∧ i < 4
def envK (HD1 M1 HD2 M2 : D) (W : Wd) (Q : List Pr) (s6 s7 s8 s9 : Sl) : En := [.fz HD1, .fz M1, .fz HD2, .fz M2, .own (.dic (keysW W) (valsW W)), .own (.lst (Q.map prD)), s6, s7, s8, s9]
section
variable {L : Int} {HD1 M1 HD2 M2 : D} {n1 n2 : Rm → Int → Rm} {t1 t2 : Rm → Bool} {ok1 ok2 : Rm → Prop}
theorem uw_1 {W : Wd} {Q : List Pr} {q : Pr} {l : Int} {x y : Rm} (h1 : room_next_d [HD1, rmD q.1, .v (.int l), M1] = .ok (rmD x)) (h2 : room_next_d [HD2, rmD q.2, .v (.int l), M2] = .ok (rmD y)) {f : En → Ou} :
    sSeq (sSet 8 (gL (pCall room_next_d (aCons (pV 0) (aCons (p2 dIx (pV 6) (pC (.int 0))) (aCons (pV 7) (aCons (pV 1) aNil)))))))
    (sSeq (sSet 9 (gL (pCall room_next_d (aCons (pV 2) (aCons (p2 dIx (pV 6) (pC (.int 1))) (aCons (pV 7) (aCons (pV 3) aNil))))))) f) (envK HD1 M1 HD2 M2 W Q (.own (prD q)) (.fz (.v (.int l))) .no .no) = f (envK HD1 M1 HD2 M2 W Q (.own (prD q)) (.fz (.v (.int l))) (.own (rmD x)) (.own (rmD y))) := by
  simp [envK, prD, h1, h2]
theorem uw_2 {W : Wd} {Q : List Pr} {q : Pr} {l : Int} {x y : Rm} : qB (p2 (dDIn true) (pTup (aCons (pV 8) (aCons (pV 9) aNil))) (pV 4)) (envK HD1 M1 HD2 M2 W Q (.own (prD q)) (.fz (.v (.int l))) (.own (rmD x)) (.own (rmD y))) = .ok (decide ((x, y) ∉ W.map (·.1))) := by
  have h := din_W (W := W) (q := (x, y))
  unfold prD at h
  simp [envK, - dDIn_e]
  rw [h]
  simp
theorem uw_3 {W : Wd} {Q : List Pr} {q : Pr} {l : Int} {x y : Rm} {u : List Int} (hu : look W q = some u) (hn : (x, y) ∉ W.map (·.1)) (z : W.length < 1000) (zu : u.length < 1000) (s6 : Sl) (h6 : s6 = .own (prD q)) :
    sSetD (lVar 4) (pTup (aCons (pV 8) (aCons (pV 9) aNil))) (gL (p2 dAdd (p2 dDIx (pV 4) (pV 6)) (pTup (aCons (pV 7) aNil)))) (envK HD1 M1 HD2 M2 W Q s6 (.fz (.v (.int l))) (.own (rmD x)) (.own (rmD y))) = .nx (envK HD1 M1 HD2 M2 (W ++ [((x, y), u ++ [l])]) Q s6 (.fz (.v (.int l))) (.own (rmD x)) (.own (rmD y))) := by
  have sl := sline
  have g := dix_W hu
  have k1 := kY_pr (q := (x, y))
  have k2 := kOk_W (W := W) (q := (x, y))
  have k3 := kput_W hn
  unfold prD at k1
  have ll : (keysW W).length = W.length := by simp [keysW]
  have lv : (valsW W).length = W.length := by simp [valsW]
  have z1 : W.length < sizeLine := by omega
  have z2 : u.length + 1 ≤ sizeLine := by omega
  have e1 : keysW (W ++ [((x, y), u ++ [l])]) = keysW W ++ [.tup [rmD x, rmD y]] := by simp [keysW, prD]
  have e2 : valsW (W ++ [((x, y), u ++ [l])]) = valsW W ++ [.tup (u.map D.i ++ [.v (.int l)])] := by simp [valsW]
  subst h6
  simp [envK, g, k1, k2, ll, lv, z1, z2, e1, e2, kPut, vPut, k3, - dDIx_e]
theorem uw_turn (S1 : Side L HD1 M1 n1 t1 ok1) (S2 : Side L HD2 M2 n2 t2 ok2) {W : Wd} {Q : List Pr} {q : Pr} {l : Int} {u : List Int} (o1 : ok1 q.1) (o2 : ok2 q.2) (l0 : 0 ≤ l) (l1 : l < L) (hu : look W q = some u) (z : W.length < 1000) (zu : u.length < 1000) (zq : Q.length < 1000) :
    turn (nTg 7) [7, 8, 9] unlike_word_b1 (.v (.int l)) (envK HD1 M1 HD2 M2 W Q (.own (prD q)) .no .no .no) = if (n1 q.1 l, n2 q.2 l) ∈ W.map (·.1) then .nx (envK HD1 M1 HD2 M2 W Q (.own (prD q)) .no .no .no) else .nx (envK HD1 M1 HD2 M2 (W ++ [((n1 q.1 l, n2 q.2 l), u ++ [l])]) (Q ++ [(n1 q.1 l, n2 q.2 l)]) (.own (prD q)) .no .no .no) := by
  have sl := sline
  have h1 := (S1.nx q.1 l o1 l0 l1).1
  have h2 := (S2.nx q.2 l o2 l0 l1).1
  have zq1 : Q.length < sizeLine := by omega
  have st : nTg 7 (.v (.int l)) (envK HD1 M1 HD2 M2 W Q (.own (prD q)) .no .no .no) = some (envK HD1 M1 HD2 M2 W Q (.own (prD q)) (.fz (.v (.int l))) .no .no) := by simp [envK]
  have kl : ∀ (W : Wd) (Q : List Pr) s8 s9, kills [7, 8, 9] (envK HD1 M1 HD2 M2 W Q (.own (prD q)) (.fz (.v (.int l))) s8 s9) = envK HD1 M1 HD2 M2 W Q (.own (prD q)) .no .no .no := fun W Q s8 s9 => by simp [envK]
  unfold turn
  rw [st]
  simp only
  unfold unlike_word_b1
  rw [uw_1 h1 h2, sIf_e, uw_2]
  simp only
  by_cases hm : (n1 q.1 l, n2 q.2 l) ∈ W.map (·.1)
  · rw [if_pos hm]
    simp only [hm, not_true, decide_false, Bool.false_eq_true, if_false, sNil_e, kl]
  · rw [if_neg hm]
    simp only [hm, not_false_iff, decide_true, if_true]
    rw [sSeq_e, uw_3 hu hm z zu _ rfl, then_nx]
    have ap : sAppend 5 (gL (pTup (aCons (pImm (pV 8)) (aCons (pImm (pV 9)) aNil)))) (envK HD1 M1 HD2 M2 (W ++ [((n1 q.1 l, n2 q.2 l), u ++ [l])]) Q (.own (prD q)) (.fz (.v (.int l))) (.own (rmD (n1 q.1 l))) (.own (rmD (n2 q.2 l)))) = .nx (envK HD1 M1 HD2 M2 (W ++ [((n1 q.1 l, n2 q.2 l), u ++ [l])]) (Q ++ [(n1 q.1 l, n2 q.2 l)]) (.own (prD q)) (.fz (.v (.int l))) (.own (rmD (n1 q.1 l))) (.own (rmD (n2 q.2 l)))) := by
      simp [envK, zq1, prD]
    rw [ap]
    simp only [kl]
end
end K82

namespace K82
open PySem PySem.Spec PyProof.Rows L2 Gw
theorem deq_bb {a b : Bool} : deq (.v (.bl a)) (.v (.bl b)) = (a == b) := by rw [deq]
def run (n : Rm → Int → Rm) (w : List Int) : Rm := w.foldl n (some 0)
theorem run_snoc {n : Rm → Int → Rm} {w : List Int} {l : Int} : run n (w ++ [l]) = n (run n w) l := by unfold run; rw [List.foldl_append]; rfl
theorem look_of {W : Wd} (n : (W.map (·.1)).Nodup) {i : Nat} {e : Pr × List Int} (h : W[i]? = some e) : look W e.1 = some e.2 := by
  unfold look
  induction W generalizing i with
  | nil => simp at h
  | cons a W ih =>
    rw [List.map_cons, List.nodup_cons] at n
    cases i with
    | zero =>
      have : a = e := by simpa using h
      subst this
      simp
    | succ i =>
      have h : W[i]? = some e := by simpa using h
      have : ¬ a.1 = e.1 := fun z => n.1 (z ▸ List.mem_map.mpr ⟨e, List.mem_of_getElem? h, rfl⟩)
      rw [List.find?_cons]
      simp [this]
      have := ih n.2 h
      simpa using this
section
variable {L : Int} {HD1 M1 HD2 M2 : D} {n1 n2 : Rm → Int → Rm} {t1 t2 : Rm → Bool} {ok1 ok2 : Rm → Prop}
structure KInv (L : Int) (n1 n2 : Rm → Int → Rm) (ok1 ok2 : Rm → Prop) (W : Wd) : Prop where
  nd : (W.map (·.1)).Nodup
  ok : ∀ e ∈ W, ok1 e.1.1 ∧ ok2 e.1.2 ∧ (∀ l ∈ e.2, 0 ≤ l ∧ l < L) ∧ run n1 e.2 = e.1.1 ∧ run n2 e.2 = e.1.2
  len : ∀ (i : Nat) e, W[i]? = some e → e.2.length ≤ i
  st : ((some 0, some 0) : Pr) ∈ W.map (·.1)
def rmC : Rm → Int
  | none => 0
  | some i => i + 1
theorem KInv.size (S1 : Side L HD1 M1 n1 t1 ok1) (S2 : Side L HD2 M2 n2 t2 ok2) {W : Wd} (I : KInv L n1 n2 ok1 ok2 W) : W.length ≤ 25 := by
  have rg : ∀ e ∈ W, (0 ≤ rmC e.1.1 ∧ rmC e.1.1 < 5) ∧ (0 ≤ rmC e.1.2 ∧ rmC e.1.2 < 5) := fun e he => by
    obtain ⟨a, b, _⟩ := I.ok e he
    refine ⟨?_, ?_⟩
    · rcases S1.cd _ a with h | ⟨i, h, h0, h4⟩
      · rw [h]; simp [rmC]
      · rw [h]; simp [rmC]; omega
    · rcases S2.cd _ b with h | ⟨i, h, h0, h4⟩
      · rw [h]; simp [rmC]
      · rw [h]; simp [rmC]; omega
  have inj : ∀ x y : Rm, (0 ≤ rmC x ∧ rmC x < 5) → (0 ≤ rmC y ∧ rmC y < 5) → (x = none ∨ ∃ i : Int, x = some i ∧ 0 ≤ i) → (y = none ∨ ∃ i : Int, y = some i ∧ 0 ≤ i) → rmC x = rmC y → x = y := by
    intro x y _ _ hx hy h
    rcases hx with rfl | ⟨i, rfl, i0⟩ <;> rcases hy with rfl | ⟨j, rfl, j0⟩ <;> simp [rmC] at h
    · rfl
    · omega
    · omega
    · rw [h]
  have cd : ∀ e ∈ W, (e.1.1 = none ∨ ∃ i : Int, e.1.1 = some i ∧ 0 ≤ i) ∧ (e.1.2 = none ∨ ∃ i : Int, e.1.2 = some i ∧ 0 ≤ i) := fun e he => by
    obtain ⟨a, b, _⟩ := I.ok e he
    refine ⟨?_, ?_⟩
    · rcases S1.cd _ a with h | ⟨i, h, h0, _⟩
      · exact .inl h
      · exact .inr ⟨i, h, h0⟩
    · rcases S2.cd _ b with h | ⟨i, h, h0, _⟩
      · exact .inl h
      · exact .inr ⟨i, h, h0⟩
  have nd : (W.map fun e => rmC e.1.1 * 5 + rmC e.1.2).Nodup := by
    have := I.nd
    rw [List.nodup_iff_pairwise_ne, List.pairwise_map] at this ⊢
    refine this.imp_of_mem fun {a b} ha hb hne h => hne ?_
    have ra := rg a ha
    have rb := rg b hb
    have e1 : rmC a.1.1 = rmC b.1.1 := by omega
    have e2 : rmC a.1.2 = rmC b.1.2 := by omega
    exact Prod.ext (inj _ _ ra.1 rb.1 (cd a ha).1 (cd b hb).1 e1) (inj _ _ ra.2 rb.2 (cd a ha).2 (cd b hb).2 e2)
  have := nodup_le 25 _ nd fun x hx => by
    obtain ⟨e, he, rfl⟩ := List.mem_map.mp hx
    have := rg e he
    omega
  simpa using this
theorem uw_letters (S1 : Side L HD1 M1 n1 t1 ok1) (S2 : Side L HD2 M2 n2 t2 ok2) {q : Pr} {u : List Int} {at_ : Nat} :
    ∀ (ls : List Int) (W : Wd), (∀ l ∈ ls, 0 ≤ l ∧ l < L) → KInv L n1 n2 ok1 ok2 W → W[at_]? = some (q, u) → ∃ X : Wd, KInv L n1 n2 ok1 ok2 (W ++ X) ∧ (∀ l ∈ ls, ((n1 q.1 l, n2 q.2 l) : Pr) ∈ (W ++ X).map (·.1)) ∧
      forL (nTg 7) [7, 8, 9] unlike_word_b1 (ls.map D.i) (envK HD1 M1 HD2 M2 W ((W.drop (at_ + 1)).map (·.1)) (.own (prD q)) .no .no .no) = .nx (envK HD1 M1 HD2 M2 (W ++ X) (((W ++ X).drop (at_ + 1)).map (·.1)) (.own (prD q)) .no .no .no)
  | [], W, _, I, _ => ⟨[], by simpa using I, (fun l hl => by cases hl), by simp [forL_nil]⟩
  | l :: ls, W, hl, I, ha => by
    have rl := hl l (by simp)
    have hw := List.mem_of_getElem? ha
    obtain ⟨o1, o2, ru, r1, r2⟩ := I.ok _ hw
    have sz := I.size S1 S2
    have lu := I.len _ _ ha
    have al := (List.getElem?_eq_some_iff.mp ha).1
    have st := uw_turn S1 S2 (W := W) (Q := (W.drop (at_ + 1)).map (·.1)) (q := q) (l := l) (u := u) o1 o2 rl.1 rl.2 (look_of I.nd ha) (by omega) (by simp at lu; omega) (by simp; omega)
    rw [List.map_cons]
    by_cases hm : ((n1 q.1 l, n2 q.2 l) : Pr) ∈ W.map (·.1)
    · rw [if_pos hm] at st
      obtain ⟨X, I', c', e'⟩ := uw_letters S1 S2 (q := q) (u := u) (at_ := at_) ls W (fun y hy => hl y (by simp [hy])) I ha
      refine ⟨X, I', fun y hy => ?_, (forL_step st).trans e'⟩
      rcases List.mem_cons.mp hy with rfl | hy
      · rw [List.map_append]; exact List.mem_append_left _ hm
      · exact c' y hy
    · rw [if_neg hm] at st
      have I1 : KInv L n1 n2 ok1 ok2 (W ++ [((n1 q.1 l, n2 q.2 l), u ++ [l])]) := by
        refine ⟨?_, fun e he => ?_, fun i e he => ?_, by rw [List.map_append]; exact List.mem_append_left _ I.st⟩
        · rw [List.map_append, List.nodup_append]
          refine ⟨I.nd, by simp, fun a ha b hb => ?_⟩
          have : b = (n1 q.1 l, n2 q.2 l) := by simpa using hb
          rw [this]
          exact fun z => hm (z ▸ ha)
        · rcases List.mem_append.mp he with he | he
          · exact I.ok e he
          · rw [List.mem_singleton.mp he]
            refine ⟨(S1.nx _ l o1 rl.1 rl.2).2, (S2.nx _ l o2 rl.1 rl.2).2, fun y hy => ?_, by rw [run_snoc]; simp only at r1; rw [r1], by rw [run_snoc]; simp only at r2; rw [r2]⟩
            rcases List.mem_append.mp hy with hy | hy
            · exact ru y hy
            · rw [List.mem_singleton.mp hy]; exact rl
        · by_cases hi : i < W.length
          · rw [List.getElem?_append_left hi] at he
            exact I.len i e he
          · rw [List.getElem?_append_right (by omega)] at he
            have hi2 := (List.getElem?_eq_some_iff.mp he).1
            simp at hi2
            have : i = W.length := by omega
            subst this
            simp at he
            subst he
            simp at lu ⊢
            omega
      have ha1 : (W ++ [((n1 q.1 l, n2 q.2 l), u ++ [l])])[at_]? = some (q, u) := by rw [List.getElem?_append_left al]; exact ha
      obtain ⟨X, I', c', e'⟩ := uw_letters S1 S2 (q := q) (u := u) (at_ := at_) ls _ (fun y hy => hl y (by simp [hy])) I1 ha1
      rw [List.append_assoc] at I' c' e'
      have qd : ((W ++ [((n1 q.1 l, n2 q.2 l), u ++ [l])]).drop (at_ + 1)).map (·.1) = (W.drop (at_ + 1)).map (·.1) ++ [((n1 q.1 l, n2 q.2 l) : Pr)] := by
        rw [List.drop_append_of_le_length (by omega), List.map_append]; rfl
      rw [qd] at e'
      refine ⟨_, I', fun y hy => ?_, (forL_step st).trans e'⟩
      rcases List.mem_cons.mp hy with rfl | hy
      · rw [List.map_append]
        exact List.mem_append_right _ (by simp)
      · exact c' y hy
def UOut (L : Int) (n1 n2 : Rm → Int → Rm) (t1 t2 : Rm → Bool) (ok1 ok2 : Rm → Prop) (HD1 M1 HD2 M2 : D) (o : Ou) : Prop :=
  (∃ W' : Wd, o = .nx (envK HD1 M1 HD2 M2 W' [] .no .no .no .no) ∧ KInv L n1 n2 ok1 ok2 W' ∧ ∀ e ∈ W', t1 e.1.1 = t2 e.1.2 ∧ ∀ l, 0 ≤ l → l < L → ((n1 e.1.1 l, n2 e.1.2 l) : Pr) ∈ W'.map (·.1)) ∨
  ∃ (u : List Int) (e : En), o = .rt (.tup (u.map D.i)) e ∧ (∀ l ∈ u, 0 ≤ l ∧ l < L) ∧ u.length ≤ 24 ∧ t1 (run n1 u) ≠ t2 (run n2 u)
theorem uw_b1 {W : Wd} {Q : List Pr} {q : Pr} : sSet 6 (gM (lVar 5) fxPopAt (aCons (pC (.int 0)) aNil)) (envK HD1 M1 HD2 M2 W (q :: Q) .no .no .no .no) = .nx (envK HD1 M1 HD2 M2 W Q (.own (prD q)) .no .no .no) := by
  simp [envK, fxPopAt_0]
theorem uw_b2 {W : Wd} {Q : List Pr} {q : Pr} {a b : Bool} (h1 : taken_at_d [HD1, rmD q.1] = .ok (.v (.bl a))) (h2 : taken_at_d [HD2, rmD q.2] = .ok (.v (.bl b))) :
    qB (p2 (dEq true) (pCall taken_at_d (aCons (pV 0) (aCons (p2 dIx (pV 6) (pC (.int 0))) aNil))) (pCall taken_at_d (aCons (pV 2) (aCons (p2 dIx (pV 6) (pC (.int 1))) aNil)))) (envK HD1 M1 HD2 M2 W Q (.own (prD q)) .no .no .no) = .ok (!(a == b)) := by
  simp [envK, prD, h1, h2, deq_bb]
theorem uw_b3 {W : Wd} {Q : List Pr} {q : Pr} {u : List Int} (hu : look W q = some u) : sRet (gL (pImm (p2 dDIx (pV 4) (pV 6)))) (envK HD1 M1 HD2 M2 W Q (.own (prD q)) .no .no .no) = .rt (.tup (u.map D.i)) (envK HD1 M1 HD2 M2 W Q (.own (prD q)) .no .no .no) := by
  have g := dix_W hu
  simp [envK, g, - dDIx_e]
theorem uw_b4 {W : Wd} {Q : List Pr} {q : Pr} (hh : dIx HD1 (.v (.int 0)) = .ok (.v (.int L))) (lp : (-4611686018427387904 : Int) ≤ L ∧ L < 4611686018427387904) :
    sForR (nTg 7) [7, 8, 9] (p2 dIx (pV 0) (pC (.int 0))) unlike_word_b1 (envK HD1 M1 HD2 M2 W Q (.own (prD q)) .no .no .no) = forL (nTg 7) [7, 8, 9] unlike_word_b1 (((List.range L.toNat).map fun (i : Nat) => (i : Int)).map D.i) (envK HD1 M1 HD2 M2 W Q (.own (prD q)) .no .no .no) := by
  rw [List.map_map]
  simp [envK, hh, lp]
  rfl
theorem uw_while (S1 : Side L HD1 M1 n1 t1 ok1) (S2 : Side L HD2 M2 n2 t2 ok2) (hh : dIx HD1 (.v (.int 0)) = .ok (.v (.int L))) (lp : (-4611686018427387904 : Int) ≤ L ∧ L < 4611686018427387904) :
    ∀ (n : Nat) (W : Wd) (at_ : Nat), KInv L n1 n2 ok1 ok2 W → at_ ≤ W.length → 26 ≤ n + at_ → (∀ (i : Nat) e, i < at_ → W[i]? = some e → t1 e.1.1 = t2 e.1.2 ∧ ∀ l, 0 ≤ l → l < L → ((n1 e.1.1 l, n2 e.1.2 l) : Pr) ∈ W.map (·.1)) →
      UOut L n1 n2 t1 t2 ok1 ok2 HD1 M1 HD2 M2 (whileN (qB (p2 dGt (pCall bLen (aCons (pV 5) aNil)) (pC (.int 0)))) [6, 7, 8, 9] unlike_word_b2 n (envK HD1 M1 HD2 M2 W ((W.drop at_).map (·.1)) .no .no .no .no)) := by
  intro n
  induction n with
  | zero =>
    intro W at_ I ha hn _
    have := I.size S1 S2
    omega
  | succ n ih =>
    intro W at_ I ha hn C
    have tt : qB (p2 dGt (pCall bLen (aCons (pV 5) aNil)) (pC (.int 0))) (envK HD1 M1 HD2 M2 W ((W.drop at_).map (·.1)) .no .no .no .no) = .ok (decide (at_ < W.length)) := by
      simp [envK]
      omega
    rw [whileN, tt]
    simp only
    by_cases hlt : at_ < W.length
    · obtain ⟨⟨q, u⟩, he⟩ : ∃ e, W[at_]? = some e := ⟨W[at_], List.getElem?_eq_getElem hlt⟩
      have hd : W.drop at_ = (q, u) :: W.drop (at_ + 1) := by
        rw [List.drop_eq_getElem_cons hlt]
        congr 1
        exact (List.getElem?_eq_some_iff.mp he).2
      obtain ⟨o1, o2, ru, r1, r2⟩ := I.ok _ (List.mem_of_getElem? he)
      have k1 := S1.tk _ o1
      have k2 := S2.tk _ o2
      have lk := look_of I.nd he
      simp only at o1 o2 r1 r2 k1 k2 lk ru
      rw [if_pos (by simpa using hlt), hd, List.map_cons]
      unfold unlike_word_b2
      rw [sSeq_e, uw_b1, then_nx, sSeq_e, sIf_e, uw_b2 k1 k2]
      simp only
      by_cases hq : t1 q.1 = t2 q.2
      · rw [if_neg (by simp [hq]), sNil_e, then_nx, uw_b4 hh lp]
        obtain ⟨X, I', c', e'⟩ := uw_letters S1 S2 (q := q) (u := u) (at_ := at_) ((List.range L.toNat).map fun (i : Nat) => (i : Int)) W (fun l hl => by
          obtain ⟨i, hi, rfl⟩ := List.mem_map.mp hl
          have := List.mem_range.mp hi
          omega) I he
        rw [e']
        simp only
        have kl : kills [6, 7, 8, 9] (envK HD1 M1 HD2 M2 (W ++ X) (((W ++ X).drop (at_ + 1)).map (·.1)) (.own (prD q)) .no .no .no) = envK HD1 M1 HD2 M2 (W ++ X) (((W ++ X).drop (at_ + 1)).map (·.1)) .no .no .no .no := by simp [envK]
        rw [kl]
        refine ih (W ++ X) (at_ + 1) I' (by rw [List.length_append]; omega) (by omega) fun i e hi hie => ?_
        by_cases hi2 : i < at_
        · rw [List.getElem?_append_left (by omega)] at hie
          have := C i e hi2 hie
          exact ⟨this.1, fun l l0 l1 => by rw [List.map_append]; exact List.mem_append_left _ (this.2 l l0 l1)⟩
        · have : i = at_ := by omega
          subst this
          rw [List.getElem?_append_left hlt, he] at hie
          cases hie
          exact ⟨hq, fun l l0 l1 => c' l (List.mem_map.mpr ⟨l.toNat, List.mem_range.mpr (by omega), by omega⟩)⟩
      · rw [if_pos (by simpa using hq), uw_b3 lk, then_rt]
        refine .inr ⟨u, _, rfl, ru, ?_, by rw [r1, r2]; exact hq⟩
        have := I.len _ _ he
        have := I.size S1 S2
        simp at *
        omega
    · rw [if_neg (by simpa using hlt)]
      have : at_ = W.length := by omega
      subst this
      refine .inl ⟨W, by simp, I, fun e he => ?_⟩
      obtain ⟨i, hi, ei⟩ := List.getElem_of_mem he
      exact C i e hi (by rw [List.getElem?_eq_getElem hi, ei])
theorem unlike_ok (S1 : Side L HD1 M1 n1 t1 ok1) (S2 : Side L HD2 M2 n2 t2 ok2) (hh : dIx HD1 (.v (.int 0)) = .ok (.v (.int L))) (lp : (-4611686018427387904 : Int) ≤ L ∧ L < 4611686018427387904) :
    ∃ o : Option (List Int), unlike_word_d [HD1, M1, HD2, M2] = .ok (rowD o) ∧ (o = none → ∀ w : List Int, (∀ l ∈ w, 0 ≤ l ∧ l < L) → t1 (run n1 w) = t2 (run n2 w)) ∧ ∀ w, o = some w → (∀ l ∈ w, 0 ≤ l ∧ l < L) ∧ w.length ≤ 24 ∧ t1 (run n1 w) ≠ t2 (run n2 w) := by
  have I0 : KInv L n1 n2 ok1 ok2 [((some 0, some 0), [])] := by
    refine ⟨by simp, fun e he => ?_, fun i e he => ?_, by simp⟩
    · rw [List.mem_singleton.mp he]
      exact ⟨S1.z, S2.z, (fun l hl => by cases hl), rfl, rfl⟩
    · cases i with
      | zero =>
        simp at he
        subst he
        simp
      | succ i => simp at he
  have q := uw_while S1 S2 hh lp 26 [((some 0, some 0), [])] 0 I0 (by simp) (by omega) (fun i e hi => by omega)
  have k0 : kY (D.tup [.v (.int 0), .v (.int 0)]) = some (prK (some 0, some 0)) := kY_pr (q := (some 0, some 0))
  have s1 : sSet 4 (gL (pDic1 (pTup (aCons (pC (.int 0)) (aCons (pC (.int 0)) aNil))) (pTup aNil))) (env0 10 [HD1, M1, HD2, M2]) = .nx [.fz HD1, .fz M1, .fz HD2, .fz M2, .own (.dic (keysW [((some 0, some 0), [])]) (valsW [((some 0, some 0), [])])), .no, .no, .no, .no, .no] := by
    simp [k0, keysW, valsW, prD, rmD]
  have s2 : ∀ d, sSet 5 (gL (pLst (aCons (pTup (aCons (pC (.int 0)) (aCons (pC (.int 0)) aNil))) aNil))) [.fz HD1, .fz M1, .fz HD2, .fz M2, .own d, .no, .no, .no, .no, .no] = .nx [.fz HD1, .fz M1, .fz HD2, .fz M2, .own d, .own (.lst [.tup [.v (.int 0), .v (.int 0)]]), .no, .no, .no, .no] := fun d => by simp
  have s3 : envK HD1 M1 HD2 M2 [((some 0, some 0), [])] [(some 0, some 0)] .no .no .no .no = [.fz HD1, .fz M1, .fz HD2, .fz M2, .own (.dic (keysW [((some 0, some 0), [])]) (valsW [((some 0, some 0), [])])), .own (.lst [.tup [.v (.int 0), .v (.int 0)]]), .no, .no, .no, .no] := rfl
  have s4 : kills [6, 7, 8, 9] (envK HD1 M1 HD2 M2 [((some 0, some 0), [])] [(some 0, some 0)] .no .no .no .no) = envK HD1 M1 HD2 M2 [((some 0, some 0), [])] [(some 0, some 0)] .no .no .no .no := by simp [envK]
  have q : UOut L n1 n2 t1 t2 ok1 ok2 HD1 M1 HD2 M2 (whileN (qB (p2 dGt (pCall bLen (aCons (pV 5) aNil)) (pC (.int 0)))) [6, 7, 8, 9] unlike_word_b2 26 (envK HD1 M1 HD2 M2 [((some 0, some 0), [])] [(some 0, some 0)] .no .no .no .no)) := q
  rw [unlike_word_d, fnD_e, unlike_word_s, sSeq_e, s1, then_nx, sSeq_e, s2, then_nx, sSeq_e, ← s3]
  rcases q with ⟨W, hw, I, C⟩ | ⟨u, e, hw, h1, h2, h3⟩
  · have ww := sWhile_of (t := qB (p2 dGt (pCall bLen (aCons (pV 5) aNil)) (pC (.int 0)))) (ks := [6, 7, 8, 9]) (body := unlike_word_b2) (e := envK HD1 M1 HD2 M2 [((some 0, some 0), [])] [(some 0, some 0)] .no .no .no .no) (o := .nx (envK HD1 M1 HD2 M2 W [] .no .no .no .no)) 26 (by rw [s4]; exact hw) (by simp)
    refine ⟨none, by rw [ww]; simp, fun _ w hl => ?_, fun w h => by cases h⟩
    have all : ∀ (w : List Int) (q : Pr), (∀ l ∈ w, 0 ≤ l ∧ l < L) → q ∈ W.map (·.1) → ((w.foldl n1 q.1, w.foldl n2 q.2) : Pr) ∈ W.map (·.1) := by
      intro w
      induction w with
      | nil => intro q _ h; exact h
      | cons l w ih =>
        intro q hl hq
        rw [List.foldl_cons, List.foldl_cons]
        obtain ⟨e, he, rfl⟩ := List.mem_map.mp hq
        have := hl l (by simp)
        exact ih (n1 e.1.1 l, n2 e.1.2 l) (fun y hy => hl y (by simp [hy])) ((C e he).2 l this.1 this.2)
    obtain ⟨e, he, ee⟩ := List.mem_map.mp (all w (some 0, some 0) hl I.st)
    have := (C e he).1
    rw [ee] at this
    exact this
  · have ww := sWhile_of (t := qB (p2 dGt (pCall bLen (aCons (pV 5) aNil)) (pC (.int 0)))) (ks := [6, 7, 8, 9]) (body := unlike_word_b2) (e := envK HD1 M1 HD2 M2 [((some 0, some 0), [])] [(some 0, some 0)] .no .no .no .no) (o := .rt (.tup (u.map D.i)) e) 26 (by rw [s4]; exact hw) (by simp)
    refine ⟨some u, by rw [ww]; simp, (fun h => by cases h), fun w h => ?_⟩
    cases h
    exact ⟨h1, h2, h3⟩
end
end K82

namespace K82
open PySem PySem.Spec PyProof.Rows L2 Gw
/-! ### the sides, in fact -/
def nxt (H : House) (M : Int → Option (List Int)) : Rm → Int → Rm
  | some r, l => if (M l).isSome = true then some (H.go r l) else none
  | none, _ => none
def tkH (H : House) : Rm → Bool
  | some r => H.mark r != 0
  | none => false
def okR (H : House) (x : Rm) : Prop := x = none ∨ ∃ i : Int, x = some i ∧ 0 ≤ i ∧ i < H.marks.length
theorem side_ok {L : Int} {H : House} {Ml : List (Option (List Int))} (k : H.ok L) (hM : (Ml.length : Int) = L) : Side L (houseD L H) (.lst (Ml.map rowD)) (nxt H (rowO Ml)) (tkH H) (okR H) := by
  refine ⟨fun x l ho l0 l1 => ?_, fun x ho => ?_, .inr ⟨0, rfl, by decide, by have := k.pos; omega⟩, fun x ho => ?_⟩
  · have dr := dAt_row (F := Ml) l0 (by omega)
    rcases ho with rfl | ⟨i, rfl, i0, i1⟩
    · refine ⟨?_, .inl rfl⟩
      simp [room_next_d, room_next_s, rmD, nxt]
    · obtain ⟨g1, g2, g3⟩ := dIx_go k i0 i1 l0 l1
      have w := dIx_way k i0 i1
      simp only [List.getD_eq_getElem?_getD] at g1 w
      cases hm : rowO Ml l with
      | none =>
        rw [hm] at dr
        refine ⟨?_, .inl (by simp [nxt, hm])⟩
        simp [room_next_d, room_next_s, rmD, nxt, hm, dr]
      | some r =>
        rw [hm] at dr
        refine ⟨?_, .inr ⟨H.go i l, by simp [nxt, hm], g2, g3⟩⟩
        simp at dr
        simp [room_next_d, room_next_s, rmD, nxt, hm, dr, houseD, w, g1]
  · rcases ho with rfl | ⟨i, rfl, i0, i1⟩
    · simp [taken_at_d, taken_at_s, rmD, tkH]
    · have m := dIx_mark i0 i1
      simp [taken_at_d, taken_at_s, rmD, tkH, houseD, m]
      by_cases q : H.mark i = 0 <;> simp [q]
  · rcases ho with rfl | ⟨i, rfl, i0, i1⟩
    · exact .inl rfl
    · exact .inr ⟨i, rfl, i0, by have := k.le; omega⟩
theorem fold_none {H : House} {M : Int → Option (List Int)} : ∀ {w : List Int}, w.foldl (nxt H M) none = none
  | [] => rfl
  | l :: w => by rw [List.foldl_cons]; exact fold_none
theorem fold_made {H : House} {M : Int → Option (List Int)} : ∀ {w : List Int} {r : Int}, (∀ l ∈ w, (M l).isSome = true) → w.foldl (nxt H M) (some r) = some (H.walk r w)
  | [], r, _ => rfl
  | l :: w, r, h => by
    rw [List.foldl_cons, nxt, if_pos (h l (by simp)), fold_made fun y hy => h y (by simp [hy])]
    rfl
theorem fold_not {H : House} {M : Int → Option (List Int)} : ∀ {w : List Int} {r : Int}, (¬ ∀ l ∈ w, (M l).isSome = true) → w.foldl (nxt H M) (some r) = none
  | [], r, h => absurd (fun l hl => by cases hl) h
  | l :: w, r, h => by
    rw [List.foldl_cons, nxt]
    by_cases q : (M l).isSome = true
    · rw [if_pos q]
      refine fold_not fun z => h fun y hy => ?_
      rcases List.mem_cons.mp hy with rfl | hy
      · exact q
      · exact z y hy
    · rw [if_neg q]; exact fold_none
theorem tk_run {H : House} {M : Int → Option (List Int)} {w : List Int} : tkH H (run (nxt H M) w) = true ↔ (∀ l ∈ w, (M l).isSome = true) ∧ H.mark (H.walk 0 w) ≠ 0 := by
  unfold run
  by_cases h : ∀ l ∈ w, (M l).isSome = true
  · rw [fold_made h]
    simp [tkH]
    exact fun _ => h
  · rw [fold_not h]
    simp only [tkH, Bool.false_eq_true, false_iff]
    exact fun z => h z.1
/-! ### told_word -/
theorem tw_loop {L k : Int} {W HD MD LD : D} {n : Rm → Int → Rm} {t : Rm → Bool} {ok : Rm → Prop} {Hd : List D} (S : Side L HD MD n t ok) (hh : dIx W (.v (.int 1)) = .ok (.tup Hd)) (hk : dAt Hd k = .ok HD) :
    ∀ (w : List Int) (x : Rm) (s4 : Sl), ok x → (s4 = .own (rmD x)) → (∀ l ∈ w, 0 ≤ l ∧ l < L) → ∃ y, ok y ∧ y = w.foldl n x ∧ forL (nTg 5) [5] told_word_b1 (w.map D.i) [.fz W, .fz (.v (.int k)), .fz MD, .fz LD, s4, .no] = .nx [.fz W, .fz (.v (.int k)), .fz MD, .fz LD, .own (rmD y), .no]
  | [], x, s4, o, h, _ => ⟨x, o, rfl, by simp [forL_nil, h]⟩
  | l :: w, x, s4, o, h, hl => by
    have r := hl l (by simp)
    obtain ⟨e, o'⟩ := S.nx x l o r.1 r.2
    obtain ⟨y, oy, ey, ef⟩ := tw_loop (LD := LD) S hh hk w (n x l) _ o' rfl fun z hz => hl z (by simp [hz])
    refine ⟨y, oy, ey, ?_⟩
    rw [List.map_cons]
    refine (forL_step ?_).trans ef
    subst h
    simp [turn, told_word_b1, hh, hk, e]
theorem told_ok {L k : Int} {W HD MD : D} {n : Rm → Int → Rm} {t : Rm → Bool} {ok : Rm → Prop} {Hd : List D} (S : Side L HD MD n t ok) (hh : dIx W (.v (.int 1)) = .ok (.tup Hd)) (hk : dAt Hd k = .ok HD) {w : List Int} (hl : ∀ l ∈ w, 0 ≤ l ∧ l < L) :
    told_word_d [W, .v (.int k), MD, .tup (w.map D.i)] = .ok (.v (.bl (t (run n w)))) := by
  obtain ⟨y, oy, ey, ef⟩ := tw_loop (LD := .tup (w.map D.i)) S hh hk w (some 0) _ S.z rfl hl
  have e := S.tk y oy
  have r0 : rmD (some 0) = .v (.int 0) := rfl
  rw [r0] at ef
  unfold run
  rw [← ey]
  simp [told_word_d, told_word_s]
  rw [ef]
  simp [hh, hk, e]
end K82

namespace K82
open PySem PySem.Spec PyProof.Rows L2 Gw
/-! ### the law's houses unlike -/
abbrev Cp := Int × Int
def cpD (q : Cp) : D := .tup [.v (.int q.1), .v (.int q.2)]
@[simp] theorem imm_cp {q : Cp} : imm (cpD q) = true := by simp [cpD]
theorem deq_cp {a b : Cp} : deq (cpD a) (cpD b) = decide (a = b) := by
  obtain ⟨a1, a2⟩ := a
  obtain ⟨b1, b2⟩ := b
  simp [cpD]
theorem any_cp {l : List Cp} {q : Cp} : (l.map cpD).any (fun z => deq z (cpD q)) = decide (q ∈ l) := by
  induction l with
  | nil => simp
  | cons a l ih =>
    rw [List.map_cons, List.any_cons, ih, deq_cp]
    by_cases h : a = q
    · simp [h]
    · simp [h, Ne.symm h]
theorem dok_cp {n : Nat} {q : Cp} : dok (n + 1) (cpD q) = true := by simp [cpD]
theorem doks_cp {n : Nat} : ∀ {l : List Cp}, doks (n + 1) (l.map cpD) = true
  | [] => by simp
  | a :: l => by rw [List.map_cons, doks_cons, dok_cp, doks_cp]; rfl
theorem in_cp {l : List Cp} {q : Cp} : dIn true (cpD q) (.lst (l.map cpD)) = .ok (.v (.bl (decide (q ∉ l)))) := by
  rw [dIn, dok_cp, doks_cp]
  simp only [Bool.and_self, if_true]
  rw [any_cp, decide_not]
def envH (HD1 HD2 LS : D) (C : List Cp) (at_ : Nat) (s5 s6 s7 s8 : Sl) : En := [.fz HD1, .fz HD2, .fz LS, .own (.lst (C.map cpD)), .own (.v (.int (at_ : Int))), s5, s6, s7, s8]
section
variable {L : Int} {H1 H2 : House} {ls : List Int}
theorem hu_turn {C : List Cp} {at_ : Nat} {a b l : Int} {s7 : Sl} (k1 : H1.ok L) (k2 : H2.ok L) (a0 : 0 ≤ a) (a1 : a < H1.marks.length) (b0 : 0 ≤ b) (b1 : b < H2.marks.length) (l0 : 0 ≤ l) (l1 : l < L) (z : C.length < 1000) :
    turn (nTg 7) [7, 8] _law_houses_unlike_b1 (.v (.int l)) (envH (houseD L H1) (houseD L H2) (.lst (ls.map D.i)) C at_ (.fz (.v (.int a))) (.fz (.v (.int b))) .no .no) = .nx (envH (houseD L H1) (houseD L H2) (.lst (ls.map D.i)) (if (H1.go a l, H2.go b l) ∈ C then C else C ++ [(H1.go a l, H2.go b l)]) at_ (.fz (.v (.int a))) (.fz (.v (.int b))) .no .no) := by
  have sl := sline
  obtain ⟨g1, _⟩ := dIx_go k1 a0 a1 l0 l1
  have w1 := dIx_way k1 a0 a1
  obtain ⟨g2, _⟩ := dIx_go k2 b0 b1 l0 l1
  have w2 := dIx_way k2 b0 b1
  have i := in_cp (l := C) (q := (H1.go a l, H2.go b l))
  have z1 : C.length < sizeLine := by omega
  simp only [cpD] at i
  simp only [List.getD_eq_getElem?_getD] at g1 w1 g2 w2
  have this : sSet 8 (gL (pTup (aCons (pImm (p2 dIx (p2 dIx (p2 dIx (pV 0) (pC (.int 2))) (pV 5)) (pV 7))) (aCons (pImm (p2 dIx (p2 dIx (p2 dIx (pV 1) (pC (.int 2))) (pV 6)) (pV 7))) aNil)))) (envH (houseD L H1) (houseD L H2) (.lst (ls.map D.i)) C at_ (.fz (.v (.int a))) (.fz (.v (.int b))) (.fz (.v (.int l))) .no) = .nx (envH (houseD L H1) (houseD L H2) (.lst (ls.map D.i)) C at_ (.fz (.v (.int a))) (.fz (.v (.int b))) (.fz (.v (.int l))) (.own (cpD (H1.go a l, H2.go b l)))) := by
    simp [envH, houseD, w1, w2, g1, g2, cpD]
  have st : nTg 7 (.v (.int l)) (envH (houseD L H1) (houseD L H2) (.lst (ls.map D.i)) C at_ (.fz (.v (.int a))) (.fz (.v (.int b))) .no .no) = some (envH (houseD L H1) (houseD L H2) (.lst (ls.map D.i)) C at_ (.fz (.v (.int a))) (.fz (.v (.int b))) (.fz (.v (.int l))) .no) := by simp [envH]
  have tt : qB (p2 (dIn true) (pV 8) (pV 3)) (envH (houseD L H1) (houseD L H2) (.lst (ls.map D.i)) C at_ (.fz (.v (.int a))) (.fz (.v (.int b))) (.fz (.v (.int l))) (.own (cpD (H1.go a l, H2.go b l)))) = .ok (decide ((H1.go a l, H2.go b l) ∉ C)) := by
    have : ∀ X : D, X = .lst (C.map cpD) → qB (p2 (dIn true) (pV 8) (pV 3)) [.fz (houseD L H1), .fz (houseD L H2), .fz (.lst (ls.map D.i)), .own X, .own (.v (.int (at_ : Int))), .fz (.v (.int a)), .fz (.v (.int b)), .fz (.v (.int l)), .own (cpD (H1.go a l, H2.go b l))] = (dIn true (cpD (H1.go a l, H2.go b l)) X).bind dBool := fun X hX => rfl
    unfold envH
    rw [this _ rfl, in_cp]
    rfl
  unfold turn
  rw [st]
  simp only
  rw [_law_houses_unlike_b1, sSeq_e, this, then_nx, sIf_e, tt]
  simp only
  by_cases hm : (H1.go a l, H2.go b l) ∈ C
  · simp [hm, envH]
  · simp [hm, envH, z1]
def WalkTo (H1 H2 : House) (ls : List Int) (q : Cp) : Prop := ∃ w : List Int, (∀ l ∈ w, l ∈ ls) ∧ H1.walk 0 w = q.1 ∧ H2.walk 0 w = q.2
structure HInv (H1 H2 : House) (ls : List Int) (C : List Cp) : Prop where
  nd : C.Nodup
  ok : ∀ q ∈ C, (0 ≤ q.1 ∧ q.1 < H1.marks.length) ∧ (0 ≤ q.2 ∧ q.2 < H2.marks.length) ∧ WalkTo H1 H2 ls q
  st : ((0, 0) : Cp) ∈ C
theorem HInv.size {C : List Cp} (k1 : H1.ok L) (k2 : H2.ok L) (I : HInv H1 H2 ls C) : C.length ≤ 16 := by
  have l1 := k1.le
  have l2 := k2.le
  have nd : (C.map fun q => q.1 * 4 + q.2).Nodup := by
    have := I.nd
    rw [List.nodup_iff_pairwise_ne, List.pairwise_map]
    rw [List.nodup_iff_pairwise_ne] at this
    refine this.imp_of_mem fun {a b} ha hb hne h => hne ?_
    have ra := I.ok a ha
    have rb := I.ok b hb
    exact Prod.ext (by omega) (by omega)
  have := nodup_le 16 _ nd fun x hx => by
    obtain ⟨q, hq, rfl⟩ := List.mem_map.mp hx
    have := I.ok q hq
    omega
  simpa using this
theorem hu_letters {a b : Int} {at_ : Nat} (k1 : H1.ok L) (k2 : H2.ok L) (hl : ∀ l ∈ ls, 0 ≤ l ∧ l < L) :
    ∀ (l : List Int) (C : List Cp), (∀ y ∈ l, y ∈ ls) → HInv H1 H2 ls C → (a, b) ∈ C → ∃ X, HInv H1 H2 ls (C ++ X) ∧ (∀ y ∈ l, (H1.go a y, H2.go b y) ∈ C ++ X) ∧
      forL (nTg 7) [7, 8] _law_houses_unlike_b1 (l.map D.i) (envH (houseD L H1) (houseD L H2) (.lst (ls.map D.i)) C at_ (.fz (.v (.int a))) (.fz (.v (.int b))) .no .no) = .nx (envH (houseD L H1) (houseD L H2) (.lst (ls.map D.i)) (C ++ X) at_ (.fz (.v (.int a))) (.fz (.v (.int b))) .no .no)
  | [], C, _, I, _ => ⟨[], by simpa using I, (fun y hy => by cases hy), by simp [forL_nil]⟩
  | y :: l, C, hs, I, ha => by
    have hy := hs y (by simp)
    have ry := hl y hy
    obtain ⟨⟨a0, a1⟩, ⟨b0, b1⟩, w, w1, w2, w3⟩ := I.ok _ ha
    simp only at a0 a1 b0 b1 w2 w3
    have sz := I.size k1 k2
    have st := hu_turn (ls := ls) (C := C) (at_ := at_) (s7 := .no) k1 k2 a0 a1 b0 b1 ry.1 ry.2 (by omega)
    rw [List.map_cons]
    by_cases hm : (H1.go a y, H2.go b y) ∈ C
    · rw [if_pos hm] at st
      obtain ⟨X, I', c', e'⟩ := hu_letters (at_ := at_) k1 k2 hl l C (fun z hz => hs z (by simp [hz])) I ha
      refine ⟨X, I', fun z hz => ?_, (forL_step st).trans e'⟩
      rcases List.mem_cons.mp hz with rfl | hz
      · exact List.mem_append_left _ hm
      · exact c' z hz
    · rw [if_neg hm] at st
      have I1 : HInv H1 H2 ls (C ++ [(H1.go a y, H2.go b y)]) := by
        refine ⟨?_, fun q hq => ?_, List.mem_append_left _ I.st⟩
        · rw [List.nodup_append]
          refine ⟨I.nd, by simp, fun p hp r hr => ?_⟩
          rw [List.mem_singleton.mp hr]
          exact fun e => hm (e ▸ hp)
        · rcases List.mem_append.mp hq with hq | hq
          · exact I.ok q hq
          · rw [List.mem_singleton.mp hq]
            refine ⟨(dIx_go k1 a0 a1 ry.1 ry.2).2, (dIx_go k2 b0 b1 ry.1 ry.2).2, w ++ [y], fun z hz => ?_, ?_, ?_⟩
            · rcases List.mem_append.mp hz with hz | hz
              · exact w1 z hz
              · rw [List.mem_singleton.mp hz]; exact hy
            · rw [walk_app, w2]; rfl
            · rw [walk_app, w3]; rfl
      obtain ⟨X, I', c', e'⟩ := hu_letters (at_ := at_) k1 k2 hl l _ (fun z hz => hs z (by simp [hz])) I1 (List.mem_append_left _ ha)
      rw [List.append_assoc] at I' c' e'
      refine ⟨_, I', fun z hz => ?_, (forL_step st).trans e'⟩
      rcases List.mem_cons.mp hz with rfl | hz
      · simp
      · exact c' z hz
def HOut (L : Int) (H1 H2 : House) (ls : List Int) (o : Ou) : Prop :=
  (∃ (C : List Cp) (at_ : Nat), o = .nx (envH (houseD L H1) (houseD L H2) (.lst (ls.map D.i)) C at_ .no .no .no .no) ∧ HInv H1 H2 ls C ∧ ∀ q ∈ C, (H1.mark q.1 = 0 ↔ H2.mark q.2 = 0) ∧ ∀ l ∈ ls, (H1.go q.1 l, H2.go q.2 l) ∈ C) ∨
  ∃ (e : En), o = .rt (.v (.bl true)) e ∧ ∃ w : List Int, (∀ l ∈ w, l ∈ ls) ∧ ¬ (H1.mark (H1.walk 0 w) = 0 ↔ H2.mark (H2.walk 0 w) = 0)
theorem hu_b1 {C : List Cp} {at_ : Nat} {q : Cp} {HD1 HD2 LS : D} (h : C[at_]? = some q) : sUn (nTup (nsCons (nTg 5) (nsCons (nTg 6) nsNil))) (pImm (p2 dIx (pV 3) (pV 4))) (envH HD1 HD2 LS C at_ .no .no .no .no) = .nx (envH HD1 HD2 LS C at_ (.fz (.v (.int q.1))) (.fz (.v (.int q.2))) .no .no) := by
  have a : dAt (C.map cpD) (at_ : Int) = .ok (cpD q) := dAt_of (by omega) (by simp [h])
  simp [envH, a]
  simp [cpD]
theorem hu_b2 {C : List Cp} {at_ : Nat} {a b : Int} {LS : D} (a0 : 0 ≤ a) (a1 : a < H1.marks.length) (b0 : 0 ≤ b) (b1 : b < H2.marks.length) :
    qB (p2 (dEq true) (p2 (dEq false) (p2 dIx (p2 dIx (pV 0) (pC (.int 1))) (pV 5)) (pC (.int 0))) (p2 (dEq false) (p2 dIx (p2 dIx (pV 1) (pC (.int 1))) (pV 6)) (pC (.int 0)))) (envH (houseD L H1) (houseD L H2) LS C at_ (.fz (.v (.int a))) (.fz (.v (.int b))) .no .no) = .ok (!(decide (H1.mark a = 0) == decide (H2.mark b = 0))) := by
  have m1 := dIx_mark a0 a1
  have m2 := dIx_mark b0 b1
  simp [envH, houseD, m1, m2, deq_bb]
theorem hu_while (k1 : H1.ok L) (k2 : H2.ok L) (hl : ∀ l ∈ ls, 0 ≤ l ∧ l < L) :
    ∀ (n : Nat) (C : List Cp) (at_ : Nat), HInv H1 H2 ls C → at_ ≤ C.length → 17 ≤ n + at_ → (∀ (i : Nat) q, i < at_ → C[i]? = some q → (H1.mark q.1 = 0 ↔ H2.mark q.2 = 0) ∧ ∀ l ∈ ls, (H1.go q.1 l, H2.go q.2 l) ∈ C) →
      HOut L H1 H2 ls (whileN (qB (p2 dLt (pV 4) (pCall bLen (aCons (pV 3) aNil)))) [5, 6, 7, 8] _law_houses_unlike_b2 n (envH (houseD L H1) (houseD L H2) (.lst (ls.map D.i)) C at_ .no .no .no .no)) := by
  intro n
  induction n with
  | zero =>
    intro C at_ I ha hn _
    have := I.size k1 k2
    omega
  | succ n ih =>
    intro C at_ I ha hn hC
    have tt : qB (p2 dLt (pV 4) (pCall bLen (aCons (pV 3) aNil))) (envH (houseD L H1) (houseD L H2) (.lst (ls.map D.i)) C at_ .no .no .no .no) = .ok (decide (at_ < C.length)) := by simp [envH]
    rw [whileN, tt]
    simp only
    by_cases hlt : at_ < C.length
    · obtain ⟨⟨a, b⟩, he⟩ : ∃ q, C[at_]? = some q := ⟨C[at_], List.getElem?_eq_getElem hlt⟩
      have hm := List.mem_of_getElem? he
      obtain ⟨⟨a0, a1⟩, ⟨b0, b1⟩, w, w1, w2, w3⟩ := I.ok _ hm
      simp only at a0 a1 b0 b1 w2 w3
      rw [if_pos (by simpa using hlt)]
      unfold _law_houses_unlike_b2
      rw [sSeq_e, hu_b1 he, then_nx, sSeq_e, sIf_e, hu_b2 a0 a1 b0 b1]
      simp only
      by_cases hq : H1.mark a = 0 ↔ H2.mark b = 0
      · have hq' : decide (H1.mark a = 0) = decide (H2.mark b = 0) := decide_eq_decide.mpr hq
        rw [if_neg (by simp [hq']), sNil_e, then_nx]
        obtain ⟨X, I', c', e'⟩ := hu_letters (at_ := at_) k1 k2 hl ls C (fun y hy => hy) I hm
        have ef : sFor (nTg 7) [7, 8] (pFz 2) _law_houses_unlike_b1 (envH (houseD L H1) (houseD L H2) (.lst (ls.map D.i)) C at_ (.fz (.v (.int a))) (.fz (.v (.int b))) .no .no) = .nx (envH (houseD L H1) (houseD L H2) (.lst (ls.map D.i)) (C ++ X) at_ (.fz (.v (.int a))) (.fz (.v (.int b))) .no .no) := by
          rw [← e']
          simp [envH]
        have e4 : sSet 4 (gL (p2 dAdd (pV 4) (pC (.int 1)))) (envH (houseD L H1) (houseD L H2) (.lst (ls.map D.i)) (C ++ X) at_ (.fz (.v (.int a))) (.fz (.v (.int b))) .no .no) = .nx (envH (houseD L H1) (houseD L H2) (.lst (ls.map D.i)) (C ++ X) (at_ + 1) (.fz (.v (.int a))) (.fz (.v (.int b))) .no .no) := by
          simp [envH]
        have kl : kills [5, 6, 7, 8] (envH (houseD L H1) (houseD L H2) (.lst (ls.map D.i)) (C ++ X) (at_ + 1) (.fz (.v (.int a))) (.fz (.v (.int b))) .no .no) = envH (houseD L H1) (houseD L H2) (.lst (ls.map D.i)) (C ++ X) (at_ + 1) .no .no .no .no := by simp [envH]
        rw [sSeq_e, ef, then_nx, e4]
        simp only
        rw [kl]
        refine ih (C ++ X) (at_ + 1) I' (by rw [List.length_append]; omega) (by omega) fun i q hi hie => ?_
        by_cases hi2 : i < at_
        · rw [List.getElem?_append_left (by omega)] at hie
          have := hC i q hi2 hie
          exact ⟨this.1, fun l hl' => List.mem_append_left _ (this.2 l hl')⟩
        · have : i = at_ := by omega
          subst this
          rw [List.getElem?_append_left hlt, he] at hie
          cases hie
          exact ⟨hq, fun l hl' => c' l hl'⟩
      · have hq' : ¬ decide (H1.mark a = 0) = decide (H2.mark b = 0) := fun z => hq (decide_eq_decide.mp z)
        rw [if_pos (by simpa using hq')]
        refine .inr ⟨envH (houseD L H1) (houseD L H2) (.lst (ls.map D.i)) C at_ (.fz (.v (.int a))) (.fz (.v (.int b))) .no .no, by simp, w, w1, by rw [w2, w3]; exact hq⟩
    · rw [if_neg (by simpa using hlt)]
      have : at_ = C.length := by omega
      subst this
      refine .inl ⟨C, _, rfl, I, fun q hq => ?_⟩
      obtain ⟨i, hi, ei⟩ := List.getElem_of_mem hq
      exact hC i q hi (by rw [List.getElem?_eq_getElem hi, ei])
theorem hunlike_ok (k1 : H1.ok L) (k2 : H2.ok L) (hl : ∀ l ∈ ls, 0 ≤ l ∧ l < L) :
    ∃ b : Bool, _law_houses_unlike_d [houseD L H1, houseD L H2, .lst (ls.map D.i)] = .ok (.v (.bl b)) ∧ (b = true ↔ ∃ w : List Int, (∀ l ∈ w, l ∈ ls) ∧ ¬ (H1.mark (H1.walk 0 w) = 0 ↔ H2.mark (H2.walk 0 w) = 0)) := by
  have p1 := k1.pos
  have p2' := k2.pos
  have I0 : HInv H1 H2 ls [(0, 0)] := ⟨by simp, fun q hq => by
    rw [List.mem_singleton.mp hq]
    exact ⟨⟨by simp, by simp; omega⟩, ⟨by simp, by simp; omega⟩, [], (fun l hl => by cases hl), rfl, rfl⟩, by simp⟩
  have q := hu_while k1 k2 hl 17 [(0, 0)] 0 I0 (by simp) (by omega) (fun i e hi => by omega)
  have s1 : ∀ A B C : D, sSet 3 (gL (pLst (aCons (pTup (aCons (pC (.int 0)) (aCons (pC (.int 0)) aNil))) aNil))) (env0 9 [A, B, C]) = .nx [.fz A, .fz B, .fz C, .own (.lst [.tup [.v (.int 0), .v (.int 0)]]), .no, .no, .no, .no, .no] := fun A B C => by simp
  have s2 : ∀ A B C : D, sSet 4 (gL (pC (.int 0))) [.fz A, .fz B, .fz C, .own (.lst [.tup [.v (.int 0), .v (.int 0)]]), .no, .no, .no, .no, .no] = .nx (envH A B C [(0, 0)] 0 .no .no .no .no) := fun A B C => by simp [envH, cpD]
  have s4 : ∀ A B C : D, kills [5, 6, 7, 8] (envH A B C [(0, 0)] 0 .no .no .no .no) = envH A B C [(0, 0)] 0 .no .no .no .no := fun A B C => by simp [envH]
  rw [_law_houses_unlike_d, fnD_e, _law_houses_unlike_s, sSeq_e, s1, then_nx, sSeq_e, s2, then_nx, sSeq_e]
  rcases q with ⟨C, at_, hw, I, hC⟩ | ⟨e, hw, w, w1, w2⟩
  · have ww := sWhile_of (t := qB (p2 dLt (pV 4) (pCall bLen (aCons (pV 3) aNil)))) (ks := [5, 6, 7, 8]) (body := _law_houses_unlike_b2) (e := envH (houseD L H1) (houseD L H2) (.lst (ls.map D.i)) [(0, 0)] 0 .no .no .no .no) (o := .nx (envH (houseD L H1) (houseD L H2) (.lst (ls.map D.i)) C at_ .no .no .no .no)) 17 (by rw [s4]; exact hw) (by simp)
    refine ⟨false, by rw [ww]; simp, by simp, fun h => ?_⟩
    obtain ⟨w, w1, w2⟩ := h
    exfalso
    have all : ∀ (w : List Int) (q : Cp), (∀ l ∈ w, l ∈ ls) → q ∈ C → (H1.walk q.1 w, H2.walk q.2 w) ∈ C := by
      intro w
      induction w with
      | nil => intro q _ h; exact h
      | cons l w ih =>
        intro q hl' hq
        exact ih (H1.go q.1 l, H2.go q.2 l) (fun y hy => hl' y (by simp [hy])) ((hC q hq).2 l (hl' l (by simp)))
    exact w2 (hC _ (all w (0, 0) w1 I.st)).1
  · have ww := sWhile_of (t := qB (p2 dLt (pV 4) (pCall bLen (aCons (pV 3) aNil)))) (ks := [5, 6, 7, 8]) (body := _law_houses_unlike_b2) (e := envH (houseD L H1) (houseD L H2) (.lst (ls.map D.i)) [(0, 0)] 0 .no .no .no .no) (o := .rt (.v (.bl true)) e) 17 (by rw [s4]; exact hw) (by simp)
    exact ⟨true, by rw [ww]; simp, fun _ => ⟨w, w1, w2⟩, fun _ => rfl⟩
end
end K82

namespace K82
open PySem PySem.Spec PyProof.Rows L2 Gw
/-! ### two works, side by side -/
structure Sd (p : Int) (Hs : List House) (R : List (Option (List Int))) (U : List (Option Use)) : Prop where
  hk : ∀ H ∈ Hs, H.ok (p + Hs.length)
  T : Told p Hs R
  sh : shortest_d [worksD p Hs] = .ok (.lst (R.map rowD))
  us : uses_of_d [worksD p Hs] = .ok (.lst (U.map useD))
  ul : U.length = Hs.length
  u1 : ∀ j : Int, 0 ≤ j → j < Hs.length → ((∃ u, optAt U j = some u) ↔ Used p Hs R j)
  u2 : ∀ j u, 0 ≤ j → optAt U j = some u → UseOk p Hs R j u ∧ u.1.length ≤ 642 ∧ u.2.2.length ≤ 642
  lm : letters_made_d [worksD p Hs, .lst (R.map rowD)] = .ok (.lst ((madeL p R (p.toNat + R.length)).map rowD))
  lst : ∀ (r : List Int) (t : Int), nst p Hs.length r 0 = true → accOf' p Hs r t = true → 0 ≤ t → t < Hs.length → ∃ s, rowO R t = some s
theorem sd_ok {p : Int} {Hs : List House} (p1 : 1 ≤ p) (p4 : p ≤ 4) (h1 : 1 ≤ Hs.length) (h3 : Hs.length ≤ 3) (ph : p + Hs.length ≤ 6) (hk : ∀ H ∈ Hs, H.ok (p + Hs.length)) : ∃ R U, Sd p Hs R U := by
  obtain ⟨R, sh, T⟩ := shortest_ok p1 p4 ph h3 hk
  obtain ⟨U, us, ul, u1, u2⟩ := uses_ok p1 p4 h1 h3 ph hk T sh
  have lm := letters_ok (p := p) (R := R) (Hd := Hs.map (houseD (p + Hs.length))) p1 p4 (by rw [List.length_map, T.len]) (by rw [T.len]; omega) (fun r hr => by
    obtain ⟨j, j0, j1, e⟩ := mem_rowO hr
    have := T.short j r j0 e
    omega)
  refine ⟨R, U, hk, T, sh, us, ul, u1, u2, lm, fun r t hr ha t0 t1 => ?_⟩
  obtain ⟨s, s1, _⟩ := least ph p1 T.ok (fun t w r t0 t1 hw hc hm => (T.best t t0 t1).2 w r hw hc hm) r.length r t (Nat.le_refl _) hr ha t0 t1
  exact ⟨s, s1⟩
def Tk (p : Int) (Hs : List House) (R : List (Option (List Int))) (k : Int) (w : List Int) : Prop := (∀ l ∈ w, LtOk p Hs.length R l) ∧ (hsAt Hs k).mark ((hsAt Hs k).walk 0 w) ≠ 0
section
variable {p : Int} {Hs Hs' : List House} {R R' : List (Option (List Int))} {U U' : List (Option Use)}
theorem cat_len {M : Int → Option (List Int)} {mx : Nat} : ∀ {w r : List Int}, (∀ l ∈ w, ∀ m, M l = some m → m.length ≤ mx) → cat M w = some r → r.length ≤ mx * w.length
  | [], r, _, h => by rw [cat] at h; cases h; simp
  | l :: w, r, hM, h => by
    obtain ⟨a, b, e1, e2, rfl⟩ := cat_cons h
    have h1 := hM l (by simp) a e1
    have h2 := cat_len (mx := mx) (fun x hx => hM x (by simp [hx])) e2
    rw [List.length_append, List.length_cons, Nat.mul_add]
    omega
theorem mk_len (T : Told p Hs R) (p1 : 1 ≤ p) {l : Int} {m : List Int} (h : mk p Hs.length R l = some m) : m.length ≤ 80 := by
  unfold mk at h
  split at h
  · next q =>
    cases ho : rowO R (l - p) with
    | none => rw [ho] at h; cases h
    | some s =>
      rw [ho] at h
      have h : some (l :: (s ++ [p + (Hs.length : Int)])) = some m := h
      cases h
      have := T.short _ s (by omega) ho
      simp
      omega
  · cases h; simp
theorem tk_row (S : Sd p Hs R U) (p1 : 1 ≤ p) {k : Int} {w : List Int} (h : Tk p Hs R k w) : ∃ y, cat (mk p Hs.length R) w = some y ∧ bal p Hs.length y ∧ accOf' p Hs y k = true ∧ y.length ≤ 80 * w.length := by
  obtain ⟨y, hy⟩ := cat_lt h.1
  obtain ⟨n, a⟩ := cat_good S.T.ok (t := k) (fun l hl => ⟨(h.1 l hl).1, (h.1 l hl).2.1⟩) hy h.2
  exact ⟨y, hy, bal_of n, a, cat_len (fun l _ m hm => mk_len S.T p1 hm) hy⟩
theorem row_tk (S : Sd p Hs R U) (S' : Sd p Hs' R' U') (hl : Hs'.length = Hs.length) (p1 : 1 ≤ p) {k : Int} {w y : List Int} (hw : ∀ l ∈ w, 0 ≤ l ∧ l < p + Hs.length) (hc : cat (mk p Hs.length R) w = some y) (ha : accOf' p Hs' y k = true) : Tk p Hs' R' k w := by
  obtain ⟨e, i⟩ := cat_items S.T.ok hw hc
  have it : ∀ x ∈ w.map (itOf p R), itemOk p Hs'.length x := fun x hx => by rw [hl]; exact (i x hx).1
  rw [e, ← hl, accOf_items it, Bool.and_eq_true] at ha
  obtain ⟨a1, a2⟩ := ha
  have mf : (w.map (itOf p R)).map Prod.fst = w := by
    rw [List.map_map]
    have : (Prod.fst ∘ itOf p R) = id := by funext l; rfl
    rw [this, List.map_id]
  rw [mf] at a2
  refine ⟨fun l hl' => ⟨(hw l hl').1, by rw [hl]; exact (hw l hl').2, fun q => ?_⟩, by simpa using a2⟩
  have hm : itOf p R l ∈ w.map (itOf p R) := List.mem_map_of_mem hl'
  have := List.all_eq_true.mp a1 _ hm
  rw [Bool.or_eq_true] at this
  rcases this with h | h
  · have : decide (p ≤ (itOf p R l).1) = true := decide_eq_true q
    rw [this] at h; cases h
  · have b := (it _ hm).2.2 q
    have lt := (it _ hm).2.1
    exact S'.lst (itOf p R l).2 (l - p) b.nst h (by omega) (by show l - p < _; have : l < p + Hs'.length := lt; omega)
theorem used_rg (h1 : 1 ≤ Hs.length) {j : Int} (h : Used p Hs R j) : 0 ≤ j ∧ j < Hs.length := by
  cases h with
  | zero _ => omega
  | step _ e => exact ⟨e.1, e.2.1⟩
theorem acc_to (S : Sd p Hs R U) (S' : Sd p Hs' R' U') (hl : Hs'.length = Hs.length) (p1 : 1 ≤ p) (h1 : 1 ≤ Hs.length) (st : ∀ j, Used p Hs R j → ∀ w, Tk p Hs R j w → Tk p Hs' R' j w) :
    ∀ (n : Nat) (y : List Int) (j : Int), y.length ≤ n → Used p Hs R j → nst p Hs.length y 0 = true → accOf' p Hs y j = true → accOf' p Hs' y j = true := by
  intro n
  induction n with
  | zero =>
    intro y j hn uj hy ha
    have : y = [] := List.eq_nil_of_length_eq_zero (by omega)
    subst this
    have tk : Tk p Hs R j [] := ⟨fun l hl => (by cases hl), by
      have := accOf_items (p := p) (t := j) (Hs := Hs) (l := []) (fun x hx => by cases hx)
      simp only [List.flatMap_nil, List.all_nil, Bool.true_and, List.map_nil] at this
      rw [this] at ha
      simpa using ha⟩
    have tk' := st j uj [] tk
    have := accOf_items (p := p) (t := j) (Hs := Hs') (l := []) (fun x hx => by cases hx)
    simp only [List.flatMap_nil, List.all_nil, Bool.true_and, List.map_nil] at this
    rw [this]
    simpa using tk'.2
  | succ n ih =>
    intro y j hn uj hy ha
    obtain ⟨l, e, hi⟩ := decomp (h := Hs.length) (by omega) y.length y (Nat.le_refl _) hy
    have hok : ∀ x ∈ l, itemOk p Hs.length x := fun x hx => (hi x hx).1
    have ha' := ha
    rw [e, accOf_items hok, Bool.and_eq_true] at ha'
    obtain ⟨a1, a2⟩ := ha'
    have a1 := List.all_eq_true.mp a1
    have acc : ∀ x ∈ l, p ≤ x.1 → accOf' p Hs x.2 (x.1 - p) = true := fun x hx q => by
      have := a1 x hx
      simpa [q] using this
    have tk : Tk p Hs R j (l.map Prod.fst) := ⟨fun s hs => by
      obtain ⟨x, hx, rfl⟩ := List.mem_map.mp hs
      obtain ⟨k0, k1, k2⟩ := hok x hx
      exact ⟨k0, k1, fun q => S.lst x.2 (x.1 - p) (k2 q).nst (acc x hx q) (by omega) (by omega)⟩, by simpa using a2⟩
    have tk' := st j uj _ tk
    have hok' : ∀ x ∈ l, itemOk p Hs'.length x := fun x hx => by rw [hl]; exact hok x hx
    rw [e, ← hl, accOf_items hok', Bool.and_eq_true]
    refine ⟨List.all_eq_true.mpr fun x hx => ?_, by simpa using tk'.2⟩
    by_cases q : p ≤ x.1
    · obtain ⟨k0, k1, k2⟩ := hok x hx
      have hs : x.1 ∈ y := by
        rw [e]
        refine List.mem_flatMap.mpr ⟨x, hx, ?_⟩
        unfold itemR
        rw [if_pos q]; simp
      have ux := used_calls p1 S.lst y.length y j (Nat.le_refl _) uj hy ha x.1 hs q k1
      have := ih x.2 (x.1 - p) (by have := (hi x hx).2 q; omega) ux (k2 q).nst (acc x hx q)
      simp [this]
    · simp [q]
/-! ### the row of a use -/
def useRow (p h k : Int) (u : Use) (y : List Int) : List Int := if k = 0 then y else (((u.1 ++ [p + k]) ++ y) ++ [p + h]) ++ u.2.2
theorem useRow_eq {k : Int} {u : Use} {y : List Int} (ok : UseOk p Hs R k u) (k0 : 0 ≤ k) : useRow p Hs.length k u y = headOf p k u ++ (y ++ tailOf p Hs.length k u) := by
  unfold useRow headOf tailOf
  by_cases q : k = 0
  · obtain ⟨e1, e2⟩ := ok.zero q
    rw [if_pos q, if_neg (by omega), if_neg (by omega), e1, e2]
    simp
  · rw [if_neg q, if_pos (by omega), if_pos (by omega)]
    simp [List.append_assoc]
theorem useRow_len {k h : Int} {u : Use} {y : List Int} : (useRow p h k u y).length ≤ u.1.length + y.length + u.2.2.length + 2 := by
  unfold useRow
  split
  · omega
  · simp; omega
/-- a use on one side alone -/
theorem diff_use (S : Sd p Hs R U) (S' : Sd p Hs' R' U') (hl : Hs'.length = Hs.length) (p1 : 1 ≤ p) (h1 : 1 ≤ Hs.length) {k : Int} {u : Use} (k0 : 0 ≤ k) (k1 : k < Hs.length) (hu : optAt U k = some u) (hn : optAt U' k = none) :
    bal p Hs.length (useRow p Hs.length k u u.2.1) ∧ (useRow p Hs.length k u u.2.1).length ≤ 4000 ∧ accOf' p Hs (useRow p Hs.length k u u.2.1) 0 = true ∧ accOf' p Hs' (useRow p Hs.length k u u.2.1) 0 = false := by
  obtain ⟨ok, l1, l2⟩ := S.u2 k u k0 hu
  have b := S.T.ok.bal k _ k0 ok.row
  have a := S.T.ok.acc k _ k0 ok.row
  have ls := S.T.short k _ k0 ok.row
  obtain ⟨c1, c2⟩ := ok.ctx.ok u.2.1 (bal_of b) a
  have e := useRow_eq (y := u.2.1) ok k0
  rw [← e] at c1 c2
  refine ⟨c1, ?_, c2, ?_⟩
  · have := useRow_len (p := p) (h := Hs.length) (k := k) (u := u) (y := u.2.1)
    omega
  · cases q : accOf' p Hs' (useRow p Hs.length k u u.2.1) 0 with
    | false => rfl
    | true =>
      exfalso
      have n' : nst p Hs'.length (useRow p Hs.length k u u.2.1) 0 = true := by rw [hl]; exact c1.nst
      obtain ⟨r0, hr0⟩ := S'.lst _ 0 n' q (by decide) (by omega)
      have u0 : Used p Hs' R' 0 := .zero hr0
      have uk : Used p Hs' R' k := by
        by_cases z : k = 0
        · rw [z]; exact u0
        · have := used_calls p1 S'.lst _ _ 0 (Nat.le_refl _) u0 n' q (p + k) (by unfold useRow; rw [if_neg z]; simp) (by omega) (by omega)
          rwa [show p + k - p = k by omega] at this
      obtain ⟨v, hv⟩ := (S'.u1 k k0 (by omega)).mpr uk
      rw [hn] at hv; cases hv
/-- a word that one side's house takes alone -/
theorem diff_word (S : Sd p Hs R U) (S' : Sd p Hs' R' U') (hl : Hs'.length = Hs.length) (p1 : 1 ≤ p) (h1 : 1 ≤ Hs.length) {k : Int} {u : Use} {w y : List Int} (k0 : 0 ≤ k) (hu : optAt U k = some u) (lw : w.length ≤ 24)
    (hy : cat (mk p Hs.length R) w = some y) (by_ : bal p Hs.length y) (ay : accOf' p Hs y k = true) (ly : y.length ≤ 80 * w.length) (hw : ∀ l ∈ w, 0 ≤ l ∧ l < p + Hs.length) (hn : ¬ Tk p Hs' R' k w) :
    bal p Hs.length (useRow p Hs.length k u y) ∧ (useRow p Hs.length k u y).length ≤ 4000 ∧ accOf' p Hs (useRow p Hs.length k u y) 0 = true ∧ accOf' p Hs' (useRow p Hs.length k u y) 0 = false := by
  obtain ⟨ok, l1, l2⟩ := S.u2 k u k0 hu
  obtain ⟨c1, c2⟩ := ok.ctx.ok y by_ ay
  have e := useRow_eq (y := y) ok k0
  have rv := ok.ctx.rev Hs' hl y by_
  rw [← e] at c1 c2 rv
  refine ⟨c1, ?_, c2, ?_⟩
  · have := useRow_len (p := p) (h := Hs.length) (k := k) (u := u) (y := y)
    omega
  · cases q : accOf' p Hs' (useRow p Hs.length k u y) 0 with
    | false => rfl
    | true => exact absurd (row_tk S S' hl p1 hw hy (rv q)) hn
end
end K82

namespace K82
open PySem PySem.Spec PyProof.Rows L2 Gw
/-! ### spread, used_with -/
theorem spread_turn {p h l : Int} {R : List (Option (List Int))} {S : D} {acc m : List Int} (l0 : 0 ≤ l) (l1 : l < p + R.length) (hm : mk p R.length R l = some m) (hh : h = R.length) (z : acc.length + m.length < 1000000) (zr : ∀ r, rowO R (l - p) = some r → r.length < 1000000) :
    turn (nTg 5) [5] spread_b1 (.v (.int l)) [.fz (.v (.int p)), .fz (.v (.int h)), .fz S, .fz (.lst (R.map rowD)), .own (.lst (acc.map D.i)), .no] = .nx [.fz (.v (.int p)), .fz (.v (.int h)), .fz S, .fz (.lst (R.map rowD)), .own (.lst ((acc ++ m).map D.i)), .no] := by
  have sl := sline
  unfold mk at hm
  by_cases q : p ≤ l
  · rw [if_pos q] at hm
    have dr := dAt_row (F := R) (i := l - p) (by omega) (by omega)
    cases ho : rowO R (l - p) with
    | none => rw [ho] at hm; cases hm
    | some r =>
      rw [ho] at hm dr
      have hm : some (l :: (r ++ [p + (R.length : Int)])) = some m := hm
      cases hm
      simp at z
      rw [rowD_some] at dr
      have z0 : acc.length < sizeLine := by omega
      have z1 : acc.length + 1 + r.length ≤ sizeLine := by omega
      have z2 : acc.length + (r.length + 1) < sizeLine := by omega
      subst hh
      simp [turn, spread_b1, q, dr, z0, z1, z2]
  · rw [if_neg q] at hm
    cases hm
    simp at z
    have z0 : acc.length < sizeLine := by omega
    simp [turn, spread_b1, q, z0]
theorem spread_loop {p h : Int} {R : List (Option (List Int))} {S : D} (hh : h = R.length) : ∀ (w acc y : List Int), (∀ l ∈ w, 0 ≤ l ∧ l < p + R.length) → cat (mk p R.length R) w = some y → acc.length + y.length < 1000000 → (∀ j r, 0 ≤ j → rowO R j = some r → r.length < 1000000) →
    forL (nTg 5) [5] spread_b1 (w.map D.i) [.fz (.v (.int p)), .fz (.v (.int h)), .fz S, .fz (.lst (R.map rowD)), .own (.lst (acc.map D.i)), .no] = .nx [.fz (.v (.int p)), .fz (.v (.int h)), .fz S, .fz (.lst (R.map rowD)), .own (.lst ((acc ++ y).map D.i)), .no]
  | [], acc, y, _, hc, _, _ => by
    rw [cat] at hc; cases hc
    simp [forL_nil]
  | l :: w, acc, y, hw, hc, z, zr => by
    obtain ⟨a, b, e1, e2, rfl⟩ := cat_cons hc
    have hl := hw l (by simp)
    rw [List.length_append] at z
    have st := spread_turn (S := S) (acc := acc) hl.1 hl.2 e1 hh (by omega) (fun r hr => by
      by_cases q : 0 ≤ l - p
      · exact zr _ r q hr
      · have : rowO R (l - p) = rowO R 0 := by unfold rowO; rw [show (l - p).toNat = (0 : Int).toNat by omega]
        rw [this] at hr
        exact zr 0 r (by decide) hr)
    have ih := spread_loop (S := S) hh w (acc ++ a) b (fun x hx => hw x (by simp [hx])) e2 (by rw [List.length_append]; omega) zr
    rw [List.append_assoc] at ih
    rw [List.map_cons]
    exact (forL_step st).trans ih
theorem spread_ok {p h : Int} {R : List (Option (List Int))} {w y : List Int} (hh : h = R.length) (hw : ∀ l ∈ w, 0 ≤ l ∧ l < p + R.length) (hc : cat (mk p R.length R) w = some y) (z : y.length < 1000000) (zr : ∀ j r, 0 ≤ j → rowO R j = some r → r.length < 1000000) :
    spread_d [.v (.int p), .v (.int h), .tup (w.map D.i), .lst (R.map rowD)] = .ok (.tup (y.map D.i)) := by
  have lp := spread_loop (S := .tup (w.map D.i)) hh w [] y hw hc (by simpa using z) zr
  simp at lp
  simp [spread_d, spread_s]
  rw [lp]
  simp
theorem dAdd_ints {a b : List Int} (z : a.length + b.length < 16000000) : dAdd (.tup (a.map D.i)) (.tup (b.map D.i)) = .ok (.tup ((a ++ b).map D.i)) := by
  have sl := sline
  have z1 : a.length + b.length ≤ sizeLine := by omega
  simp [z1]
theorem used_with_ok {A1 : D} {p k : Int} {hs : List D} {n : Nat} {u : Use} {y : List Int} (e : A1 = .tup [.v (.int p), .tup hs]) (hn : hs.length = n) (z1 : u.1.length < 100000) (z2 : u.2.2.length < 100000) (z3 : y.length < 100000) :
    used_with_d [A1, .v (.int k), .tup [.tup (u.1.map D.i), .tup (u.2.1.map D.i), .tup (u.2.2.map D.i)], .tup (y.map D.i)] = .ok (.tup ((useRow p n k u y).map D.i)) := by
  subst e
  subst hn
  unfold useRow
  by_cases q : k = 0
  · simp [used_with_d, used_with_s, q]
  · rw [if_neg q]
    obtain ⟨X1, e1⟩ : ∃ X, X = D.tup ((u.1 ++ [p + k]).map D.i) := ⟨_, rfl⟩
    obtain ⟨X2, e2⟩ : ∃ X, X = D.tup (((u.1 ++ [p + k]) ++ y).map D.i) := ⟨_, rfl⟩
    obtain ⟨X3, e3⟩ : ∃ X, X = D.tup ((((u.1 ++ [p + k]) ++ y) ++ [p + (hs.length : Int)]).map D.i) := ⟨_, rfl⟩
    obtain ⟨X4, e4⟩ : ∃ X, X = D.tup (((((u.1 ++ [p + k]) ++ y) ++ [p + (hs.length : Int)]) ++ u.2.2).map D.i) := ⟨_, rfl⟩
    have f1 : dAdd (.tup (u.1.map D.i)) (.tup [.v (.int (p + k))]) = .ok X1 := by
      rw [e1]; exact dAdd_ints (a := u.1) (b := [p + k]) (by simp; omega)
    have f2 : dAdd X1 (.tup (y.map D.i)) = .ok X2 := by
      rw [e1, e2]; exact dAdd_ints (by simp; omega)
    have f3 : dAdd X2 (.tup [.v (.int (p + (hs.length : Int)))]) = .ok X3 := by
      rw [e2, e3]; exact dAdd_ints (b := [p + (hs.length : Int)]) (by simp; omega)
    have f4 : dAdd X3 (.tup (u.2.2.map D.i)) = .ok X4 := by
      rw [e3, e4]; exact dAdd_ints (by simp; omega)
    rw [← e4]
    simp [used_with_d, used_with_s, q, f1, f2, f3, f4, - dAdd_t]
/-! ### works_difference -/
def envW (A1 A2 US s3 s4 s5 s6 s7 : Sl) : En := [A1, A2, US, s3, s4, s5, s6, s7, .no, .no, .no]
theorem useD_none : useD none = .v .non := rfl
theorem wb1_same {A1 A2 : D} {U1 U2 : List (Option Use)} {k : Int} (k0 : 0 ≤ k) (k1 : k < U1.length) (k2 : k < U2.length) (h : (optAt U1 k).isSome = (optAt U2 k).isSome) :
    turn (nTg 3) [3, 4, 5] works_difference_b1 (.v (.int k)) (envW (.fz A1) (.fz A2) (.own (.lst [.lst (U1.map useD), .lst (U2.map useD)])) .no .no .no .no .no) = .nx (envW (.fz A1) (.fz A2) (.own (.lst [.lst (U1.map useD), .lst (U2.map useD)])) .no .no .no .no .no) := by
  have d1 := dAt_use k0 k1
  have d2 := dAt_use k0 k2
  cases h1 : optAt U1 k with
  | none =>
    cases h2 : optAt U2 k with
    | none =>
      rw [h1, useD_none] at d1
      rw [h2, useD_none] at d2
      simp [turn, works_difference_b1, envW, d1, d2]
    | some v => rw [h1, h2] at h; cases h
  | some u =>
    cases h2 : optAt U2 k with
    | none => rw [h1, h2] at h; cases h
    | some v =>
      rw [h1] at d1
      rw [h2] at d2
      obtain ⟨X, hX⟩ : ∃ X, useD (some u) = .tup X := ⟨_, rfl⟩
      obtain ⟨Y, hY⟩ : ∃ Y, useD (some v) = .tup Y := ⟨_, rfl⟩
      have i1 : imm (D.tup X) = true := by rw [← hX]; simp
      have i2 : imm (D.tup Y) = true := by rw [← hY]; simp
      rw [hX] at d1
      rw [hY] at d2
      simp only [imm_t] at i1 i2
      simp [turn, works_difference_b1, envW, d1, d2, i1, i2]
theorem wb1_two {A1 A2 : D} {U1 U2 : List (Option Use)} {k : Int} {u : Use} {z : List Int} (k0 : 0 ≤ k) (k1 : k < U1.length) (k2 : k < U2.length) (h1 : optAt U1 k = none) (h2 : optAt U2 k = some u)
    (hw : used_with_d [A2, .v (.int k), .tup [.tup (u.1.map D.i), .tup (u.2.1.map D.i), .tup (u.2.2.map D.i)], .tup (u.2.1.map D.i)] = .ok (.tup (z.map D.i))) :
    ∃ e, turn (nTg 3) [3, 4, 5] works_difference_b1 (.v (.int k)) (envW (.fz A1) (.fz A2) (.own (.lst [.lst (U1.map useD), .lst (U2.map useD)])) .no .no .no .no .no) = .rt (.tup (z.map D.i)) e := by
  have d1 := dAt_use k0 k1
  have d2 := dAt_use k0 k2
  rw [h1, useD_none] at d1
  rw [h2] at d2
  simp only [useD] at d2
  simp [turn, works_difference_b1, envW, d1, d2, hw]
theorem wb1_one {A1 A2 : D} {U1 U2 : List (Option Use)} {k : Int} {u : Use} {z : List Int} (k0 : 0 ≤ k) (k1 : k < U1.length) (k2 : k < U2.length) (h1 : optAt U1 k = some u) (h2 : optAt U2 k = none)
    (hw : used_with_d [A1, .v (.int k), .tup [.tup (u.1.map D.i), .tup (u.2.1.map D.i), .tup (u.2.2.map D.i)], .tup (u.2.1.map D.i)] = .ok (.tup (z.map D.i))) :
    ∃ e, turn (nTg 3) [3, 4, 5] works_difference_b1 (.v (.int k)) (envW (.fz A1) (.fz A2) (.own (.lst [.lst (U1.map useD), .lst (U2.map useD)])) .no .no .no .no .no) = .rt (.tup (z.map D.i)) e := by
  have d1 := dAt_use k0 k1
  have d2 := dAt_use k0 k2
  rw [h2, useD_none] at d2
  rw [h1] at d1
  simp only [useD] at d1
  simp [turn, works_difference_b1, envW, d1, d2, hw]
theorem wb2_none {A1 A2 R1 R2 M1 M2 HD1 HD2 : D} {Hd1 Hd2 : List D} {U1 U2 : List (Option Use)} {k : Int} (k0 : 0 ≤ k) (k1 : k < U1.length) (hh1 : dIx A1 (.v (.int 1)) = .ok (.tup Hd1)) (hh2 : dIx A2 (.v (.int 1)) = .ok (.tup Hd2)) (hk1 : dAt Hd1 k = .ok HD1) (hk2 : dAt Hd2 k = .ok HD2)
    (h : optAt U1 k = none ∨ unlike_word_d [HD1, M1, HD2, M2] = .ok (.v .non)) :
    turn (nTg 3) [3, 8, 9, 10] works_difference_b2 (.v (.int k)) (envW (.fz A1) (.fz A2) (.own (.lst [.lst (U1.map useD), .lst (U2.map useD)])) .no .no .no (.own (.lst [R1, R2])) (.own (.lst [M1, M2]))) = .nx (envW (.fz A1) (.fz A2) (.own (.lst [.lst (U1.map useD), .lst (U2.map useD)])) .no .no .no (.own (.lst [R1, R2])) (.own (.lst [M1, M2]))) := by
  have d1 := dAt_use k0 k1
  cases h1 : optAt U1 k with
  | none =>
    rw [h1, useD_none] at d1
    simp [turn, works_difference_b2, envW, d1]
  | some u =>
    rw [h1] at d1
    simp only [useD] at d1
    rcases h with h | h
    · rw [h1] at h; cases h
    · simp [turn, works_difference_b2, envW, d1, hh1, hh2, hk1, hk2, h]
theorem wb2_some {A1 A2 R1 R2 M1 M2 HD1 HD2 P : D} {Hd1 Hd2 : List D} {U1 U2 : List (Option Use)} {k : Int} {n : Nat} {w y z : List Int} {b : Bool} {u1 u : Use} (k0 : 0 ≤ k) (k1 : k < U1.length) (k2 : k < U2.length) (h1 : optAt U1 k = some u1) (hu : optAt (if b = true then U1 else U2) k = some u)
    (hh0 : dIx A1 (.v (.int 0)) = .ok P) (hh1 : dIx A1 (.v (.int 1)) = .ok (.tup Hd1)) (hh2 : dIx A2 (.v (.int 1)) = .ok (.tup Hd2)) (hk1 : dAt Hd1 k = .ok HD1) (hk2 : dAt Hd2 k = .ok HD2) (hn : Hd1.length = n)
    (h : unlike_word_d [HD1, M1, HD2, M2] = .ok (.tup (w.map D.i))) (ht : told_word_d [A1, .v (.int k), M1, .tup (w.map D.i)] = .ok (.v (.bl b)))
    (hs : spread_d [P, .v (.int (n : Int)), .tup (w.map D.i), if b = true then R1 else R2] = .ok (.tup (y.map D.i)))
    (hw : used_with_d [A1, .v (.int k), .tup [.tup (u.1.map D.i), .tup (u.2.1.map D.i), .tup (u.2.2.map D.i)], .tup (y.map D.i)] = .ok (.tup (z.map D.i))) :
    ∃ e, turn (nTg 3) [3, 8, 9, 10] works_difference_b2 (.v (.int k)) (envW (.fz A1) (.fz A2) (.own (.lst [.lst (U1.map useD), .lst (U2.map useD)])) .no .no .no (.own (.lst [R1, R2])) (.own (.lst [M1, M2]))) = .rt (.tup (z.map D.i)) e := by
  have d1 := dAt_use k0 k1
  rw [h1] at d1
  simp only [useD] at d1
  cases b with
  | true =>
    simp only [if_true] at hu hs
    rw [h1] at hu
    cases hu
    simp [turn, works_difference_b2, envW, d1, hh0, hh1, hh2, hk1, hk2, hn, h, ht, hs, hw]
  | false =>
    simp only [Bool.false_eq_true, if_false] at hu hs
    have d2 := dAt_use k0 k2
    rw [hu] at d2
    simp only [useD] at d2
    simp [turn, works_difference_b2, envW, d1, d2, hh0, hh1, hh2, hk1, hk2, hn, h, ht, hs, hw]
end K82

namespace K82
open PySem PySem.Spec PyProof.Rows L2 Gw
theorem forL_find {α : Type} {t : D → En → Option En} {ks : List Nat} {body : En → Ou} {e : En} {f : α → D} {N : α → Prop} {P : α → D → Prop} : ∀ (l : List α), (∀ i ∈ l, (turn t ks body (f i) e = .nx e ∧ N i) ∨ ∃ c e2, turn t ks body (f i) e = .rt c e2 ∧ P i c) →
    (forL t ks body (l.map f) e = .nx e ∧ ∀ i ∈ l, N i) ∨ ∃ i ∈ l, ∃ c e2, forL t ks body (l.map f) e = .rt c e2 ∧ P i c
  | [], _ => .inl ⟨by rw [List.map_nil]; exact forL_nil, fun i hi => by cases hi⟩
  | i :: l, h => by
    rw [List.map_cons]
    rcases h i (by simp) with ⟨h1, h2⟩ | ⟨c, e2, h1, h2⟩
    · rcases forL_find l (fun j hj => h j (by simp [hj])) with ⟨a, b⟩ | ⟨j, hj, c, e2, a, b⟩
      · refine .inl ⟨(forL_step h1).trans a, fun j hj => ?_⟩
        rcases List.mem_cons.mp hj with rfl | hj
        · exact h2
        · exact b j hj
      · exact .inr ⟨j, by simp [hj], c, e2, (forL_step h1).trans a, b⟩
    · exact .inr ⟨i, by simp, c, e2, forL_out h1, h2⟩
theorem wd_0 {A1 A2 : D} {p p' : Int} {Hd1 Hd2 : List D} {n n' : Nat} (a0 : dIx A1 (.v (.int 0)) = .ok (.v (.int p))) (b0 : dIx A2 (.v (.int 0)) = .ok (.v (.int p'))) (a1 : dIx A1 (.v (.int 1)) = .ok (.tup Hd1)) (b1 : dIx A2 (.v (.int 1)) = .ok (.tup Hd2)) (l1 : Hd1.length = n) (l2 : Hd2.length = n') :
    sIf (qOr (qB (p2 (dEq true) (p2 dIx (pV 0) (pC (.int 0))) (p2 dIx (pV 1) (pC (.int 0))))) (qB (p2 (dEq true) (pCall bLen (aCons (p2 dIx (pV 0) (pC (.int 1))) aNil)) (pCall bLen (aCons (p2 dIx (pV 1) (pC (.int 1))) aNil))))) (sRaise (Str.ofString "BadHouse")) sNil (env0 11 [A1, A2])
      = if p = p' ∧ n = n' then .nx (envW (.fz A1) (.fz A2) .no .no .no .no .no .no) else .exc ⟨Str.ofString "BadHouse", none⟩ (envW (.fz A1) (.fz A2) .no .no .no .no .no .no) := by
  subst l1; subst l2
  by_cases q1 : p = p'
  · by_cases q2 : Hd1.length = Hd2.length
    · simp [a0, b0, a1, b1, q1, q2, envW]
    · have q2' : ¬ ((Hd1.length : Int) = (Hd2.length : Int)) := by omega
      simp [a0, b0, a1, b1, q1, q2, q2', envW]
  · simp [a0, b0, a1, b1, q1, envW]
theorem wd_1 {A1 A2 X1 X2 : D} (h1 : uses_of_d [A1] = .ok X1) (h2 : uses_of_d [A2] = .ok X2) : sSet 2 (gL (pLst (aCons (pCall uses_of_d (aCons (pV 0) aNil)) (aCons (pCall uses_of_d (aCons (pV 1) aNil)) aNil)))) (envW (.fz A1) (.fz A2) .no .no .no .no .no .no) = .nx (envW (.fz A1) (.fz A2) (.own (.lst [X1, X2])) .no .no .no .no .no) := by
  simp [envW, h1, h2]
theorem wd_2 {A1 : D} {a2 us s6 s7 : Sl} {Hd1 : List D} {n : Nat} {ks : List Nat} {body : En → Ou} (kl : kills ks (envW (.fz A1) a2 us .no .no .no s6 s7) = envW (.fz A1) a2 us .no .no .no s6 s7) (a1 : dIx A1 (.v (.int 1)) = .ok (.tup Hd1)) (l1 : Hd1.length = n) (h3 : n ≤ 3) :
    sForR (nTg 3) ks (pCall bLen (aCons (p2 dIx (pV 0) (pC (.int 1))) aNil)) body (envW (.fz A1) a2 us .no .no .no s6 s7) = forL (nTg 3) ks body ((List.range n).map fun (i : Nat) => D.i (i : Int)) (envW (.fz A1) a2 us .no .no .no s6 s7) := by
  have lb : (-4611686018427387904 : Int) ≤ (n : Int) ∧ (n : Int) < 4611686018427387904 := by omega
  have e : (pCall bLen (aCons (p2 dIx (pV 0) (pC (.int 1))) aNil)) (envW (.fz A1) a2 us .no .no .no s6 s7) = .ok (.v (.int (n : Int))) := by
    simp [envW, a1, l1]
  rw [sForR_e, e, kl]
  simp [lb]
theorem wd_3 {A1 A2 X1 X2 : D} {us : Sl} (h1 : shortest_d [A1] = .ok X1) (h2 : shortest_d [A2] = .ok X2) : sSet 6 (gL (pLst (aCons (pCall shortest_d (aCons (pV 0) aNil)) (aCons (pCall shortest_d (aCons (pV 1) aNil)) aNil)))) (envW (.fz A1) (.fz A2) us .no .no .no .no .no) = .nx (envW (.fz A1) (.fz A2) us .no .no .no (.own (.lst [X1, X2])) .no) := by
  simp [envW, h1, h2]
theorem wd_4 {A1 A2 X1 X2 Y1 Y2 : D} {us : Sl} (h1 : letters_made_d [A1, X1] = .ok Y1) (h2 : letters_made_d [A2, X2] = .ok Y2) : sSet 7 (gL (pLst (aCons (pCall letters_made_d (aCons (pV 0) (aCons (p2 dIx (pV 6) (pC (.int 0))) aNil))) (aCons (pCall letters_made_d (aCons (pV 1) (aCons (p2 dIx (pV 6) (pC (.int 1))) aNil))) aNil)))) (envW (.fz A1) (.fz A2) us .no .no .no (.own (.lst [X1, X2])) .no) = .nx (envW (.fz A1) (.fz A2) us .no .no .no (.own (.lst [X1, X2])) (.own (.lst [Y1, Y2]))) := by
  simp [envW, h1, h2]
/-- nothing tells the two apart -/
def NA (p : Int) (Hs1 Hs2 : List House) (R1 R2 : List (Option (List Int))) : Prop := (∀ j, Used p Hs1 R1 j ↔ Used p Hs2 R2 j) ∧ ∀ j, Used p Hs1 R1 j → ∀ w, Tk p Hs1 R1 j w ↔ Tk p Hs2 R2 j w
theorem na_acc {p : Int} {Hs1 Hs2 : List House} {R1 R2 : List (Option (List Int))} {U1 U2 : List (Option Use)} (S1 : Sd p Hs1 R1 U1) (S2 : Sd p Hs2 R2 U2) (hl : Hs2.length = Hs1.length) (p1 : 1 ≤ p) (h1 : 1 ≤ Hs1.length) (na : NA p Hs1 Hs2 R1 R2) {y : List Int} (hy : nst p Hs1.length y 0 = true) :
    accOf' p Hs1 y 0 = accOf' p Hs2 y 0 := by
  have a : accOf' p Hs1 y 0 = true → accOf' p Hs2 y 0 = true := fun h => by
    obtain ⟨r, hr⟩ := S1.lst y 0 hy h (by decide) (by omega)
    exact acc_to S1 S2 hl p1 h1 (fun j uj w => (na.2 j uj w).mp) y.length y 0 (Nat.le_refl _) (.zero hr) hy h
  have b : accOf' p Hs2 y 0 = true → accOf' p Hs1 y 0 = true := fun h => by
    have hy2 : nst p Hs2.length y 0 = true := by rw [hl]; exact hy
    obtain ⟨r, hr⟩ := S2.lst y 0 hy2 h (by decide) (by omega)
    exact acc_to S2 S1 hl.symm p1 (by omega) (fun j uj w => (na.2 j ((na.1 j).mpr uj) w).mpr) y.length y 0 (Nat.le_refl _) (.zero hr) hy2 h
  cases h1 : accOf' p Hs1 y 0 <;> cases h2 : accOf' p Hs2 y 0
  · rfl
  · have := b h2; rw [h1] at this; cases this
  · have := a h1; rw [h2] at this; cases this
  · rfl
theorem mk_lt {p : Int} {h : Nat} {R : List (Option (List Int))} {l : Int} (l0 : 0 ≤ l) (l1 : l < p + h) : (mk p h R l).isSome = true ↔ LtOk p h R l := by
  unfold mk
  by_cases q : p ≤ l
  · rw [if_pos q, Option.isSome_map]
    constructor
    · intro z
      obtain ⟨r, hr⟩ := Option.isSome_iff_exists.mp z
      exact ⟨l0, l1, fun _ => ⟨r, hr⟩⟩
    · intro z
      obtain ⟨r, hr⟩ := z.2.2 q
      rw [hr]; rfl
  · rw [if_neg q]
    exact ⟨fun _ => ⟨l0, l1, fun z => absurd z q⟩, fun _ => rfl⟩
theorem tk_iff {p : Int} {Hs : List House} {R : List (Option (List Int))} (p1 : 1 ≤ p) (rl : R.length = Hs.length) {k : Int} {w : List Int} (hw : ∀ l ∈ w, 0 ≤ l ∧ l < p + Hs.length) : tkH (hsAt Hs k) (run (nxt (hsAt Hs k) (rowO (madeL p R (p.toNat + R.length)))) w) = true ↔ Tk p Hs R k w := by
  rw [tk_run]
  have e : ∀ l ∈ w, ((rowO (madeL p R (p.toNat + R.length)) l).isSome = true ↔ LtOk p Hs.length R l) := fun l hl => by
    have := hw l hl
    rw [madeL_row this.1 (by omega), rl]
    exact mk_lt this.1 this.2
  unfold Tk
  exact ⟨fun h => ⟨fun l hl => (e l hl).mp (h.1 l hl), h.2⟩, fun h => ⟨fun l hl => (e l hl).mpr (h.1 l hl), h.2⟩⟩
theorem wd_ok {p : Int} {Hs1 Hs2 : List House} {R1 R2 : List (Option (List Int))} {U1 U2 : List (Option Use)} (S1 : Sd p Hs1 R1 U1) (S2 : Sd p Hs2 R2 U2) (hl : Hs2.length = Hs1.length) (p1 : 1 ≤ p) (p4 : p ≤ 4) (h1 : 1 ≤ Hs1.length) (h3 : Hs1.length ≤ 3) (ph : p + Hs1.length ≤ 6) :
    ∃ o : Option (List Int), works_difference_d [worksD p Hs1, worksD p Hs2] = .ok (rowD o) ∧ (o = none → NA p Hs1 Hs2 R1 R2) ∧ ∀ y, o = some y → bal p Hs1.length y ∧ y.length ≤ 4000 ∧ accOf' p Hs1 y 0 ≠ accOf' p Hs2 y 0 := by
  obtain ⟨A1, hA1⟩ : ∃ A, A = worksD p Hs1 := ⟨_, rfl⟩
  obtain ⟨A2, hA2⟩ : ∃ A, A = worksD p Hs2 := ⟨_, rfl⟩
  obtain ⟨L, hL⟩ : ∃ L, L = p + (Hs1.length : Int) := ⟨_, rfl⟩
  have a0 : dIx A1 (.v (.int 0)) = .ok (.v (.int p)) := by rw [hA1]; simp [worksD]
  have b0 : dIx A2 (.v (.int 0)) = .ok (.v (.int p)) := by rw [hA2]; simp [worksD]
  have a1 : dIx A1 (.v (.int 1)) = .ok (.tup (Hs1.map (houseD L))) := by rw [hA1, hL]; simp [worksD]
  have b1 : dIx A2 (.v (.int 1)) = .ok (.tup (Hs2.map (houseD L))) := by rw [hA2, hL, ← hl]; simp [worksD]
  have la : (Hs1.map (houseD L)).length = Hs1.length := by simp
  have lb : (Hs2.map (houseD L)).length = Hs1.length := by simp [hl]
  have s1 := S1.us; have s2 := S2.us; have t1 := S1.sh; have t2 := S2.sh; have m1 := S1.lm; have m2 := S2.lm
  have r1 := S1.T.len; have r2 := S2.T.len
  rw [← hA1] at s1 t1 m1
  rw [← hA2] at s2 t2 m2
  obtain ⟨M1, hM1⟩ : ∃ M, M = madeL p R1 (p.toNat + R1.length) := ⟨_, rfl⟩
  obtain ⟨M2, hM2⟩ : ∃ M, M = madeL p R2 (p.toNat + R2.length) := ⟨_, rfl⟩
  rw [← hM1] at m1
  rw [← hM2] at m2
  have lM1 : (M1.length : Int) = L := by rw [hM1, madeL_len, hL]; omega
  have lM2 : (M2.length : Int) = L := by rw [hM2, madeL_len, hL]; omega
  have f1 := forL_find (t := nTg 3) (ks := [3, 4, 5]) (body := works_difference_b1) (e := envW (.fz A1) (.fz A2) (.own (.lst [.lst (U1.map useD), .lst (U2.map useD)])) .no .no .no .no .no) (f := fun (i : Nat) => D.i (i : Int))
    (N := fun i => (optAt U1 (i : Int)).isSome = (optAt U2 (i : Int)).isSome) (P := fun i c => ∃ y, c = .tup (y.map D.i) ∧ bal p Hs1.length y ∧ y.length ≤ 4000 ∧ accOf' p Hs1 y 0 ≠ accOf' p Hs2 y 0) (List.range Hs1.length) (fun i hi => by
      have hi := List.mem_range.mp hi
      by_cases q : (optAt U1 (i : Int)).isSome = (optAt U2 (i : Int)).isSome
      · exact .inl ⟨wb1_same (by omega) (by rw [S1.ul]; omega) (by rw [S2.ul]; omega) q, q⟩
      · refine .inr ?_
        cases o1 : optAt U1 (i : Int) with
        | none =>
          cases o2 : optAt U2 (i : Int) with
          | none => rw [o1, o2] at q; exact absurd rfl q
          | some u =>
            obtain ⟨c1, c2, c3, c4⟩ := diff_use S2 S1 hl.symm p1 (by omega) (by omega) (by omega) o2 o1
            obtain ⟨ok, l1, l2⟩ := S2.u2 _ u (by omega) o2
            have ls := S2.T.short _ _ (by omega) ok.row
            obtain ⟨e, he⟩ := wb1_two (A1 := A1) (A2 := A2) (by omega) (by rw [S1.ul]; omega) (by rw [S2.ul]; omega) o1 o2 (used_with_ok (p := p) (hs := Hs2.map (houseD L)) (n := Hs2.length) (by rw [hA2, worksD, hL, hl]) (by simp) (by omega) (by omega) (by omega))
            exact ⟨_, e, he, _, rfl, by rw [← hl]; exact c1, c2, by rw [c3, c4]; simp⟩
        | some u =>
          cases o2 : optAt U2 (i : Int) with
          | some v => rw [o1, o2] at q; exact absurd rfl q
          | none =>
            obtain ⟨c1, c2, c3, c4⟩ := diff_use S1 S2 hl p1 h1 (by omega) (by omega) o1 o2
            obtain ⟨ok, l1, l2⟩ := S1.u2 _ u (by omega) o1
            have ls := S1.T.short _ _ (by omega) ok.row
            obtain ⟨e, he⟩ := wb1_one (A1 := A1) (A2 := A2) (by omega) (by rw [S1.ul]; omega) (by rw [S2.ul]; omega) o1 o2 (used_with_ok (p := p) (hs := Hs1.map (houseD L)) (n := Hs1.length) (by rw [hA1, worksD, hL]) (by simp) (by omega) (by omega) (by omega))
            exact ⟨_, e, he, _, rfl, c1, c2, by rw [c3, c4]; simp⟩)
  have head : works_difference_d [A1, A2] = endD ((forL (nTg 3) [3, 4, 5] works_difference_b1 ((List.range Hs1.length).map fun (i : Nat) => D.i (i : Int)) (envW (.fz A1) (.fz A2) (.own (.lst [.lst (U1.map useD), .lst (U2.map useD)])) .no .no .no .no .no)).then fun e => (sSeq (sSet 6 (gL (pLst (aCons (pCall shortest_d (aCons (pV 0) aNil)) (aCons (pCall shortest_d (aCons (pV 1) aNil)) aNil)))))
    (sSeq (sSet 7 (gL (pLst (aCons (pCall letters_made_d (aCons (pV 0) (aCons (p2 dIx (pV 6) (pC (.int 0))) aNil))) (aCons (pCall letters_made_d (aCons (pV 1) (aCons (p2 dIx (pV 6) (pC (.int 1))) aNil))) aNil)))))
    (sSeq (sForR (nTg 3) [3, 8, 9, 10] (pCall bLen (aCons (p2 dIx (pV 0) (pC (.int 1))) aNil))
    works_difference_b2)
    (sRet (gL (pC .non)))))) e) := by
    rw [works_difference_d, fnD_e, works_difference_s, sSeq_e, wd_0 a0 b0 a1 b1 la lb, if_pos ⟨rfl, rfl⟩, then_nx, sSeq_e, wd_1 s1 s2, then_nx, sSeq_e, wd_2 (by simp [envW]) a1 la h3]
  rw [← hA1, ← hA2, head]
  rcases f1 with ⟨f1, n1⟩ | ⟨i, hi, c, e2, f1, y, rfl, c1, c2, c3⟩
  rotate_left
  · refine ⟨some y, by rw [f1]; simp, (fun z => by cases z), fun z hz => ?_⟩
    cases hz
    exact ⟨c1, c2, c3⟩
  rw [f1, then_nx, sSeq_e, wd_3 t1 t2, then_nx, sSeq_e, wd_4 m1 m2, then_nx, sSeq_e, wd_2 (by simp [envW]) a1 la h3]
  have ue : ∀ j, Used p Hs1 R1 j ↔ Used p Hs2 R2 j := fun j => by
    have key : ∀ j : Int, 0 ≤ j → j < Hs1.length → (Used p Hs1 R1 j ↔ Used p Hs2 R2 j) := fun j j0 j1 => by
      have q := n1 j.toNat (List.mem_range.mpr (by omega))
      rw [show ((j.toNat : Nat) : Int) = j by omega] at q
      rw [← S1.u1 j j0 j1, ← S2.u1 j j0 (by omega)]
      cases o1 : optAt U1 j <;> cases o2 : optAt U2 j <;> rw [o1, o2] at q <;> simp at q ⊢
    exact ⟨fun h => (key j (used_rg h1 h).1 (used_rg h1 h).2).mp h, fun h => (key j (used_rg (by omega) h).1 (by have := (used_rg (by omega) h).2; omega)).mpr h⟩
  have f2 := forL_find (t := nTg 3) (ks := [3, 8, 9, 10]) (body := works_difference_b2) (e := envW (.fz A1) (.fz A2) (.own (.lst [.lst (U1.map useD), .lst (U2.map useD)])) .no .no .no (.own (.lst [.lst (R1.map rowD), .lst (R2.map rowD)])) (.own (.lst [.lst (M1.map rowD), .lst (M2.map rowD)]))) (f := fun (i : Nat) => D.i (i : Int))
    (N := fun i => Used p Hs1 R1 (i : Int) → ∀ w, Tk p Hs1 R1 (i : Int) w ↔ Tk p Hs2 R2 (i : Int) w) (P := fun i c => ∃ y, c = .tup (y.map D.i) ∧ bal p Hs1.length y ∧ y.length ≤ 4000 ∧ accOf' p Hs1 y 0 ≠ accOf' p Hs2 y 0) (List.range Hs1.length) (fun i hi => by
      have hi := List.mem_range.mp hi
      have eH1 : hsAt Hs1 (i : Int) = Hs1[i] := by simp [hsAt, hi]
      have hi2 : i < Hs2.length := by omega
      have eH2 : hsAt Hs2 (i : Int) = Hs2[i] := by simp [hsAt, hi2]
      have hk1 : dAt (Hs1.map (houseD L)) (i : Int) = .ok (houseD L (hsAt Hs1 (i : Int))) := dAt_of (by omega) (by rw [eH1]; simp [hi])
      have hk2 : dAt (Hs2.map (houseD L)) (i : Int) = .ok (houseD L (hsAt Hs2 (i : Int))) := dAt_of (by omega) (by rw [eH2]; simp [hi2])
      have k1 : (hsAt Hs1 (i : Int)).ok L := by rw [eH1, hL]; exact S1.hk _ (List.getElem_mem hi)
      have k2 : (hsAt Hs2 (i : Int)).ok L := by rw [eH2, hL, ← hl]; exact S2.hk _ (List.getElem_mem hi2)
      cases o1 : optAt U1 (i : Int) with
      | none =>
        refine .inl ⟨wb2_none (by omega) (by rw [S1.ul]; omega) a1 b1 hk1 hk2 (.inl o1), fun u => ?_⟩
        obtain ⟨v, hv⟩ := (S1.u1 (i : Int) (by omega) (by omega)).mpr u
        rw [o1] at hv; cases hv
      | some u1 =>
        obtain ⟨u2, o2⟩ : ∃ u, optAt U2 (i : Int) = some u := by
          have q := n1 i (List.mem_range.mpr hi)
          rw [o1] at q
          exact Option.isSome_iff_exists.mp q.symm
        have Q1 := side_ok k1 lM1
        have Q2 := side_ok k2 lM2
        have h0 : dIx (houseD L (hsAt Hs1 (i : Int))) (.v (.int 0)) = .ok (.v (.int L)) := by simp [houseD]
        obtain ⟨o, hu, u1', u2'⟩ := unlike_ok Q1 Q2 h0 (by omega)
        have tk1 : ∀ w, (∀ l ∈ w, 0 ≤ l ∧ l < L) → (tkH (hsAt Hs1 (i : Int)) (run (nxt (hsAt Hs1 (i : Int)) (rowO M1)) w) = true ↔ Tk p Hs1 R1 (i : Int) w) := fun w hw => by
          rw [hM1]; exact tk_iff p1 r1 fun l h => by have := hw l h; omega
        have tk2 : ∀ w, (∀ l ∈ w, 0 ≤ l ∧ l < L) → (tkH (hsAt Hs2 (i : Int)) (run (nxt (hsAt Hs2 (i : Int)) (rowO M2)) w) = true ↔ Tk p Hs2 R2 (i : Int) w) := fun w hw => by
          rw [hM2]; exact tk_iff p1 r2 fun l h => by have := hw l h; omega
        cases ho : o with
        | none =>
          rw [ho] at hu
          refine .inl ⟨wb2_none (by omega) (by rw [S1.ul]; omega) a1 b1 hk1 hk2 (.inr hu), fun _ w => ?_⟩
          have q := u1' ho w
          constructor
          · intro t
            have hw : ∀ l ∈ w, 0 ≤ l ∧ l < L := fun l h => by have := t.1 l h; exact ⟨this.1, by rw [hL]; exact this.2.1⟩
            rw [← tk2 w hw, ← q hw, tk1 w hw]; exact t
          · intro t
            have hw : ∀ l ∈ w, 0 ≤ l ∧ l < L := fun l h => by have := t.1 l h; exact ⟨this.1, by rw [hL, ← hl]; exact this.2.1⟩
            rw [← tk1 w hw, q hw, tk2 w hw]; exact t
        | some w =>
          rw [ho] at hu
          obtain ⟨hw, lw, ne⟩ := u2' w ho
          refine .inr ?_
          have tw := told_ok (W := A1) (k := (i : Int)) Q1 a1 hk1 hw
          by_cases b : Tk p Hs1 R1 (i : Int) w
          · have nb : ¬ Tk p Hs2 R2 (i : Int) w := fun z => ne (by rw [(tk1 w hw).mpr b, (tk2 w hw).mpr z])
            rw [(tk1 w hw).mpr b] at tw
            obtain ⟨y, y1, y2, y3, y4⟩ := tk_row S1 p1 b
            have hw' : ∀ l ∈ w, 0 ≤ l ∧ l < p + Hs1.length := fun l h => by have := hw l h; omega
            obtain ⟨c1, c2, c3, c4⟩ := diff_word S1 S2 hl p1 h1 (by omega) o1 lw y1 y2 y3 y4 hw' nb
            obtain ⟨ok, l1, l2⟩ := S1.u2 _ u1 (by omega) o1
            obtain ⟨e, he⟩ := wb2_some (A1 := A1) (A2 := A2) (R1 := .lst (R1.map rowD)) (R2 := .lst (R2.map rowD)) (b := true) (by omega) (by rw [S1.ul]; omega) (by rw [S2.ul]; omega) o1 (by rw [if_pos rfl]; exact o1) a0 a1 b1 hk1 hk2 la hu tw
              (by rw [if_pos rfl]; exact spread_ok (by rw [r1]) (by rw [r1]; exact hw') (by rw [r1]; exact y1) (by omega) (fun j r j0 hr => by have := S1.T.short j r j0 hr; omega))
              (used_with_ok (p := p) (hs := Hs1.map (houseD L)) (n := Hs1.length) (by rw [hA1, worksD, hL]) (by simp) (by omega) (by omega) (by omega))
            exact ⟨_, e, he, _, rfl, c1, c2, by rw [c3, c4]; simp⟩
          · have tb : Tk p Hs2 R2 (i : Int) w := by
              by_cases z : Tk p Hs2 R2 (i : Int) w
              · exact z
              · refine absurd ?_ ne
                have e1 : tkH (hsAt Hs1 (i : Int)) (run (nxt (hsAt Hs1 (i : Int)) (rowO M1)) w) = false := by
                  cases q : tkH (hsAt Hs1 (i : Int)) (run (nxt (hsAt Hs1 (i : Int)) (rowO M1)) w) with
                  | false => rfl
                  | true => exact absurd ((tk1 w hw).mp q) b
                have e2 : tkH (hsAt Hs2 (i : Int)) (run (nxt (hsAt Hs2 (i : Int)) (rowO M2)) w) = false := by
                  cases q : tkH (hsAt Hs2 (i : Int)) (run (nxt (hsAt Hs2 (i : Int)) (rowO M2)) w) with
                  | false => rfl
                  | true => exact absurd ((tk2 w hw).mp q) z
                rw [e1, e2]
            have e1 : tkH (hsAt Hs1 (i : Int)) (run (nxt (hsAt Hs1 (i : Int)) (rowO M1)) w) = false := by
              cases q : tkH (hsAt Hs1 (i : Int)) (run (nxt (hsAt Hs1 (i : Int)) (rowO M1)) w) with
              | false => rfl
              | true => exact absurd ((tk1 w hw).mp q) b
            rw [e1] at tw
            obtain ⟨y, y1, y2, y3, y4⟩ := tk_row S2 p1 tb
            have hw' : ∀ l ∈ w, 0 ≤ l ∧ l < p + Hs2.length := fun l h => by have := hw l h; omega
            obtain ⟨c1, c2, c3, c4⟩ := diff_word S2 S1 hl.symm p1 (by omega) (by omega) o2 lw y1 y2 y3 y4 hw' b
            obtain ⟨ok, l1, l2⟩ := S2.u2 _ u2 (by omega) o2
            obtain ⟨e, he⟩ := wb2_some (A1 := A1) (A2 := A2) (R1 := .lst (R1.map rowD)) (R2 := .lst (R2.map rowD)) (b := false) (by omega) (by rw [S1.ul]; omega) (by rw [S2.ul]; omega) o1 (by rw [if_neg (by simp)]; exact o2) a0 a1 b1 hk1 hk2 la hu tw
              (by rw [if_neg (by simp)]; exact spread_ok (by rw [r2, hl]) (by rw [r2]; exact hw') (by rw [r2]; exact y1) (by omega) (fun j r j0 hr => by have := S2.T.short j r j0 hr; omega))
              (used_with_ok (p := p) (hs := Hs1.map (houseD L)) (n := Hs1.length) (by rw [hA1, worksD, hL]) (by simp) (by omega) (by omega) (by omega))
            rw [← hl] at he
            exact ⟨_, e, he, _, rfl, by rw [← hl]; exact c1, c2, by rw [c3, c4]; simp⟩)
  rcases f2 with ⟨f2, n2⟩ | ⟨i, hi, c, e2, f2, y, rfl, c1, c2, c3⟩
  · refine ⟨none, by rw [f2]; simp, fun _ => ⟨ue, fun j uj => ?_⟩, fun y hy => by cases hy⟩
    have rg := used_rg h1 uj
    have := n2 j.toNat (List.mem_range.mpr (by omega))
    rw [show ((j.toNat : Nat) : Int) = j by omega] at this
    exact this uj
  · refine ⟨some y, by rw [f2]; simp, (fun z => by cases z), fun z hz => ?_⟩
    cases hz
    exact ⟨c1, c2, c3⟩
end K82

namespace K82
open PySem PySem.Spec PyProof.Rows L2 Gw
/-! ### the law's works unlike -/
theorem srt_ext : ∀ {l m : List Int}, l.Nodup → m.Nodup → l.Pairwise (· ≤ ·) → m.Pairwise (· ≤ ·) → (∀ x, x ∈ l ↔ x ∈ m) → l = m
  | [], [], _, _, _, _, _ => rfl
  | [], y :: m, _, _, _, _, h => by have := (h y).mpr (by simp); cases this
  | x :: l, [], _, _, _, _, h => by have := (h x).mp (by simp); cases this
  | x :: l, y :: m, n1, n2, s1, s2, h => by
    rw [List.nodup_cons] at n1 n2
    rw [List.pairwise_cons] at s1 s2
    have e : x = y := by
      rcases List.mem_cons.mp ((h x).mp (by simp)) with e | a
      · exact e
      · rcases List.mem_cons.mp ((h y).mpr (by simp)) with e | b
        · exact e.symm
        · exact Int.le_antisymm (s1.1 y b) (s2.1 x a)
    subst e
    rw [srt_ext n1.2 n2.2 s1.2 s2.2 fun z => ?_]
    have := h z
    rw [List.mem_cons, List.mem_cons] at this
    constructor
    · intro hz
      rcases this.mp (.inr hz) with e | q
      · exact absurd (e ▸ hz) n1.1
      · exact q
    · intro hz
      rcases this.mpr (.inr hz) with e | q
      · exact absurd (e ▸ hz) n2.1
      · exact q
section
variable {p : Int} {Hs1 Hs2 : List House} {R1 R2 : List (Option (List Int))} {U1 U2 : List (Option Use)}
theorem gmem {p : Int} {Hs : List House} {R : List (Option (List Int))} {G : List Int} (I : LInv p Hs R G) (hg : ∀ j : Int, 0 ≤ j → j < Hs.length → (p + j ∈ G ↔ ∃ r, rowO R j = some r)) {l : Int} : l ∈ G ↔ LtOk p Hs.length R l := by
  constructor
  · intro h
    have := I.rg l h
    exact ⟨this.1, this.2, I.snd l h⟩
  · rintro ⟨a, b, c⟩
    by_cases q : p ≤ l
    · have := (hg (l - p) (by omega) (by omega)).mpr (c q)
      rwa [show p + (l - p) = l by omega] at this
    · exact I.base l a (by omega)
theorem used_row {p : Int} {Hs : List House} {R : List (Option (List Int))} {j : Int} (h : Used p Hs R j) : ∃ r, rowO R j = some r := by
  cases h with
  | zero h => exact ⟨_, h⟩
  | step _ e => exact e.2.2.1
/-- a word taken by a house of use on one side is one of the common letters -/
theorem tk_common (hl : Hs2.length = Hs1.length) (ue : ∀ j, Used p Hs1 R1 j → Used p Hs2 R2 j) {j : Int} {w : List Int} (uj : Used p Hs1 R1 j) (t : Tk p Hs1 R1 j w) : ∀ l ∈ w, LtOk p Hs2.length R2 l := fun l hl' => by
  obtain ⟨a, b, c⟩ := t.1 l hl'
  refine ⟨a, by rw [hl]; exact b, fun q => ?_⟩
  obtain ⟨w1, w2, e⟩ := List.append_of_mem hl'
  have ed : Edge p Hs1 R1 j (l - p) := ⟨by omega, by omega, c q, w1, w2, fun x hx => t.1 x (by rw [e]; simp [hx]), fun x hx => t.1 x (by rw [e]; simp [hx]), by
    rw [show p + (l - p) = l by omega, ← e]; exact t.2⟩
  exact used_row (ue _ (.step uj ed))
theorem na_word (hl : Hs2.length = Hs1.length) (ue : ∀ j, Used p Hs1 R1 j ↔ Used p Hs2 R2 j) {j : Int} (uj : Used p Hs1 R1 j) {ls : List Int} (hls : ∀ l, l ∈ ls ↔ LtOk p Hs1.length R1 l ∧ LtOk p Hs2.length R2 l) :
    (∃ w : List Int, (∀ l ∈ w, l ∈ ls) ∧ ¬ ((hsAt Hs1 j).mark ((hsAt Hs1 j).walk 0 w) = 0 ↔ (hsAt Hs2 j).mark ((hsAt Hs2 j).walk 0 w) = 0)) ↔ ¬ ∀ w, Tk p Hs1 R1 j w ↔ Tk p Hs2 R2 j w := by
  constructor
  · rintro ⟨w, w1, w2⟩ h
    have h := h w
    have g1 : ∀ l ∈ w, LtOk p Hs1.length R1 l := fun l hl' => ((hls l).mp (w1 l hl')).1
    have g2 : ∀ l ∈ w, LtOk p Hs2.length R2 l := fun l hl' => ((hls l).mp (w1 l hl')).2
    apply w2
    constructor
    · intro z
      by_cases q : (hsAt Hs2 j).mark ((hsAt Hs2 j).walk 0 w) = 0
      · exact q
      · exact absurd z (h.mpr ⟨g2, q⟩).2
    · intro z
      by_cases q : (hsAt Hs1 j).mark ((hsAt Hs1 j).walk 0 w) = 0
      · exact q
      · exact absurd z (h.mp ⟨g1, q⟩).2
  · intro h
    rw [Classical.not_forall] at h
    obtain ⟨w, hw⟩ := h
    refine ⟨w, ?_⟩
    by_cases t1 : Tk p Hs1 R1 j w
    · have g2 := tk_common hl (fun j => (ue j).mp) uj t1
      have n2 : ¬ Tk p Hs2 R2 j w := fun z => hw ⟨fun _ => z, fun _ => t1⟩
      refine ⟨fun l hl' => (hls l).mpr ⟨t1.1 l hl', g2 l hl'⟩, fun z => t1.2 (z.mpr ?_)⟩
      by_cases q : (hsAt Hs2 j).mark ((hsAt Hs2 j).walk 0 w) = 0
      · exact q
      · exact absurd ⟨g2, q⟩ n2
    · have t2 : Tk p Hs2 R2 j w := by
        by_cases z : Tk p Hs2 R2 j w
        · exact z
        · exact absurd ⟨fun q => absurd q t1, fun q => absurd q z⟩ hw
      have g1 := tk_common hl.symm (fun j => (ue j).mpr) ((ue j).mp uj) t2
      refine ⟨fun l hl' => (hls l).mpr ⟨g1 l hl', t2.1 l hl'⟩, fun z => t2.2 (z.mp ?_)⟩
      by_cases q : (hsAt Hs1 j).mark ((hsAt Hs1 j).walk 0 w) = 0
      · exact q
      · exact absurd ⟨g1, q⟩ t1
theorem lu_head {A1 A2 : D} {G1 G2 f1 f2 : List Int} (g1 : _law_letters_good_d [A1] = .ok (.lst (G1.map D.i))) (g2 : _law_letters_good_d [A2] = .ok (.lst (G2.map D.i))) (u1 : _law_of_use_d [A1, .lst (G1.map D.i)] = .ok (.lst (f1.map D.i))) (u2 : _law_of_use_d [A2, .lst (G2.map D.i)] = .ok (.lst (f2.map D.i))) (l1 : G1.length ≤ 6) :
    (f1 ≠ f2 → _law_unlike_d [A1, A2] = .ok (.v (.bl true))) ∧ (f1 = f2 → _law_unlike_d [A1, A2] = endD ((forL (nTg 6) [6] _law_unlike_b1 (f1.map D.i) [.fz A1, .fz A2, .own (.lst (G1.map D.i)), .own (.lst (G2.map D.i)), .fz (.lst (f1.map D.i)), .own (.lst ((G1.filter fun l => decide (l ∈ G2)).map D.i)), .no, .no]).then (sRet (gL (pC (.bl false)))))) := by
  have sl := sline
  have e1 : sSet 2 (gL (pCall _law_letters_good_d (aCons (pV 0) aNil))) (env0 8 [A1, A2]) = .nx [.fz A1, .fz A2, .own (.lst (G1.map D.i)), .no, .no, .no, .no, .no] := by simp [g1]
  have e2 : sSet 3 (gL (pCall _law_letters_good_d (aCons (pV 1) aNil))) [.fz A1, .fz A2, .own (.lst (G1.map D.i)), .no, .no, .no, .no, .no] = .nx [.fz A1, .fz A2, .own (.lst (G1.map D.i)), .own (.lst (G2.map D.i)), .no, .no, .no, .no] := by simp [g2]
  have e3 : sSet 4 (gL (pCall _law_of_use_d (aCons (pV 0) (aCons (pV 2) aNil)))) [.fz A1, .fz A2, .own (.lst (G1.map D.i)), .own (.lst (G2.map D.i)), .no, .no, .no, .no] = .nx [.fz A1, .fz A2, .own (.lst (G1.map D.i)), .own (.lst (G2.map D.i)), .own (.lst (f1.map D.i)), .no, .no, .no] := by simp [u1]
  have e4 : qB (p2 (dEq true) (pV 4) (pCall _law_of_use_d (aCons (pV 1) (aCons (pV 3) aNil)))) [.fz A1, .fz A2, .own (.lst (G1.map D.i)), .own (.lst (G2.map D.i)), .own (.lst (f1.map D.i)), .no, .no, .no] = .ok (!decide (f1 = f2)) := by
    simp [u2, deqs_ints]
  rw [_law_unlike_d, fnD_e, _law_unlike_s, sSeq_e, e1, then_nx, sSeq_e, e2, then_nx, sSeq_e, e3, then_nx, sSeq_e, sIf_e, e4]
  refine ⟨fun h => ?_, fun h => ?_⟩
  · simp [h]
  · have fl := List.length_filter_le (fun l : Int => decide (l ∈ G2)) G1
    have cm := compL_filter (t := nTg 7) (q := qB (p2 (dIn false) (pV 7) (pV 3))) (pe := pImm (pV 7)) (env := [.fz A1, .fz A2, .own (.lst (G1.map D.i)), .own (.lst (G2.map D.i)), .own (.lst (f1.map D.i)), .no, .no, .no]) D.i (fun l => decide (l ∈ G2)) D.i G1 (fun l hl => ⟨[.fz A1, .fz A2, .own (.lst (G1.map D.i)), .own (.lst (G2.map D.i)), .own (.lst (f1.map D.i)), .no, .no, .fz (.v (.int l))], by simp, (by simp; exact any_deq2), by simp⟩)
    have z : (G1.filter fun l => decide (l ∈ G2)).length ≤ sizeLine := by omega
    have e5 : sSet 5 (gL (pComp (nTg 7) (qB (p2 (dIn false) (pV 7) (pV 3))) (pImm (pV 7)) [7] (pV 2))) [.fz A1, .fz A2, .own (.lst (G1.map D.i)), .own (.lst (G2.map D.i)), .own (.lst (f1.map D.i)), .no, .no, .no] = .nx [.fz A1, .fz A2, .own (.lst (G1.map D.i)), .own (.lst (G2.map D.i)), .own (.lst (f1.map D.i)), .own (.lst ((G1.filter fun l => decide (l ∈ G2)).map D.i)), .no, .no] := by
      simp
      rw [cm]
      simp [z]
    rw [h]
    simp only [decide_true, Bool.not_true, Bool.false_eq_true, if_false, sNil_e, then_nx]
    rw [h] at e5
    rw [sSeq_e, e5, then_nx, sSeq_e]
    congr 2
theorem unlike_law (S1 : Sd p Hs1 R1 U1) (S2 : Sd p Hs2 R2 U2) (hl : Hs2.length = Hs1.length) (p1 : 1 ≤ p) (h1 : 1 ≤ Hs1.length) (h3 : Hs1.length ≤ 3) (ph : p + Hs1.length ≤ 6) :
    ∃ b : Bool, _law_unlike_d [worksD p Hs1, worksD p Hs2] = .ok (.v (.bl b)) ∧ (b = true ↔ ¬ NA p Hs1 Hs2 R1 R2) := by
  obtain ⟨G1, g1, gl1, hg1, I1⟩ := letters_good_ok p1 h3 ph S1.hk S1.T
  obtain ⟨G2, g2, gl2, hg2, I2⟩ := letters_good_ok p1 (by omega) (by omega) S2.hk S2.T
  obtain ⟨f1, o1, n1, s1, l1, r1, q1⟩ := of_use_ok p1 h1 h3 S1.hk hg1 I1
  obtain ⟨f2, o2, n2, s2, l2, r2, q2⟩ := of_use_ok p1 (by omega) (by omega) S2.hk hg2 I2
  obtain ⟨hA, hB⟩ := lu_head g1 g2 o1 o2 gl1
  by_cases hf : f1 = f2
  · have ue : ∀ j, Used p Hs1 R1 j ↔ Used p Hs2 R2 j := fun j => by rw [← q1, ← q2, hf]
    obtain ⟨L, hL⟩ : ∃ L, L = p + (Hs1.length : Int) := ⟨_, rfl⟩
    have hls : ∀ l, l ∈ (G1.filter fun l => decide (l ∈ G2)) ↔ LtOk p Hs1.length R1 l ∧ LtOk p Hs2.length R2 l := fun l => by
      rw [List.mem_filter, gmem I1 hg1, decide_eq_true_eq, gmem I2 hg2]
    have fd := forL_find (t := nTg 6) (ks := [6]) (body := _law_unlike_b1) (e := [.fz (worksD p Hs1), .fz (worksD p Hs2), .own (.lst (G1.map D.i)), .own (.lst (G2.map D.i)), .fz (.lst (f1.map D.i)), .own (.lst ((G1.filter fun l => decide (l ∈ G2)).map D.i)), .no, .no]) (f := D.i)
      (N := fun j => ∀ w, Tk p Hs1 R1 j w ↔ Tk p Hs2 R2 j w) (P := fun j c => c = .v (.bl true) ∧ ¬ ∀ w, Tk p Hs1 R1 j w ↔ Tk p Hs2 R2 j w) f1 (fun j hj => by
        have rg := r1 j hj
        have i1 : j.toNat < Hs1.length := by omega
        have i2 : j.toNat < Hs2.length := by omega
        have eH1 : hsAt Hs1 j = Hs1[j.toNat] := by simp [hsAt, i1]
        have eH2 : hsAt Hs2 j = Hs2[j.toNat] := by simp [hsAt, i2]
        have k1 : (hsAt Hs1 j).ok L := by rw [eH1, hL]; exact S1.hk _ (List.getElem_mem i1)
        have k2 : (hsAt Hs2 j).ok L := by rw [eH2, hL, ← hl]; exact S2.hk _ (List.getElem_mem i2)
        obtain ⟨b, hb, ib⟩ := hunlike_ok (ls := G1.filter fun l => decide (l ∈ G2)) k1 k2 (fun l hl' => by have := ((hls l).mp hl').1; exact ⟨this.1, by rw [hL]; exact this.2.1⟩)
        rw [na_word hl ue ((q1 j).mp hj) hls] at ib
        have hk1 : dAt (Hs1.map (houseD L)) j = .ok (houseD L (hsAt Hs1 j)) := dAt_of rg.1 (by rw [eH1]; simp [i1])
        have hk2 : dAt (Hs2.map (houseD L)) j = .ok (houseD L (hsAt Hs2 j)) := dAt_of rg.1 (by rw [eH2]; simp [i2])
        have a1 : dIx (worksD p Hs1) (.v (.int 1)) = .ok (.tup (Hs1.map (houseD L))) := by rw [hL]; simp [worksD]
        have a2 : dIx (worksD p Hs2) (.v (.int 1)) = .ok (.tup (Hs2.map (houseD L))) := by rw [hL, ← hl]; simp [worksD]
        generalize worksD p Hs1 = A1 at *
        generalize worksD p Hs2 = A2 at *
        cases hbb : b with
        | true =>
          rw [hbb] at hb ib
          exact .inr ⟨.v (.bl true), [.fz A1, .fz A2, .own (.lst (G1.map D.i)), .own (.lst (G2.map D.i)), .fz (.lst (f1.map D.i)), .own (.lst ((G1.filter fun l => decide (l ∈ G2)).map D.i)), .fz (.v (.int j)), .no], by simp [turn, _law_unlike_b1, a1, a2, hk1, hk2, hb], rfl, ib.mp rfl⟩
        | false =>
          rw [hbb] at hb ib
          refine .inl ⟨by simp [turn, _law_unlike_b1, a1, a2, hk1, hk2, hb], ?_⟩
          by_cases z : ∀ w, Tk p Hs1 R1 j w ↔ Tk p Hs2 R2 j w
          · exact z
          · have := ib.mpr z; cases this)
    rw [hB hf]
    rcases fd with ⟨e, n⟩ | ⟨j, hj, c, e2, e, rfl, hn⟩
    · refine ⟨false, by rw [e]; simp, fun z => (by cases z), fun z => absurd ⟨ue, fun j uj => n j ((q1 j).mpr uj)⟩ z⟩
    · refine ⟨true, by rw [e]; simp, fun _ z => hn (z.2 j ((q1 j).mp hj)), fun _ => rfl⟩
  · refine ⟨true, hA hf, fun _ z => hf (srt_ext n1 n2 s1 s2 fun x => by rw [q1, q2]; exact z.1 x), fun _ => rfl⟩
end
end K82

namespace K82
open PySem PySem.Spec PyProof.Rows L2 Gw
/-! ### refusals, other works -/
theorem wd_refused {A1 A2 : D} {p p' : Int} {Hd1 Hd2 : List D} {n n' : Nat} (a0 : dIx A1 (.v (.int 0)) = .ok (.v (.int p))) (b0 : dIx A2 (.v (.int 0)) = .ok (.v (.int p'))) (a1 : dIx A1 (.v (.int 1)) = .ok (.tup Hd1)) (b1 : dIx A2 (.v (.int 1)) = .ok (.tup Hd2)) (l1 : Hd1.length = n) (l2 : Hd2.length = n') (h : ¬ (p = p' ∧ n = n')) :
    works_difference_d [A1, A2] = .exc ⟨Str.ofString "BadHouse", none⟩ := by
  rw [works_difference_d, fnD_e, works_difference_s, sSeq_e, wd_0 a0 b0 a1 b1 l1 l2, if_neg h]
  rfl
theorem tblw : tbl_AskError_BadHouse_BadWord (Str.ofString "BadHouse") = some (true, true, false) := by decide +kernel
theorem refused_ok {A1 A2 : D} (t : works_difference_d [A1, A2] = .exc ⟨Str.ofString "BadHouse", none⟩) : _law_refused_d [A1, A2] = .ok (.v (.bl true)) := by
  simp [_law_refused_d, _law_refused_s, sTryIs, t, tblw]
theorem bare_ok {a b : Int} (a0 : 0 ≤ a) (a1 : a ≤ 10) (b0 : 0 ≤ b) (b1 : b ≤ 10) : ∃ B Hd, _law_bare_d [.v (.int a), .v (.int b)] = .ok B ∧ dIx B (.v (.int 0)) = .ok (.v (.int a)) ∧ dIx B (.v (.int 1)) = .ok (.tup Hd) ∧ (Hd.length : Int) = b ∧ imm B = true := by
  have sl := sline
  have y1 : -9223372036854775808 ≤ a + b ∧ a + b < 9223372036854775808 := by omega
  have y2 : -9223372036854775808 ≤ b ∧ b < 9223372036854775808 := by omega
  have y3 : (a + b).toNat ≤ sizeLine := by omega
  have y4 : b.toNat ≤ sizeLine := by omega
  have e : ∀ (n : Nat) (d : D), (List.replicate n [d]).flatten = List.replicate n d := by
    intro n d
    induction n with
    | zero => rfl
    | succ n ih => rw [List.replicate_succ, List.replicate_succ, List.flatten_cons, ih]; rfl
  have im : ∀ (n : Nat) (d : D), imm d = true → imms (List.replicate n d) = true := by
    intro n d hd
    induction n with
    | zero => simp
    | succ n ih => rw [List.replicate_succ]; simp [hd, ih]
  have i1 := im (a + b).toNat (.v (.int 0)) (by simp)
  have i2 := im b.toNat (.tup [.v (.int (a + b)), .tup [.v (.int 1)], .tup [.tup (List.replicate (a + b).toNat (.v (.int 0)))]]) (by simp [i1])
  refine ⟨.tup [.v (.int a), .tup (List.replicate b.toNat (.tup [.v (.int (a + b)), .tup [.v (.int 1)], .tup [.tup (List.replicate (a + b).toNat (.v (.int 0)))]]))], _, ?_, (by first | (simp; done) | (simp; rfl)), (by first | rfl | (simp; done) | (simp; rfl)), (by simp; omega), (by simp [i2])⟩
  simp [_law_bare_d, _law_bare_s, y1, y2, y3, y4, e, i1, i2]
def envX (L way cell j room : Int) (H : House) (W F : D) (Hs : List House) (s10 s11 : Sl) : En := [.fz W, .fz F, .fz (.v (.int way)), .fz (.v (.int cell)), .own (.lst (Hs.map (houseD L))), .own (.v (.int j)), .fz (.v (.int L)), .fz (.tup (H.marks.map D.i)), .fz (.tup (H.ways.map fun w => .tup (w.map D.i))), .own (.v (.int room)), s10, s11]
theorem pick4 {a b c d m : Int} (m0 : 0 ≤ m) (m1 : m < 4) : ∃ x, dAt [.v (.int a), .v (.int b), .v (.int c), .v (.int d)] m = .ok (.v (.int x)) := by
  have : m = 0 ∨ m = 1 ∨ m = 2 ∨ m = 3 := by omega
  rcases this with rfl | rfl | rfl | rfl
  · exact ⟨a, dAt_of (by decide) rfl⟩
  · exact ⟨b, dAt_of (by decide) rfl⟩
  · exact ⟨c, dAt_of (by decide) rfl⟩
  · exact ⟨d, dAt_of (by decide) rfl⟩
section
variable {L way cell j room : Int} {H : House} {W F : D} {Hs : List House} {s10 s11 : Sl}
theorem imms_houses : ∀ {Hs : List House}, imms (Hs.map (houseD L)) = true
  | [] => by simp
  | H :: Hs => by rw [List.map_cons]; simp [imms_houses]
theorem ow_4 (k : H.ok L) (r0 : 0 ≤ room) (r1 : room < H.marks.length) (j0 : 0 ≤ j) (j1 : j < Hs.length) (f : En → Ou) : ∃ H' s10', H'.ok L ∧
    (sSeq (sIf (qB (p2 (dEq false) (pV 2) (pC (.int 1))))
    (sSeq (sSet 10 (gL (pCall bList (aCons (pV 7) aNil))))
    (sSeq (sSetItem (lVar 10) (pV 9) (gL (pImm (p2 dIx (p2 dIx (pLst (aCons (pLst (aCons (pC (.int 0)) (aCons (pC (.int 1000000000)) (aCons (pC (.int 0)) (aCons (pC (.int 1)) aNil))))) (aCons (pLst (aCons (pC (.int 1)) (aCons (pC (.int 1000000000)) (aCons (pC (.int 7)) (aCons (pC (.int 0)) aNil))))) aNil))) (pCall bInt (aCons (p2 (dEq false) (p2 dIx (pV 10) (pV 9)) (pC (.int 0))) aNil))) (p2 dMod (p2 dDiv (pV 3) (pC (.int 31))) (pC (.int 4)))))))
    (sSetItem (lVar 4) (pV 5) (gL (pTup (aCons (pImm (pV 6)) (aCons (pCall bTuple (aCons (pV 10) aNil)) (aCons (pImm (pV 8)) aNil))))))))
    sNil) f) (envX L way cell j room H W F Hs .no .no) = f (envX L way cell j room H W F (if way = 1 then Hs.set j.toNat H' else Hs) s10' .no) := by
  have sl := sline
  by_cases q : way = 1
  · subst q
    have lm := k.le
    have n0 := Int.emod_nonneg (cell / 31) (b := 4) (by omega)
    have n1 := Int.emod_lt_of_pos (cell / 31) (b := 4) (by omega)
    have mm : CDiv cell 31 := ⟨by decide, by decide⟩
    obtain ⟨x0, h0⟩ := pick4 (a := 0) (b := 1000000000) (c := 0) (d := 1) n0 n1
    obtain ⟨x1, h1⟩ := pick4 (a := 1) (b := 1000000000) (c := 7) (d := 0) n0 n1
    obtain ⟨x, hx⟩ : ∃ x, (dIx (.lst [.lst [.v (.int 0), .v (.int 1000000000), .v (.int 0), .v (.int 1)], .lst [.v (.int 1), .v (.int 1000000000), .v (.int 7), .v (.int 0)]]) (.v (.int (if H.mark room = 0 then 1 else 0)))).bind (fun d => dIx d (.v (.int (cell / 31 % 4)))) = .ok (.v (.int x)) := by
      by_cases z : H.mark room = 0
      · exact ⟨x1, by simp [z, h1]⟩
      · exact ⟨x0, by simp [z, h0]⟩
    have mk := dIx_mark r0 r1
    have ix := ixN_of (n := H.marks.length) r0 r1
    have ix2 := ixN_of (n := Hs.length) j0 j1
    have rl : room.toNat < H.marks.length := by omega
    have jl : j.toNat < Hs.length := by omega
    have zl : H.marks.length ≤ sizeLine := by omega
    refine ⟨⟨H.marks.set room.toNat x, H.ways⟩, .own (.lst ((H.marks.set room.toNat x).map D.i)), ⟨by simp [k.len], by simp [k.pos], by simp [k.le], fun w hw => by simpa using k.way w hw⟩, ?_⟩
    have e1 : sSet 10 (gL (pCall bList (aCons (pV 7) aNil))) (envX L 1 cell j room H W F Hs .no .no) = .nx (envX L 1 cell j room H W F Hs (.own (.lst (H.marks.map D.i))) .no) := by simp [envX]
    have e2 : sSetItem (lVar 10) (pV 9) (gL (pImm (p2 dIx (p2 dIx (pLst (aCons (pLst (aCons (pC (.int 0)) (aCons (pC (.int 1000000000)) (aCons (pC (.int 0)) (aCons (pC (.int 1)) aNil))))) (aCons (pLst (aCons (pC (.int 1)) (aCons (pC (.int 1000000000)) (aCons (pC (.int 7)) (aCons (pC (.int 0)) aNil))))) aNil))) (pCall bInt (aCons (p2 (dEq false) (p2 dIx (pV 10) (pV 9)) (pC (.int 0))) aNil))) (p2 dMod (p2 dDiv (pV 3) (pC (.int 31))) (pC (.int 4)))))) (envX L 1 cell j room H W F Hs (.own (.lst (H.marks.map D.i))) .no) = .nx (envX L 1 cell j room H W F Hs (.own (.lst ((H.marks.set room.toNat x).map D.i))) .no) := by
      have hv : (gL (pImm (p2 dIx (p2 dIx (pLst (aCons (pLst (aCons (pC (.int 0)) (aCons (pC (.int 1000000000)) (aCons (pC (.int 0)) (aCons (pC (.int 1)) aNil))))) (aCons (pLst (aCons (pC (.int 1)) (aCons (pC (.int 1000000000)) (aCons (pC (.int 7)) (aCons (pC (.int 0)) aNil))))) aNil))) (pCall bInt (aCons (p2 (dEq false) (p2 dIx (pV 10) (pV 9)) (pC (.int 0))) aNil))) (p2 dMod (p2 dDiv (pV 3) (pC (.int 31))) (pC (.int 4)))))) (envX L 1 cell j room H W F Hs (.own (.lst (H.marks.map D.i))) .no) = .ok (.v (.int x)) (envX L 1 cell j room H W F Hs (.own (.lst (H.marks.map D.i))) .no) := by
        by_cases z : H.mark room = 0
        · simp [z] at hx
          simp [envX, mk, z, mm, hx]
        · simp [z] at hx
          simp [envX, mk, z, mm, hx]
      rw [sSetItem_e, hv]
      simp [envX, ix, rl, List.map_set]
    have e3 : sSetItem (lVar 4) (pV 5) (gL (pTup (aCons (pImm (pV 6)) (aCons (pCall bTuple (aCons (pV 10) aNil)) (aCons (pImm (pV 8)) aNil))))) (envX L 1 cell j room H W F Hs (.own (.lst ((H.marks.set room.toNat x).map D.i))) .no) = .nx (envX L 1 cell j room H W F (Hs.set j.toNat ⟨H.marks.set room.toNat x, H.ways⟩) (.own (.lst ((H.marks.set room.toNat x).map D.i))) .no) := by
      have iw : imms (H.ways.map fun w => D.tup (w.map D.i)) = true := by
        simp
      have im : imms ((H.marks.map D.i).set room.toNat (.v (.int x))) = true := by
        have := imms_ints (ns := H.marks.set room.toNat x)
        rwa [List.map_set] at this
      simp [envX, ix2, jl, iw, im, List.map_set, houseD]
    have tt : qB (p2 (dEq false) (pV 2) (pC (.int 1))) (envX L 1 cell j room H W F Hs .no .no) = .ok true := by simp [envX]
    rw [sSeq_e, sIf_e, tt]
    simp only [if_true]
    rw [sSeq_e, e1, then_nx, sSeq_e, e2, then_nx, e3, then_nx]
  · have tt : qB (p2 (dEq false) (pV 2) (pC (.int 1))) (envX L way cell j room H W F Hs .no .no) = .ok false := by simp [envX, q]
    exact ⟨H, .no, k, by rw [sSeq_e, sIf_e, tt]; simp [q]⟩
theorem modify_const {α : Type} {x : α} : ∀ {l : List α} {k : Nat}, l.modify k (fun _ => x) = l.set k x
  | [], k => by cases k <;> rfl
  | a :: l, 0 => rfl
  | a :: l, k + 1 => by rw [List.modify_succ_cons, List.set_cons_succ, modify_const]
theorem ow_5 (k : H.ok L) (l1 : 1 ≤ L) (l6 : L ≤ 6) (r0 : 0 ≤ room) (r1 : room < H.marks.length) (j0 : 0 ≤ j) (j1 : j < Hs.length) (f : En → Ou) : ∃ H' s11', H'.ok L ∧
    (sSeq (sIf (qB (p2 (dEq false) (pV 2) (pC (.int 2))))
    (sSeq (sSet 11 (gL (pComp (nTg 10) qYes (pCall bList (aCons (pV 10) aNil)) [10] (pV 8))))
    (sSeq (sSetItem (lIx (lVar 11) (pV 9)) (p2 dMod (p2 dDiv (pV 3) (pC (.int 31))) (pV 6)) (gL (p2 dMod (p2 dDiv (pV 3) (pC (.int 1009))) (pCall bLen (aCons (pV 7) aNil)))))
    (sSetItem (lVar 4) (pV 5) (gL (pTup (aCons (pImm (pV 6)) (aCons (pImm (pV 7)) (aCons (pCall bTuple (aCons (pComp (nTg 10) qYes (pCall bTuple (aCons (pV 10) aNil)) [10] (pV 11)) aNil)) aNil))))))))
    sNil) f) (envX L way cell j room H W F Hs s10 .no) = f (envX L way cell j room H W F (if way = 2 then Hs.set j.toNat H' else Hs) s10 s11') := by
  have sl := sline
  by_cases q : way = 2
  · subst q
    have lm := k.le
    have pm := k.pos
    have n0 := Int.emod_nonneg (cell / 31) (b := L) (by omega)
    have n1 := Int.emod_lt_of_pos (cell / 31) (b := L) (by omega)
    have v0 := Int.emod_nonneg (cell / 1009) (b := (H.marks.length : Int)) (by omega)
    have v1 := Int.emod_lt_of_pos (cell / 1009) (b := (H.marks.length : Int)) (by omega)
    have mm : CDiv cell 31 := ⟨by decide, by decide⟩
    have m2 : CDiv cell 1009 := ⟨by decide, by decide⟩
    obtain ⟨l, hl⟩ : ∃ l, l = cell / 31 % L := ⟨_, rfl⟩
    obtain ⟨v, hv⟩ : ∃ v, v = cell / 1009 % (H.marks.length : Int) := ⟨_, rfl⟩
    have rw_ : room.toNat < H.ways.length := by rw [k.len]; omega
    obtain ⟨wr, hwr⟩ : ∃ wr, H.ways[room.toNat]? = some wr := ⟨_, List.getElem?_eq_getElem rw_⟩
    have ew : H.ways[room.toNat] = wr := (List.getElem?_eq_some_iff.mp hwr).2
    obtain ⟨wl, wv⟩ := k.way wr (List.mem_of_getElem? hwr)
    have ix2 := ixN_of (n := Hs.length) j0 j1
    have ix3 := ixN_of (n := H.ways.length) (i := room) r0 (by rw [k.len]; omega)
    have ix4 := ixN_of (n := wr.length) (i := l) (by omega) (by omega)
    have jl : j.toNat < Hs.length := by omega
    have ll : l.toNat < wr.length := by omega
    refine ⟨⟨H.marks, H.ways.set room.toNat (wr.set l.toNat v)⟩, .own (.lst ((H.ways.set room.toNat (wr.set l.toNat v)).map fun w => .lst (w.map D.i))), ⟨by simp [k.len], k.pos, k.le, fun w hw => by
      rcases List.mem_or_eq_of_mem_set hw with h | h
      · exact k.way w h
      · subst h
        refine ⟨by simp [wl], fun x hx => ?_⟩
        rcases List.mem_or_eq_of_mem_set hx with h | h
        · exact wv x h
        · rw [h]; exact ⟨by rw [hv]; exact v0, by show v < (H.marks.length : Int); rw [hv]; exact v1⟩⟩, ?_⟩
    have c1 := compL_run (t := nTg 10) (q := qYes) (pe := pCall bList (aCons (pV 10) aNil)) (env := envX L 2 cell j room H W F Hs .no .no) (fun w : List Int => D.tup (w.map D.i)) (fun w => D.lst (w.map D.i)) H.ways (fun w hw => ⟨envX L 2 cell j room H W F Hs (.fz (.tup (w.map D.i))) .no, by simp [envX], by simp, by simp [envX]⟩)
    have zw : H.ways.length ≤ sizeLine := by rw [k.len]; omega
    have e1 : sSet 11 (gL (pComp (nTg 10) qYes (pCall bList (aCons (pV 10) aNil)) [10] (pV 8))) (envX L 2 cell j room H W F Hs s10 .no) = .nx (envX L 2 cell j room H W F Hs s10 (.own (.lst (H.ways.map fun w => .lst (w.map D.i))))) := by
      have kl : kills [10] (envX L 2 cell j room H W F Hs s10 .no) = envX L 2 cell j room H W F Hs .no .no := by simp [envX]
      have pc : pComp (nTg 10) qYes (pCall bList (aCons (pV 10) aNil)) [10] (pV 8) (envX L 2 cell j room H W F Hs s10 .no) = .ok (.lst (H.ways.map fun w => .lst (w.map D.i))) := by
        have pv : pV 8 (envX L 2 cell j room H W F Hs s10 .no) = .ok (.tup (H.ways.map fun w => .tup (w.map D.i))) := by simp [envX]
        rw [pComp_e, pv]
        simp only [Ev.bind, items_t, kl]
        rw [c1]
        simp [zw]
      rw [sSet_e, gL_e, pc]
      simp [envX]
    have e2 : sSetItem (lIx (lVar 11) (pV 9)) (p2 dMod (p2 dDiv (pV 3) (pC (.int 31))) (pV 6)) (gL (p2 dMod (p2 dDiv (pV 3) (pC (.int 1009))) (pCall bLen (aCons (pV 7) aNil)))) (envX L 2 cell j room H W F Hs s10 (.own (.lst (H.ways.map fun w => .lst (w.map D.i))))) = .nx (envX L 2 cell j room H W F Hs s10 (.own (.lst ((H.ways.set room.toNat (wr.set l.toNat v)).map fun w => .lst (w.map D.i))))) := by
      have L0 : 0 < L := by omega
      have M0 : 0 < H.marks.length := by omega
      simp [envX, mm, m2, L0, M0, ← hl, ← hv, ix3, rw_, ew, ix4, ll, modify_const, List.map_set]
    have c2 := compL_run (t := nTg 10) (q := qYes) (pe := pCall bTuple (aCons (pV 10) aNil)) (env := envX L 2 cell j room H W F Hs .no (.own (.lst ((H.ways.set room.toNat (wr.set l.toNat v)).map fun w => .lst (w.map D.i))))) (fun w : List Int => D.lst (w.map D.i)) (fun w => D.tup (w.map D.i)) (H.ways.set room.toNat (wr.set l.toNat v)) (fun w hw => ⟨envX L 2 cell j room H W F Hs (.fz (.lst (w.map D.i))) (.own (.lst ((H.ways.set room.toNat (wr.set l.toNat v)).map fun w => .lst (w.map D.i)))), by simp [envX], by simp, by simp [envX]⟩)
    have e3 : sSetItem (lVar 4) (pV 5) (gL (pTup (aCons (pImm (pV 6)) (aCons (pImm (pV 7)) (aCons (pCall bTuple (aCons (pComp (nTg 10) qYes (pCall bTuple (aCons (pV 10) aNil)) [10] (pV 11)) aNil)) aNil))))) (envX L 2 cell j room H W F Hs s10 (.own (.lst ((H.ways.set room.toNat (wr.set l.toNat v)).map fun w => .lst (w.map D.i))))) = .nx (envX L 2 cell j room H W F (Hs.set j.toNat ⟨H.marks, H.ways.set room.toNat (wr.set l.toNat v)⟩) s10 (.own (.lst ((H.ways.set room.toNat (wr.set l.toNat v)).map fun w => .lst (w.map D.i))))) := by
      obtain ⟨X, hX⟩ : ∃ X, X = H.ways.set room.toNat (wr.set l.toNat v) := ⟨_, rfl⟩
      have zx : X.length ≤ sizeLine := by rw [hX]; simpa using zw
      rw [← hX] at c2 ⊢
      have kl : kills [10] (envX L 2 cell j room H W F Hs s10 (.own (.lst (X.map fun w => .lst (w.map D.i))))) = envX L 2 cell j room H W F Hs .no (.own (.lst (X.map fun w => .lst (w.map D.i)))) := by simp [envX]
      have pc : pComp (nTg 10) qYes (pCall bTuple (aCons (pV 10) aNil)) [10] (pV 11) (envX L 2 cell j room H W F Hs s10 (.own (.lst (X.map fun w => .lst (w.map D.i))))) = .ok (.lst (X.map fun w => .tup (w.map D.i))) := by
        have pv : pV 11 (envX L 2 cell j room H W F Hs s10 (.own (.lst (X.map fun w => .lst (w.map D.i))))) = .ok (.lst (X.map fun w => .lst (w.map D.i))) := by simp [envX]
        rw [pComp_e, pv]
        simp only [Ev.bind, items_l, kl]
        rw [c2]
        simp [zx]
      have iw : imms (X.map fun w => D.tup (w.map D.i)) = true := by
        simp
      have gt : (pTup (aCons (pImm (pV 6)) (aCons (pImm (pV 7)) (aCons (pCall bTuple (aCons (pComp (nTg 10) qYes (pCall bTuple (aCons (pV 10) aNil)) [10] (pV 11)) aNil)) aNil)))) (envX L 2 cell j room H W F Hs s10 (.own (.lst (X.map fun w => .lst (w.map D.i))))) = .ok (houseD L ⟨H.marks, X⟩) := by
        have p6 : pImm (pV 6) (envX L 2 cell j room H W F Hs s10 (.own (.lst (X.map fun w => .lst (w.map D.i))))) = .ok (.v (.int L)) := by simp [envX]
        have p7 : pImm (pV 7) (envX L 2 cell j room H W F Hs s10 (.own (.lst (X.map fun w => .lst (w.map D.i))))) = .ok (.tup (H.marks.map D.i)) := by simp [envX]
        rw [pTup_e, aCons_e, p6]
        simp only [Ev.bind, aCons_e, p7, pCall_e, pc, aNil_e]
        simp [iw, houseD]
      rw [sSetItem_e, gL_e, gt]
      simp [envX, ix2, jl, List.map_set]
    have tt : qB (p2 (dEq false) (pV 2) (pC (.int 2))) (envX L 2 cell j room H W F Hs s10 .no) = .ok true := by simp [envX]
    rw [sSeq_e, sIf_e, tt]
    simp only [if_true]
    rw [sSeq_e, e1, then_nx, sSeq_e, e2, then_nx, e3, then_nx]
  · have tt : qB (p2 (dEq false) (pV 2) (pC (.int 2))) (envX L way cell j room H W F Hs s10 .no) = .ok false := by simp [envX, q]
    exact ⟨H, .no, k, by rw [sSeq_e, sIf_e, tt]; simp [q]⟩
end
end K82

namespace K82
open PySem PySem.Spec PyProof.Rows L2 Gw
/-! ### other works, whole -/
theorem ow_head {W F : D} {p L way cell : Int} {Hs : List House} {H : House} {j room : Int} (a1 : dIx W (.v (.int 1)) = .ok (.tup (Hs.map (houseD L)))) (n0 : 0 < Hs.length) (zl : Hs.length ≤ 3) (hj : j = cell % (Hs.length : Int)) (hH : H = hsAt Hs j) (hr : room = cell / 7 % (H.marks.length : Int)) (m0 : 0 < H.marks.length) :
    _law_other_works_s (env0 12 [W, F, .v (.int way), .v (.int cell)]) = _law_other_works_t4 (envX L way cell j room H W F Hs .no .no) := by
  have sl := sline
  have j0 := Int.emod_nonneg cell (b := (Hs.length : Int)) (by omega)
  have j1 := Int.emod_lt_of_pos cell (b := (Hs.length : Int)) (by omega)
  rw [← hj] at j0 j1
  have jl : j.toNat < Hs.length := by omega
  have eH : hsAt Hs j = Hs[j.toNat] := by simp [hsAt, jl]
  have hk1 : dAt (Hs.map (houseD L)) j = .ok (houseD L H) := dAt_of j0 (by rw [hH, eH]; simp [jl])
  have mm : CDiv cell 7 := ⟨by decide, by decide⟩
  have z1 : Hs.length ≤ sizeLine := by omega
  have im := imms_houses (L := L) (Hs := Hs)
  have e1 : sSet 4 (gL (pCall bList (aCons (p2 dIx (pV 0) (pC (.int 1))) aNil))) (env0 12 [W, F, .v (.int way), .v (.int cell)]) = .nx [.fz W, .fz F, .fz (.v (.int way)), .fz (.v (.int cell)), .own (.lst (Hs.map (houseD L))), .no, .no, .no, .no, .no, .no, .no] := by
    simp [a1, im]
  have e2 : sSet 5 (gL (p2 dMod (pV 3) (pCall bLen (aCons (pV 4) aNil)))) [.fz W, .fz F, .fz (.v (.int way)), .fz (.v (.int cell)), .own (.lst (Hs.map (houseD L))), .no, .no, .no, .no, .no, .no, .no] = .nx [.fz W, .fz F, .fz (.v (.int way)), .fz (.v (.int cell)), .own (.lst (Hs.map (houseD L))), .own (.v (.int j)), .no, .no, .no, .no, .no, .no] := by
    simp [n0, hj]
  have e3 : sUn (nTup (nsCons (nTg 6) (nsCons (nTg 7) (nsCons (nTg 8) nsNil)))) (pImm (p2 dIx (pV 4) (pV 5))) [.fz W, .fz F, .fz (.v (.int way)), .fz (.v (.int cell)), .own (.lst (Hs.map (houseD L))), .own (.v (.int j)), .no, .no, .no, .no, .no, .no] = .nx (envX L way cell j room H W F Hs .no .no |>.set 9 .no) := by
    simp [hk1, envX]
    simp [houseD]
  have e4 : sSet 9 (gL (p2 dMod (p2 dDiv (pV 3) (pC (.int 7))) (pCall bLen (aCons (pV 7) aNil)))) (envX L way cell j room H W F Hs .no .no |>.set 9 .no) = .nx (envX L way cell j room H W F Hs .no .no) := by
    simp [envX, mm, m0, hr]
  rw [_law_other_works_s, sSeq_e, e1, then_nx, _law_other_works_t1, sSeq_e, e2, then_nx, _law_other_works_t2, sSeq_e, e3, then_nx, _law_other_works_t3, sSeq_e, e4, then_nx]
theorem ow_6 {L way cell j room : Int} {H : House} {W : D} {flow : List Int} {Hs : List House} {s10 s11 : Sl} (l0 : 0 ≤ L) (l6 : L ≤ 6) (j0 : 0 ≤ j) (j1 : j < Hs.length) (f : En → Ou) :
    (sSeq (sIf (qB (p2 (dEq false) (pV 2) (pC (.int 3)))) (sSetItem (lVar 4) (pV 5) (gL (pCall _law_house_by_d (aCons (pV 1) (aCons (pC (.int 0)) (aCons (pV 6) aNil)))))) sNil) f) (envX L way cell j room H W (.lst (flow.map D.i)) Hs s10 s11)
      = f (envX L way cell j room H W (.lst (flow.map D.i)) (if way = 3 then Hs.set j.toNat (houseBy flow 0 L) else Hs) s10 s11) := by
  by_cases q : way = 3
  · subst q
    have hb := house_ok (flow := flow) (at_ := 0) (L := L) (by decide) (by decide) l0 l6
    have ix2 := ixN_of (n := Hs.length) j0 j1
    have jl : j.toNat < Hs.length := by omega
    simp [envX, hb, ix2, jl, List.map_set]
  · simp [envX, q]
theorem other_ok {p way cell : Int} {Hs : List House} {flow : List Int} (p1 : 1 ≤ p) (p4 : p ≤ 4) (h1 : 1 ≤ Hs.length) (h3 : Hs.length ≤ 3) (ph : p + Hs.length ≤ 6) (hk : ∀ H ∈ Hs, H.ok (p + Hs.length)) :
    ∃ Hs' : List House, Hs'.length = Hs.length ∧ (∀ H ∈ Hs', H.ok (p + Hs'.length)) ∧ _law_other_works_d [worksD p Hs, .lst (flow.map D.i), .v (.int way), .v (.int cell)] = .ok (worksD p Hs') := by
  have sl := sline
  obtain ⟨L, hL⟩ : ∃ L, L = p + (Hs.length : Int) := ⟨_, rfl⟩
  obtain ⟨j, hj⟩ : ∃ j, j = cell % (Hs.length : Int) := ⟨_, rfl⟩
  have j0 := Int.emod_nonneg cell (b := (Hs.length : Int)) (by omega)
  have j1 := Int.emod_lt_of_pos cell (b := (Hs.length : Int)) (by omega)
  rw [← hj] at j0 j1
  have jl : j.toNat < Hs.length := by omega
  obtain ⟨H, hH⟩ : ∃ H, H = hsAt Hs j := ⟨_, rfl⟩
  have eH : hsAt Hs j = Hs[j.toNat] := by simp [hsAt, jl]
  have kH : H.ok L := by rw [hH, eH, hL]; exact hk _ (List.getElem_mem jl)
  have m0 := kH.pos
  obtain ⟨room, hr⟩ : ∃ r, r = cell / 7 % (H.marks.length : Int) := ⟨_, rfl⟩
  have r0 := Int.emod_nonneg (cell / 7) (b := (H.marks.length : Int)) (by omega)
  have r1 := Int.emod_lt_of_pos (cell / 7) (b := (H.marks.length : Int)) (by omega)
  rw [← hr] at r0 r1
  obtain ⟨W, hW⟩ : ∃ W, W = worksD p Hs := ⟨_, rfl⟩
  have a0 : dIx W (.v (.int 0)) = .ok (.v (.int p)) := by rw [hW]; simp [worksD]
  have a1 : dIx W (.v (.int 1)) = .ok (.tup (Hs.map (houseD L))) := by rw [hW, hL]; simp [worksD]
  have hd := ow_head (F := .lst (flow.map D.i)) (p := p) (way := way) a1 (by omega) h3 hj hH hr (by omega)
  have setok : ∀ (X : List House) (H' : House), (∀ H ∈ X, H.ok L) → H'.ok L → ∀ H ∈ X.set j.toNat H', H.ok L := fun X H' hX h' H hm => by
    rcases List.mem_or_eq_of_mem_set hm with h | h
    · exact hX H h
    · rw [h]; exact h'
  have ok0 : ∀ H ∈ Hs, H.ok L := fun H hm => by rw [hL]; exact hk H hm
  obtain ⟨H1, s10, k1, e1⟩ := ow_4 (way := way) (cell := cell) (W := W) (F := .lst (flow.map D.i)) (Hs := Hs) kH r0 r1 j0 j1 _law_other_works_t5
  obtain ⟨X1, hX1⟩ : ∃ X, X = if way = 1 then Hs.set j.toNat H1 else Hs := ⟨_, rfl⟩
  have n1 : X1.length = Hs.length := by rw [hX1]; split <;> simp
  have o1 : ∀ H ∈ X1, H.ok L := by rw [hX1]; split; exact setok _ _ ok0 k1; exact ok0
  rw [← hX1] at e1
  obtain ⟨H2, s11, k2, e2⟩ := ow_5 (way := way) (cell := cell) (W := W) (F := .lst (flow.map D.i)) (Hs := X1) (s10 := s10) kH (by omega) (by omega) r0 r1 j0 (by rw [n1]; exact j1) _law_other_works_t6
  obtain ⟨X2, hX2⟩ : ∃ X, X = if way = 2 then X1.set j.toNat H2 else X1 := ⟨_, rfl⟩
  have n2 : X2.length = Hs.length := by rw [hX2]; split <;> simp [n1]
  have o2 : ∀ H ∈ X2, H.ok L := by rw [hX2]; split; exact setok _ _ o1 k2; exact o1
  rw [← hX2] at e2
  have e3 := ow_6 (way := way) (cell := cell) (room := room) (H := H) (W := W) (flow := flow) (Hs := X2) (s10 := s10) (s11 := s11) (L := L) (by omega) (by omega) j0 (by rw [n2]; exact j1) _law_other_works_t7
  obtain ⟨X3, hX3⟩ : ∃ X, X = if way = 3 then X2.set j.toNat (houseBy flow 0 L) else X2 := ⟨_, rfl⟩
  have n3 : X3.length = Hs.length := by rw [hX3]; split <;> simp [n2]
  have o3 : ∀ H ∈ X3, H.ok L := by rw [hX3]; split; exact setok _ _ o2 houseBy_ok; exact o2
  rw [← hX3] at e3
  have all : _law_other_works_d [W, .lst (flow.map D.i), .v (.int way), .v (.int cell)] = endD (_law_other_works_t7 (envX L way cell j room H W (.lst (flow.map D.i)) X3 s10 s11)) := by
    rw [_law_other_works_d, fnD_e, hd, _law_other_works_t4, e1, _law_other_works_t5, e2, _law_other_works_t6, e3]
  rw [← hW, all]
  have im := imms_houses (L := L) (Hs := X3)
  have z3 : X3.length ≤ sizeLine := by omega
  by_cases q : way = 4
  · have wk := works_ok (flow := flow) (p := p) (h := (Hs.length : Int)) p1 p4 (by omega) (by omega) ph
    refine ⟨(List.range (Hs.length : Int).toNat).map fun (j : Nat) => houseBy flow (29 * j) (p + (Hs.length : Int)), by simp, fun H hH => ?_, ?_⟩
    · obtain ⟨j, _, rfl⟩ := List.mem_map.mp hH
      have : ((List.range (Hs.length : Int).toNat).map fun (j : Nat) => houseBy flow (29 * j) (p + (Hs.length : Int))).length = Hs.length := by simp
      rw [this]
      exact houseBy_ok
    · subst q
      have e : worksD p ((List.range (Hs.length : Int).toNat).map fun (j : Nat) => houseBy flow (29 * j) (p + (Hs.length : Int))) = .tup [.v (.int p), .tup (((List.range (Hs.length : Int).toNat).map fun (j : Nat) => houseBy flow (29 * j) (p + (Hs.length : Int))).map (houseD (p + (Hs.length : Int))))] := by
        have lx : ((List.range (Hs.length : Int).toNat).map fun (j : Nat) => houseBy flow (29 * j) (p + (Hs.length : Int))).length = Hs.length := by simp
        rw [worksD, lx]
      rw [e]
      obtain ⟨R, hR⟩ : ∃ R, R = D.tup [.v (.int p), .tup (((List.range (Hs.length : Int).toNat).map fun (j : Nat) => houseBy flow (29 * j) (p + (Hs.length : Int))).map (houseD (p + (Hs.length : Int))))] := ⟨_, rfl⟩
      rw [← hR] at wk ⊢
      clear hR e
      simp [_law_other_works_t7, envX, a0, n3, wk]
  · refine ⟨X3, n3, fun H hm => by rw [n3, ← hL]; exact o3 H hm, ?_⟩
    rw [worksD, n3, ← hL]
    simp [_law_other_works_t7, _law_other_works_t8, envX, q, a0, im, z3]
/-! ### the row told -/
theorem rowgood_ok {p : Int} {Hs : List House} {y : List Int} (hy : nst p Hs.length y 0 = true) (ly : y.length ≤ 4000) : _law_row_good_d [worksD p Hs, .tup (y.map D.i)] = .ok (.v (.bl true)) := by
  have ln := lnested_ok (p := p) (h := (Hs.length : Int)) (w := y) (by omega) hy
  have a0 : dIx (worksD p Hs) (.v (.int 0)) = .ok (.v (.int p)) := by simp [worksD]
  have a1 : dIx (worksD p Hs) (.v (.int 1)) = .ok (.tup (Hs.map (houseD (p + Hs.length)))) := by simp [worksD]
  generalize worksD p Hs = W at *
  have hl : forL (nTg 2) [2] _law_row_good_b1 (y.map D.i) [.fz W, .fz (.tup (y.map D.i)), .no] = .nx [.fz W, .fz (.tup (y.map D.i)), .no] := by
    refine forL_skip _ fun d hd => ?_
    obtain ⟨x, _, rfl⟩ := List.mem_map.mp hd
    simp [turn, _law_row_good_b1, _law_whole_d, _law_whole_s]
  have z : ¬ ((y.length : Int) > 4000) := by omega
  have z2 : ¬ (4000 < y.length) := by omega
  simp [_law_row_good_d, _law_row_good_s, z, z2]
  rw [hl]
  simp [a0, a1, ln]
end K82

namespace K82
open PySem PySem.Spec PyProof.Rows L2 Gw
/-! ### the law -/
theorem cell2 {ns : List Int} : _law_cell_at_d [.fro (ns.map D.i), .v (.int 2)] = .ok (.v (.int (ns.getD 2 0))) := cell_ok 2
theorem cell3 {ns : List Int} : _law_cell_at_d [.fro (ns.map D.i), .v (.int 3)] = .ok (.v (.int (ns.getD 3 0))) := cell_ok 3
def envY (S : D) (p h c : Int) (s4 s5 s6 s7 s8 s9 : Sl) : En := [.fz S, .own (.v (.int p)), .own (.v (.int h)), .own (.v (.int c)), s4, s5, s6, s7, s8, s9, .no]
theorem law_head {ns : List Int} {x0 x1 p h c m m2 : Int} (ce0 : _law_cell_at_d [.fro (ns.map D.i), .v (.int 0)] = .ok (.v (.int x0))) (ce1 : _law_cell_at_d [.fro (ns.map D.i), .v (.int 1)] = .ok (.v (.int x1)))
    (hp : 1 + x0 % 4 = p) (hm : (if 6 - p < 3 then 6 - p else 3) = m) (b0 : 0 < m) (hh : 1 + x0 / 4 % m = h) (hm2 : (if (ns.length : Int) - 3 > 1 then (ns.length : Int) - 3 else 1) = m2) (c0 : 0 < m2) (hc : 4 + x1 % m2 = c) :
    law_s (env0 11 [.fro (ns.map D.i)]) = law_t3 (envY (.fro (ns.map D.i)) p h c .no .no .no .no .no .no) := by
  have mm : CDiv x0 4 := ⟨by decide, by decide⟩
  rw [law_s, law_t1, law_t2]
  generalize law_t3 = L
  simp [ce0, ce1, mm, hp, hm, b0, hh]
  simp [hm2, c0, hc, envY]
theorem law_3 {ns f1 : List Int} {W : D} {p h c : Int} (hf1 : cutL ns (some 4) (some c) = f1) (hw : _law_works_by_d [.lst (f1.map D.i), .v (.int p), .v (.int h)] = .ok W) :
    law_t3 (envY (.fro (ns.map D.i)) p h c .no .no .no .no .no .no) = law_t4 (envY (.fro (ns.map D.i)) p h c (.own W) .no .no .no .no .no) := by
  rw [law_t3]
  generalize law_t4 = L
  simp [envY, hf1, hw]
theorem law_4 {ns f2 : List Int} {W V : D} {p h c x2 x3 : Int} (ce2 : _law_cell_at_d [.fro (ns.map D.i), .v (.int 2)] = .ok (.v (.int x2))) (ce3 : _law_cell_at_d [.fro (ns.map D.i), .v (.int 3)] = .ok (.v (.int x3))) (hf2 : cutL ns (some c) none = f2) (hv : _law_other_works_d [W, .lst (f2.map D.i), .v (.int (x2 % 5)), .v (.int x3)] = .ok V) :
    law_t4 (envY (.fro (ns.map D.i)) p h c (.own W) .no .no .no .no .no) = law_t5 (envY (.fro (ns.map D.i)) p h c (.own W) (.own V) .no .no .no .no) := by
  rw [law_t4]
  generalize law_t5 = L
  simp [envY, ce2, ce3, hf2, hv]
theorem law_5 {S W V B : D} {p h c x2 a b : Int} {K : List D} (ce2 : _law_cell_at_d [S, .v (.int 2)] = .ok (.v (.int x2))) (hww : works_difference_d [W, W] = .ok (.v .non)) (hK : K = [.tup [.v (.int (p % 3 + 1)), .v (.int h)], .tup [.v (.int p), .v (.int (h % 2 + 1))], .tup [.v (.int (p % 3 + 1)), .v (.int (h % 2 + 1))]])
    (hk : dAt K (x2 / 5 % 3) = .ok (.tup [.v (.int a), .v (.int b)])) (hb : _law_bare_d [.v (.int a), .v (.int b)] = .ok B) (r1 : _law_refused_d [W, B] = .ok (.v (.bl true))) (r2 : _law_refused_d [B, W] = .ok (.v (.bl true))) :
    ∃ s6 s7 s8, law_t5 (envY S p h c (.own W) (.own V) .no .no .no .no) = law_t10 (envY S p h c (.own W) (.own V) s6 s7 s8 .no) := by
  have mm : CDiv x2 5 := ⟨by decide, by decide⟩
  have l3 : K.length = 3 := by rw [hK]; rfl
  have im : imms K = true := by rw [hK]; simp
  refine ⟨.own (.lst K), .own (.tup [.v (.int a), .v (.int b)]), .own B, ?_⟩
  have e5 : law_t5 (envY S p h c (.own W) (.own V) .no .no .no .no) = law_t6 (envY S p h c (.own W) (.own V) .no .no .no .no) := by
    rw [law_t5]
    generalize law_t6 = L
    simp [envY, hww]
  have e6 : law_t6 (envY S p h c (.own W) (.own V) .no .no .no .no) = law_t7 (envY S p h c (.own W) (.own V) (.own (.lst K)) .no .no .no) := by
    rw [law_t6]
    generalize law_t7 = L
    simp [envY, hK]
  have e7 : law_t7 (envY S p h c (.own W) (.own V) (.own (.lst K)) .no .no .no) = law_t8 (envY S p h c (.own W) (.own V) (.own (.lst K)) (.own (.tup [.v (.int a), .v (.int b)])) .no .no) := by
    rw [law_t7]
    generalize law_t8 = L
    simp [envY, ce2, mm, l3, hk]
  have e8 : law_t8 (envY S p h c (.own W) (.own V) (.own (.lst K)) (.own (.tup [.v (.int a), .v (.int b)])) .no .no) = law_t9 (envY S p h c (.own W) (.own V) (.own (.lst K)) (.own (.tup [.v (.int a), .v (.int b)])) (.own B) .no) := by
    rw [law_t8]
    generalize law_t9 = L
    simp [envY, hb]
  have e9 : law_t9 (envY S p h c (.own W) (.own V) (.own (.lst K)) (.own (.tup [.v (.int a), .v (.int b)])) (.own B) .no) = law_t10 (envY S p h c (.own W) (.own V) (.own (.lst K)) (.own (.tup [.v (.int a), .v (.int b)])) (.own B) .no) := by
    rw [law_t9]
    generalize law_t10 = L
    simp [envY, r1, r2]
  rw [e5, e6, e7, e8, e9]
theorem law_none {ns f3 row : List Int} {W V : D} {p h c : Int} {s6 s7 s8 : Sl} {ac : Bool} (h12 : works_difference_d [W, V] = .ok (.v .non)) (h21 : works_difference_d [V, W] = .ok (.v .non)) (hu : _law_unlike_d [W, V] = .ok (.v (.bl false)))
    (hf3 : cutL ns (some c) (some (c + 100)) = f3) (hn : _law_nest_d [.lst (f3.map D.i), .v (.int p), .v (.int h)] = .ok (.lst (row.map D.i))) (a1 : _law_accepted_d [W, .lst (row.map D.i), .v (.int 0)] = .ok (.v (.bl ac))) (a2 : _law_accepted_d [V, .lst (row.map D.i), .v (.int 0)] = .ok (.v (.bl ac))) :
    endD (law_t10 (envY (.fro (ns.map D.i)) p h c (.own W) (.own V) s6 s7 s8 .no)) = .ok (.v (.bl true)) := by
  simp [law_t10, law_t11, law_t12, envY, h12, h21, hu, hf3, hn, a1, a2, deq_bb]
theorem law_some {S W V : D} {y z : List Int} {p h c : Int} {s6 s7 s8 : Sl} {ac : Bool} (h12 : works_difference_d [W, V] = .ok (.tup (y.map D.i))) (h21 : works_difference_d [V, W] = .ok (.tup (z.map D.i))) (hu : _law_unlike_d [W, V] = .ok (.v (.bl true)))
    (hg : _law_row_good_d [W, .tup (y.map D.i)] = .ok (.v (.bl true))) (a1 : _law_accepted_d [W, .tup (y.map D.i), .v (.int 0)] = .ok (.v (.bl ac))) (a2 : _law_accepted_d [V, .tup (y.map D.i), .v (.int 0)] = .ok (.v (.bl !ac))) :
    endD (law_t10 (envY S p h c (.own W) (.own V) s6 s7 s8 .no)) = .ok (.v (.bl true)) := by
  simp [law_t10, law_t11, law_t12, law_t13, law_t14, envY, h12, h21, hu, hg, a1, a2, deq_bb]
theorem imm_worksD {p : Int} {Hs : List House} : imm (worksD p Hs) = true := by
  rw [worksD]
  simp [imms_houses]
theorem law_true (ns : List Int) (hn : ns.length ≤ 63) : law_d [.fro (ns.map D.i)] = .ok (D.b true) := by
  have sl := sline
  have a1 : 0 ≤ ns.getD 0 0 % 4 := Int.emod_nonneg _ (by omega)
  have a2 : ns.getD 0 0 % 4 < 4 := Int.emod_lt_of_pos _ (by omega)
  obtain ⟨m, hm⟩ : ∃ m, m = (if 6 - (1 + ns.getD 0 0 % 4) < 3 then 6 - (1 + ns.getD 0 0 % 4) else 3) := ⟨_, rfl⟩
  have b0 : 0 < m := by rw [hm]; split <;> omega
  have b3 : m ≤ 3 := by rw [hm]; split <;> omega
  have b4 : m ≤ 6 - (1 + ns.getD 0 0 % 4) := by rw [hm]; split <;> omega
  have b1 := Int.emod_nonneg (ns.getD 0 0 / 4) (b := m) (by omega)
  have b2 := Int.emod_lt_of_pos (ns.getD 0 0 / 4) b0
  obtain ⟨m2, hm2⟩ : ∃ m, m = (if (ns.length : Int) - 3 > 1 then (ns.length : Int) - 3 else 1) := ⟨_, rfl⟩
  have c0 : 0 < m2 := by rw [hm2]; split <;> omega
  obtain ⟨p, hp⟩ : ∃ p, p = 1 + ns.getD 0 0 % 4 := ⟨_, rfl⟩
  obtain ⟨h, hh⟩ : ∃ h, h = 1 + ns.getD 0 0 / 4 % m := ⟨_, rfl⟩
  obtain ⟨c, hc⟩ : ∃ c, c = 4 + ns.getD 1 0 % m2 := ⟨_, rfl⟩
  have p1 : 1 ≤ p := by omega
  have p4 : p ≤ 4 := by omega
  have h1 : 1 ≤ h := by omega
  have h3 : h ≤ 3 := by omega
  have ph : p + h ≤ 6 := by omega
  have wk := works_ok (flow := cutL ns (some 4) (some c)) p1 p4 h1 h3 ph
  obtain ⟨Hs, hHs⟩ : ∃ Hs, Hs = (List.range h.toNat).map fun (j : Nat) => houseBy (cutL ns (some 4) (some c)) (29 * j) (p + h) := ⟨_, rfl⟩
  have hl : (Hs.length : Int) = h := by rw [hHs]; simp; omega
  have hk : ∀ H ∈ Hs, H.ok (p + Hs.length) := fun H hH => by
    rw [hHs] at hH
    obtain ⟨j, _, rfl⟩ := List.mem_map.mp hH
    rw [hl]; exact houseBy_ok
  have wd : D.tup [.v (.int p), .tup (Hs.map (houseD (p + h)))] = worksD p Hs := by rw [worksD, hl]
  rw [← hHs, wd] at wk
  have n1 : 1 ≤ Hs.length := by omega
  have n3 : Hs.length ≤ 3 := by omega
  have n6 : p + Hs.length ≤ 6 := by omega
  obtain ⟨Hs2, l2, k2, ow⟩ := other_ok (way := ns.getD 2 0 % 5) (cell := ns.getD 3 0) (flow := cutL ns (some c) none) p1 p4 n1 n3 n6 hk
  obtain ⟨R1, U1, S1⟩ := sd_ok p1 p4 n1 n3 n6 hk
  obtain ⟨R2, U2, S2⟩ := sd_ok p1 p4 (by omega) (by omega) (by omega) k2
  -- a works and itself
  have ww : works_difference_d [worksD p Hs, worksD p Hs] = .ok (.v .non) := by
    obtain ⟨o, e, _, q⟩ := wd_ok S1 S1 rfl p1 p4 n1 n3 n6
    cases o with
    | none => exact e
    | some y => exact absurd rfl (q y rfl).2.2
  -- refusals
  have x0 := Int.emod_nonneg (ns.getD 2 0 / 5) (b := 3) (by omega)
  have x1 := Int.emod_lt_of_pos (ns.getD 2 0 / 5) (b := 3) (by omega)
  obtain ⟨x, hx⟩ : ∃ x, x = ns.getD 2 0 / 5 % 3 := ⟨_, rfl⟩
  rw [← hx] at x0 x1
  obtain ⟨K, hK⟩ : ∃ K, K = [D.tup [.v (.int (p % 3 + 1)), .v (.int h)], .tup [.v (.int p), .v (.int (h % 2 + 1))], .tup [.v (.int (p % 3 + 1)), .v (.int (h % 2 + 1))]] := ⟨_, rfl⟩
  obtain ⟨a, b, hab, ne, a0, a10, b0', b10⟩ : ∃ a b : Int, dAt K x = .ok (.tup [.v (.int a), .v (.int b)]) ∧ ¬ (p = a ∧ h = b) ∧ 0 ≤ a ∧ a ≤ 10 ∧ 0 ≤ b ∧ b ≤ 10 := by
    rw [hK]
    have : x = 0 ∨ x = 1 ∨ x = 2 := by omega
    rcases this with rfl | rfl | rfl
    · exact ⟨p % 3 + 1, h, dAt_of (by decide) rfl, by omega, by omega, by omega, by omega, by omega⟩
    · exact ⟨p, h % 2 + 1, dAt_of (by decide) rfl, by omega, by omega, by omega, by omega, by omega⟩
    · exact ⟨p % 3 + 1, h % 2 + 1, dAt_of (by decide) rfl, by omega, by omega, by omega, by omega, by omega⟩
  obtain ⟨B, Hd, hb, B0, B1, lB, iB⟩ := bare_ok a0 a10 b0' b10
  have w0 : dIx (worksD p Hs) (.v (.int 0)) = .ok (.v (.int p)) := by simp [worksD]
  have w1 : dIx (worksD p Hs) (.v (.int 1)) = .ok (.tup (Hs.map (houseD (p + Hs.length)))) := by simp [worksD]
  have rf1 := refused_ok (wd_refused (n := Hs.length) (n' := Hd.length) w0 B0 w1 B1 (by simp) rfl (by omega))
  have rf2 := refused_ok (wd_refused (n := Hd.length) (n' := Hs.length) B0 w0 B1 w1 rfl (by simp) (by omega))
  -- the two
  obtain ⟨o12, e12, z12, y12⟩ := wd_ok S1 S2 l2 p1 p4 n1 n3 n6
  obtain ⟨o21, e21, z21, y21⟩ := wd_ok S2 S1 l2.symm p1 p4 (by omega) (by omega) (by omega)
  obtain ⟨ub, eu, iu⟩ := unlike_law S1 S2 l2 p1 n1 n3 n6
  have sym : NA p Hs2 Hs R2 R1 → NA p Hs Hs2 R1 R2 := fun z => ⟨fun j => (z.1 j).symm, fun j uj w => (z.2 j ((z.1 j).mpr uj) w).symm⟩
  have sym' : NA p Hs Hs2 R1 R2 → NA p Hs2 Hs R2 R1 := fun z => ⟨fun j => (z.1 j).symm, fun j uj w => (z.2 j ((z.1 j).mpr uj) w).symm⟩
  have head := law_head cell0 cell1 hp.symm (by rw [hm, hp]) b0 hh.symm hm2.symm c0 hc.symm (ns := ns)
  have e3 := law_3 (ns := ns) (c := c) rfl wk
  have e4 := law_4 (ns := ns) (p := p) (h := h) (c := c) cell2 cell3 rfl ow
  obtain ⟨s6, s7, s8, e5⟩ := law_5 (S := .fro (ns.map D.i)) (V := worksD p Hs2) (c := c) cell2 ww hK (by rw [← hx]; exact hab) hb rf1 rf2
  rw [law_d, fnD_e, head, e3, e4, e5]
  cases ho : o12 with
  | none =>
    have na := z12 ho
    rw [ho] at e12
    have o2 : o21 = none := by
      cases q : o21 with
      | none => rfl
      | some y =>
        obtain ⟨c1, _, c3⟩ := y21 y q
        exact absurd (na_acc S2 S1 l2.symm p1 (by omega) (sym' na) c1.nst) c3
    rw [o2] at e21
    have uf : ub = false := by
      cases q : ub with
      | false => rfl
      | true => exact absurd na (iu.mp q)
    rw [uf] at eu
    have nk := nest_ok (flow := cutL ns (some c) (some (c + 100))) p1 h1 p4 (by have := cutL_le (l := ns) (lo := some c) (hi := some (c + 100)); omega)
    obtain ⟨nb, nl⟩ := nestOf_bal (p := p) (h := h) p1 h1 (cutL ns (some c) (some (c + 100)))
    have nc := cutL_le (l := ns) (lo := some c) (hi := some (c + 100))
    have bl1 : nst p Hs.length (nestOf p h (cutL ns (some c) (some (c + 100)))) 0 = true := by rw [hl]; exact nb.nst
    have bl2 : nst p Hs2.length (nestOf p h (cutL ns (some c) (some (c + 100)))) 0 = true := by rw [l2]; exact bl1
    have ac1 := accepted_ok hk (t := 0) (R := .lst ((nestOf p h (cutL ns (some c) (some (c + 100)))).map D.i)) (.inl rfl) bl1 (by omega) (by decide) (by omega)
    have ac2 := accepted_ok k2 (t := 0) (R := .lst ((nestOf p h (cutL ns (some c) (some (c + 100)))).map D.i)) (.inl rfl) bl2 (by omega) (by decide) (by omega)
    rw [← worksD] at ac1 ac2
    have same : accOf p Hs (nestOf p h (cutL ns (some c) (some (c + 100)))) 0 = accOf p Hs2 (nestOf p h (cutL ns (some c) (some (c + 100)))) 0 := na_acc S1 S2 l2 p1 n1 na bl1
    rw [← same] at ac2
    exact law_none e12 e21 eu rfl nk ac1 ac2
  | some y =>
    rw [ho] at e12
    obtain ⟨c1, c2, c3⟩ := y12 y ho
    have nna : ¬ NA p Hs Hs2 R1 R2 := fun z => c3 (na_acc S1 S2 l2 p1 n1 z c1.nst)
    have ut : ub = true := iu.mpr nna
    rw [ut] at eu
    obtain ⟨z, hz⟩ : ∃ z, o21 = some z := by
      cases q : o21 with
      | none => exact absurd (sym (z21 q)) nna
      | some z => exact ⟨z, rfl⟩
    rw [hz] at e21
    have bl1 : nst p Hs.length y 0 = true := c1.nst
    have bl2 : nst p Hs2.length y 0 = true := by rw [l2]; exact bl1
    have ac1 := accepted_ok hk (t := 0) (R := .tup (y.map D.i)) (.inr rfl) bl1 (by omega) (by decide) (by omega)
    have ac2 := accepted_ok k2 (t := 0) (R := .tup (y.map D.i)) (.inr rfl) bl2 (by omega) (by decide) (by omega)
    rw [← worksD] at ac1 ac2
    have c3 : accOf p Hs y 0 ≠ accOf p Hs2 y 0 := c3
    have opp : accOf p Hs2 y 0 = !accOf p Hs y 0 := by
      revert c3
      cases accOf p Hs y 0 <;> cases accOf p Hs2 y 0 <;> simp
    rw [opp] at ac2
    exact law_some e12 e21 eu (rowgood_ok bl1 c2) ac1 ac2
end K82

open PySem PySem.W PyProof.Rows
set_option maxHeartbeats 0 in
theorem PySem.Challenge.cw_guesswide_k82_whole_works_told_apart_holds : PySem.Challenge.rw_guesswide_k82_whole_works_told_apart.Holds := by
  w_on; o_law; k_head; (case hw => w_witness2)
  k_fill
  refine L2.walk_of (l := PySem.Challenge.rw_guesswide_k82_whole_works_told_apart) (n := 63) (k := 8) (x := "script") (CX := fun w => L2.CX (PySem.Challenge.rw_guesswide_k82_whole_works_told_apart).prog w) (sp := fun w => Gw.spLaw _) rfl (by decide) rfl ⟨rfl, by decide, by decide⟩ (fun w h Y => PySem.W.kIn_of Y) ?F (fun _ _ a ns hl _ hS => ⟨a, ns, rfl, hS, hl, fun _ => rfl⟩) (fun _ _ _ _ _ h => Gw.cx_end h)
  case F =>
    intro w mg fa h KX G hmg
    have m_bool : mg "bool" = none := by (refine PySem.W.mg_none_of KX G ?_; k_is)
    have m_enumerate : mg "enumerate" = none := by (refine PySem.W.mg_none_of KX G ?_; k_is)
    have m_int : mg "int" = none := by (refine PySem.W.mg_none_of KX G ?_; k_is)
    have m_isinstance : mg "isinstance" = none := by (refine PySem.W.mg_none_of KX G ?_; k_is)
    have m_len : mg "len" = none := by (refine PySem.W.mg_none_of KX G ?_; k_is)
    have m_list : mg "list" = none := by (refine PySem.W.mg_none_of KX G ?_; k_is)
    have m_max : mg "max" = none := by (refine PySem.W.mg_none_of KX G ?_; k_is)
    have m_min : mg "min" = none := by (refine PySem.W.mg_none_of KX G ?_; k_is)
    have m_range : mg "range" = none := by (refine PySem.W.mg_none_of KX G ?_; k_is)
    have m_sorted : mg "sorted" = none := by (refine PySem.W.mg_none_of KX G ?_; k_is)
    have m_tuple : mg "tuple" = none := by (refine PySem.W.mg_none_of KX G ?_; k_is)
    have m_zip : mg "zip" = none := by (refine PySem.W.mg_none_of KX G ?_; k_is)
    obtain ⟨C_AskError, C_BadHouse, C_BadWord, x_AskError, x_BadHouse, x_BadWord, e_AskError, e_BadHouse, e_BadWord, q0_AskError_AskError_BadHouse_BadWord, q1_AskError_AskError_BadHouse_BadWord, q2_AskError_AskError_BadHouse_BadWord, q0_BadHouse_AskError_BadHouse_BadWord, q1_BadHouse_AskError_BadHouse_BadWord, q2_BadHouse_AskError_BadHouse_BadWord, q0_BadWord_AskError_BadHouse_BadWord, q1_BadWord_AskError_BadHouse_BadWord, q2_BadWord_AskError_BadHouse_BadWord⟩ := Gw.exc_get KX (P := fun K => ∃ C_AskError C_BadHouse C_BadWord, Gw.ExcC K mg "AskError" C_AskError ∧ Gw.ExcC K mg "BadHouse" C_BadHouse ∧ Gw.ExcC K mg "BadWord" C_BadWord ∧ L2.ExcC K C_AskError ∧ L2.ExcC K C_BadHouse ∧ L2.ExcC K C_BadWord ∧ PySem.W.exmOne K (.ref C_AskError) (.ref C_AskError) = some true ∧ PySem.W.kitOne K (.ref C_AskError) (.ref C_BadHouse) = some false ∧ PySem.W.kitOne K (.ref C_AskError) (.ref C_BadWord) = some false ∧ PySem.W.exmOne K (.ref C_BadHouse) (.ref C_AskError) = some true ∧ PySem.W.kitOne K (.ref C_BadHouse) (.ref C_BadHouse) = some true ∧ PySem.W.kitOne K (.ref C_BadHouse) (.ref C_BadWord) = some false ∧ PySem.W.exmOne K (.ref C_BadWord) (.ref C_AskError) = some true ∧ PySem.W.kitOne K (.ref C_BadWord) (.ref C_BadHouse) = some false ∧ PySem.W.kitOne K (.ref C_BadWord) (.ref C_BadWord) = some true) (by ((refine' ⟨_, _, _, ⟨PySem.W.mg_of KX G ?g_AskError, ?x_AskError, ?k_AskError, ?b_AskError, ?t_AskError, ?i_AskError, ?s_AskError⟩, ⟨PySem.W.mg_of KX G ?g_BadHouse, ?x_BadHouse, ?k_BadHouse, ?b_BadHouse, ?t_BadHouse, ?i_BadHouse, ?s_BadHouse⟩, ⟨PySem.W.mg_of KX G ?g_BadWord, ?x_BadWord, ?k_BadWord, ?b_BadWord, ?t_BadWord, ?i_BadWord, ?s_BadWord⟩, ⟨?e0_AskError, ?e1_AskError, ?e2_AskError, ?e3_AskError, ?e4_AskError, ?e5_AskError, ?e6_AskError, ?e7_AskError⟩, ⟨?e0_BadHouse, ?e1_BadHouse, ?e2_BadHouse, ?e3_BadHouse, ?e4_BadHouse, ?e5_BadHouse, ?e6_BadHouse, ?e7_BadHouse⟩, ⟨?e0_BadWord, ?e1_BadWord, ?e2_BadWord, ?e3_BadWord, ?e4_BadWord, ?e5_BadWord, ?e6_BadWord, ?e7_BadWord⟩, ?q0_AskError_AskError_BadHouse_BadWord, ?q1_AskError_AskError_BadHouse_BadWord, ?q2_AskError_AskError_BadHouse_BadWord, ?q0_BadHouse_AskError_BadHouse_BadWord, ?q1_BadHouse_AskError_BadHouse_BadWord, ?q2_BadHouse_AskError_BadHouse_BadWord, ?q0_BadWord_AskError_BadHouse_BadWord, ?q1_BadWord_AskError_BadHouse_BadWord, ?q2_BadWord_AskError_BadHouse_BadWord⟩; (case g_AskError => k_is); (case g_BadHouse => k_is); (case g_BadWord => k_is); (case x_AskError => k_exc); (case x_BadHouse => k_exc); (case x_BadWord => k_exc); (case k_AskError => k_is); (case b_AskError => k_is); (case t_AskError => k_is); (case i_AskError => k_is); (case k_BadHouse => k_is); (case b_BadHouse => k_is); (case t_BadHouse => k_is); (case i_BadHouse => k_is); (case k_BadWord => k_is); (case b_BadWord => k_is); (case t_BadWord => k_is); (case i_BadWord => k_is); (case s_AskError => first | rfl | k_is); (case s_BadHouse => first | rfl | k_is); (case s_BadWord => first | rfl | k_is); (case e0_AskError => k_is); (case e1_AskError => k_is); (case e2_AskError => k_is); (case e3_AskError => k_is); (case e4_AskError => k_is); (case e5_AskError => k_is); (case e6_AskError => k_is); (case e7_AskError => k_is); (case e0_BadHouse => k_is); (case e1_BadHouse => k_is); (case e2_BadHouse => k_is); (case e3_BadHouse => k_is); (case e4_BadHouse => k_is); (case e5_BadHouse => k_is); (case e6_BadHouse => k_is); (case e7_BadHouse => k_is); (case e0_BadWord => k_is); (case e1_BadWord => k_is); (case e2_BadWord => k_is); (case e3_BadWord => k_is); (case e4_BadWord => k_is); (case e5_BadWord => k_is); (case e6_BadWord => k_is); (case e7_BadWord => k_is); (case q0_AskError_AskError_BadHouse_BadWord => first | rfl | k_is); (case q1_AskError_AskError_BadHouse_BadWord => first | rfl | k_is); (case q2_AskError_AskError_BadHouse_BadWord => first | rfl | k_is); (case q0_BadHouse_AskError_BadHouse_BadWord => first | rfl | k_is); (case q1_BadHouse_AskError_BadHouse_BadWord => first | rfl | k_is); (case q2_BadHouse_AskError_BadHouse_BadWord => first | rfl | k_is); (case q0_BadWord_AskError_BadHouse_BadWord => first | rfl | k_is); (case q1_BadWord_AskError_BadHouse_BadWord => first | rfl | k_is); (case q2_BadWord_AskError_BadHouse_BadWord => first | rfl | k_is))))
    have T_AskError_BadHouse_BadWord := Gw.exc_get KX (P := fun K => Gw.TryT K mg C_AskError C_BadHouse C_BadWord K82.tbl_AskError_BadHouse_BadWord) (by
      refine ⟨fun x cls c b1 b2 hm ht => ?_⟩
      unfold K82.tbl_AskError_BadHouse_BadWord at ht
      by_cases h : x = "AskError"
      · subst h; rw [x_AskError.g] at hm; cases hm; simp at ht; obtain ⟨rfl, rfl, rfl⟩ := ht; exact ⟨C_AskError, rfl, e_AskError, q0_AskError_AskError_BadHouse_BadWord, q1_AskError_AskError_BadHouse_BadWord, q2_AskError_AskError_BadHouse_BadWord⟩
      rw [if_neg h] at ht
      by_cases h : x = "BadHouse"
      · subst h; rw [x_BadHouse.g] at hm; cases hm; simp at ht; obtain ⟨rfl, rfl, rfl⟩ := ht; exact ⟨C_BadHouse, rfl, e_BadHouse, q0_BadHouse_AskError_BadHouse_BadWord, q1_BadHouse_AskError_BadHouse_BadWord, q2_BadHouse_AskError_BadHouse_BadWord⟩
      rw [if_neg h] at ht
      by_cases h : x = "BadWord"
      · subst h; rw [x_BadWord.g] at hm; cases hm; simp at ht; obtain ⟨rfl, rfl, rfl⟩ := ht; exact ⟨C_BadWord, rfl, e_BadWord, q0_BadWord_AskError_BadHouse_BadWord, q1_BadWord_AskError_BadHouse_BadWord, q2_BadWord_AskError_BadHouse_BadWord⟩
      rw [if_neg h] at ht
      cases ht)
    obtain ⟨f_less, fd_less, F_less, g_less⟩ : ∃ f fd, L2.Fun _ "less" "less" K82.st_less f fd ∧ mg "less" = some (.ref f) := by (refine' Gw.def_mk KX G ?a ?l ?c ?k; (case a => k_is); (case l => k_is); (case c => k_is); (case k => k_is))
    have b_less := F_less.binds (ps := ["word", "other"]) fun _ _ _ _ _ _ us hl => match us, hl with | [_, _], _ => rfl
    obtain ⟨f_spread, fd_spread, F_spread, g_spread⟩ : ∃ f fd, L2.Fun _ "spread" "spread" K82.st_spread f fd ∧ mg "spread" = some (.ref f) := by (refine' Gw.def_mk KX G ?a ?l ?c ?k; (case a => k_is); (case l => k_is); (case c => k_is); (case k => k_is))
    have b_spread := F_spread.binds (ps := ["plain", "helpers", "local", "rows"]) fun _ _ _ _ _ _ us hl => match us, hl with | [_, _, _, _], _ => rfl
    obtain ⟨f_letters_made, fd_letters_made, F_letters_made, g_letters_made⟩ : ∃ f fd, L2.Fun _ "letters_made" "letters_made" K82.st_letters_made f fd ∧ mg "letters_made" = some (.ref f) := by (refine' Gw.def_mk KX G ?a ?l ?c ?k; (case a => k_is); (case l => k_is); (case c => k_is); (case k => k_is))
    have b_letters_made := F_letters_made.binds (ps := ["works", "rows"]) fun _ _ _ _ _ _ us hl => match us, hl with | [_, _], _ => rfl
    obtain ⟨f_lesser, fd_lesser, F_lesser, g_lesser⟩ : ∃ f fd, L2.Fun _ "lesser" "lesser" K82.st_lesser f fd ∧ mg "lesser" = some (.ref f) := by (refine' Gw.def_mk KX G ?a ?l ?c ?k; (case a => k_is); (case l => k_is); (case c => k_is); (case k => k_is))
    have b_lesser := F_lesser.binds (ps := ["row", "other"]) fun _ _ _ _ _ _ us hl => match us, hl with | [_, _], _ => rfl
    obtain ⟨f_rows_to_rooms, fd_rows_to_rooms, F_rows_to_rooms, g_rows_to_rooms⟩ : ∃ f fd, L2.Fun _ "rows_to_rooms" "rows_to_rooms" K82.st_rows_to_rooms f fd ∧ mg "rows_to_rooms" = some (.ref f) := by (refine' Gw.def_mk KX G ?a ?l ?c ?k; (case a => k_is); (case l => k_is); (case c => k_is); (case k => k_is))
    have b_rows_to_rooms := F_rows_to_rooms.binds (ps := ["house", "made"]) fun _ _ _ _ _ _ us hl => match us, hl with | [_, _], _ => rfl
    obtain ⟨f_shortest, fd_shortest, F_shortest, g_shortest⟩ : ∃ f fd, L2.Fun _ "shortest" "shortest" K82.st_shortest f fd ∧ mg "shortest" = some (.ref f) := by (refine' Gw.def_mk KX G ?a ?l ?c ?k; (case a => k_is); (case l => k_is); (case c => k_is); (case k => k_is))
    have b_shortest := F_shortest.binds (ps := ["works"]) fun _ _ _ _ _ _ us hl => match us, hl with | [_], _ => rfl
    obtain ⟨f_rows_from_rooms, fd_rows_from_rooms, F_rows_from_rooms, g_rows_from_rooms⟩ : ∃ f fd, L2.Fun _ "rows_from_rooms" "rows_from_rooms" K82.st_rows_from_rooms f fd ∧ mg "rows_from_rooms" = some (.ref f) := by (refine' Gw.def_mk KX G ?a ?l ?c ?k; (case a => k_is); (case l => k_is); (case c => k_is); (case k => k_is))
    have b_rows_from_rooms := F_rows_from_rooms.binds (ps := ["house", "made"]) fun _ _ _ _ _ _ us hl => match us, hl with | [_, _], _ => rfl
    obtain ⟨f_calls_within, fd_calls_within, F_calls_within, g_calls_within⟩ : ∃ f fd, L2.Fun _ "calls_within" "calls_within" K82.st_calls_within f fd ∧ mg "calls_within" = some (.ref f) := by (refine' Gw.def_mk KX G ?a ?l ?c ?k; (case a => k_is); (case l => k_is); (case c => k_is); (case k => k_is))
    have b_calls_within := F_calls_within.binds (ps := ["house", "plain", "made"]) fun _ _ _ _ _ _ us hl => match us, hl with | [_, _, _], _ => rfl
    obtain ⟨f_uses_of, fd_uses_of, F_uses_of, g_uses_of⟩ : ∃ f fd, L2.Fun _ "uses_of" "uses_of" K82.st_uses_of f fd ∧ mg "uses_of" = some (.ref f) := by (refine' Gw.def_mk KX G ?a ?l ?c ?k; (case a => k_is); (case l => k_is); (case c => k_is); (case k => k_is))
    have b_uses_of := F_uses_of.binds (ps := ["works"]) fun _ _ _ _ _ _ us hl => match us, hl with | [_], _ => rfl
    obtain ⟨f_used_with, fd_used_with, F_used_with, g_used_with⟩ : ∃ f fd, L2.Fun _ "used_with" "used_with" K82.st_used_with f fd ∧ mg "used_with" = some (.ref f) := by (refine' Gw.def_mk KX G ?a ?l ?c ?k; (case a => k_is); (case l => k_is); (case c => k_is); (case k => k_is))
    have b_used_with := F_used_with.binds (ps := ["works", "helper", "use", "within"]) fun _ _ _ _ _ _ us hl => match us, hl with | [_, _, _, _], _ => rfl
    obtain ⟨f_room_next, fd_room_next, F_room_next, g_room_next⟩ : ∃ f fd, L2.Fun _ "room_next" "room_next" K82.st_room_next f fd ∧ mg "room_next" = some (.ref f) := by (refine' Gw.def_mk KX G ?a ?l ?c ?k; (case a => k_is); (case l => k_is); (case c => k_is); (case k => k_is))
    have b_room_next := F_room_next.binds (ps := ["house", "room", "letter", "made"]) fun _ _ _ _ _ _ us hl => match us, hl with | [_, _, _, _], _ => rfl
    obtain ⟨f_taken_at, fd_taken_at, F_taken_at, g_taken_at⟩ : ∃ f fd, L2.Fun _ "taken_at" "taken_at" K82.st_taken_at f fd ∧ mg "taken_at" = some (.ref f) := by (refine' Gw.def_mk KX G ?a ?l ?c ?k; (case a => k_is); (case l => k_is); (case c => k_is); (case k => k_is))
    have b_taken_at := F_taken_at.binds (ps := ["house", "room"]) fun _ _ _ _ _ _ us hl => match us, hl with | [_, _], _ => rfl
    obtain ⟨f_unlike_word, fd_unlike_word, F_unlike_word, g_unlike_word⟩ : ∃ f fd, L2.Fun _ "unlike_word" "unlike_word" K82.st_unlike_word f fd ∧ mg "unlike_word" = some (.ref f) := by (refine' Gw.def_mk KX G ?a ?l ?c ?k; (case a => k_is); (case l => k_is); (case c => k_is); (case k => k_is))
    have b_unlike_word := F_unlike_word.binds (ps := ["house", "made", "other", "others_made"]) fun _ _ _ _ _ _ us hl => match us, hl with | [_, _, _, _], _ => rfl
    obtain ⟨f_told_word, fd_told_word, F_told_word, g_told_word⟩ : ∃ f fd, L2.Fun _ "told_word" "told_word" K82.st_told_word f fd ∧ mg "told_word" = some (.ref f) := by (refine' Gw.def_mk KX G ?a ?l ?c ?k; (case a => k_is); (case l => k_is); (case c => k_is); (case k => k_is))
    have b_told_word := F_told_word.binds (ps := ["works", "helper", "made", "local"]) fun _ _ _ _ _ _ us hl => match us, hl with | [_, _, _, _], _ => rfl
    obtain ⟨f_works_difference, fd_works_difference, F_works_difference, g_works_difference⟩ : ∃ f fd, L2.Fun _ "works_difference" "works_difference" K82.st_works_difference f fd ∧ mg "works_difference" = some (.ref f) := by (refine' Gw.def_mk KX G ?a ?l ?c ?k; (case a => k_is); (case l => k_is); (case c => k_is); (case k => k_is))
    have b_works_difference := F_works_difference.binds (ps := ["works", "other"]) fun _ _ _ _ _ _ us hl => match us, hl with | [_, _], _ => rfl
    obtain ⟨f__law_cell_at, fd__law_cell_at, F__law_cell_at, g__law_cell_at⟩ : ∃ f fd, L2.Fun _ "_law_cell_at" "_law_cell_at" K82.st__law_cell_at f fd ∧ mg "_law_cell_at" = some (.ref f) := by (refine' Gw.def_mk KX G ?a ?l ?c ?k; (case a => k_is); (case l => k_is); (case c => k_is); (case k => k_is))
    have b__law_cell_at := F__law_cell_at.binds (ps := ["script", "k"]) fun _ _ _ _ _ _ us hl => match us, hl with | [_, _], _ => rfl
    obtain ⟨f__law_whole, fd__law_whole, F__law_whole, g__law_whole⟩ : ∃ f fd, L2.Fun _ "_law_whole" "_law_whole" K82.st__law_whole f fd ∧ mg "_law_whole" = some (.ref f) := by (refine' Gw.def_mk KX G ?a ?l ?c ?k; (case a => k_is); (case l => k_is); (case c => k_is); (case k => k_is))
    have b__law_whole := F__law_whole.binds (ps := ["found"]) fun _ _ _ _ _ _ us hl => match us, hl with | [_], _ => rfl
    obtain ⟨f__law_nest, fd__law_nest, F__law_nest, g__law_nest⟩ : ∃ f fd, L2.Fun _ "_law_nest" "_law_nest" K82.st__law_nest f fd ∧ mg "_law_nest" = some (.ref f) := by (refine' Gw.def_mk KX G ?a ?l ?c ?k; (case a => k_is); (case l => k_is); (case c => k_is); (case k => k_is))
    have b__law_nest := F__law_nest.binds (ps := ["flow", "plain", "helpers"]) fun _ _ _ _ _ _ us hl => match us, hl with | [_, _, _], _ => rfl
    obtain ⟨f__law_nested, fd__law_nested, F__law_nested, g__law_nested⟩ : ∃ f fd, L2.Fun _ "_law_nested" "_law_nested" K82.st__law_nested f fd ∧ mg "_law_nested" = some (.ref f) := by (refine' Gw.def_mk KX G ?a ?l ?c ?k; (case a => k_is); (case l => k_is); (case c => k_is); (case k => k_is))
    have b__law_nested := F__law_nested.binds (ps := ["plain", "helpers", "signs"]) fun _ _ _ _ _ _ us hl => match us, hl with | [_, _, _], _ => rfl
    obtain ⟨f__law_parts, fd__law_parts, F__law_parts, g__law_parts⟩ : ∃ f fd, L2.Fun _ "_law_parts" "_law_parts" K82.st__law_parts f fd ∧ mg "_law_parts" = some (.ref f) := by (refine' Gw.def_mk KX G ?a ?l ?c ?k; (case a => k_is); (case l => k_is); (case c => k_is); (case k => k_is))
    have b__law_parts := F__law_parts.binds (ps := ["plain", "helpers", "signs", "top"]) fun _ _ _ _ _ _ us hl => match us, hl with | [_, _, _, _], _ => rfl
    obtain ⟨f__law_draw, fd__law_draw, F__law_draw, g__law_draw⟩ : ∃ f fd, L2.Fun _ "_law_draw" "_law_draw" K82.st__law_draw f fd ∧ mg "_law_draw" = some (.ref f) := by (refine' Gw.def_mk KX G ?a ?l ?c ?k; (case a => k_is); (case l => k_is); (case c => k_is); (case k => k_is))
    have b__law_draw := F__law_draw.binds (ps := ["flow", "k", "many"]) fun _ _ _ _ _ _ us hl => match us, hl with | [_, _, _], _ => rfl
    obtain ⟨f__law_house_by, fd__law_house_by, F__law_house_by, g__law_house_by⟩ : ∃ f fd, L2.Fun _ "_law_house_by" "_law_house_by" K82.st__law_house_by f fd ∧ mg "_law_house_by" = some (.ref f) := by (refine' Gw.def_mk KX G ?a ?l ?c ?k; (case a => k_is); (case l => k_is); (case c => k_is); (case k => k_is))
    have b__law_house_by := F__law_house_by.binds (ps := ["flow", "at", "letters"]) fun _ _ _ _ _ _ us hl => match us, hl with | [_, _, _], _ => rfl
    obtain ⟨f__law_works_by, fd__law_works_by, F__law_works_by, g__law_works_by⟩ : ∃ f fd, L2.Fun _ "_law_works_by" "_law_works_by" K82.st__law_works_by f fd ∧ mg "_law_works_by" = some (.ref f) := by (refine' Gw.def_mk KX G ?a ?l ?c ?k; (case a => k_is); (case l => k_is); (case c => k_is); (case k => k_is))
    have b__law_works_by := F__law_works_by.binds (ps := ["flow", "plain", "helpers"]) fun _ _ _ _ _ _ us hl => match us, hl with | [_, _, _], _ => rfl
    obtain ⟨f__law_answer, fd__law_answer, F__law_answer, g__law_answer⟩ : ∃ f fd, L2.Fun _ "_law_answer" "_law_answer" K82.st__law_answer f fd ∧ mg "_law_answer" = some (.ref f) := by (refine' Gw.def_mk KX G ?a ?l ?c ?k; (case a => k_is); (case l => k_is); (case c => k_is); (case k => k_is))
    have b__law_answer := F__law_answer.binds (ps := ["house", "word"]) fun _ _ _ _ _ _ us hl => match us, hl with | [_, _], _ => rfl
    obtain ⟨f__law_accepted, fd__law_accepted, F__law_accepted, g__law_accepted⟩ : ∃ f fd, L2.Fun _ "_law_accepted" "_law_accepted" K82.st__law_accepted f fd ∧ mg "_law_accepted" = some (.ref f) := by (refine' Gw.def_mk KX G ?a ?l ?c ?k; (case a => k_is); (case l => k_is); (case c => k_is); (case k => k_is))
    have b__law_accepted := F__law_accepted.binds (ps := ["works", "signs", "top"]) fun _ _ _ _ _ _ us hl => match us, hl with | [_, _, _], _ => rfl
    obtain ⟨f__law_other_works, fd__law_other_works, F__law_other_works, g__law_other_works⟩ : ∃ f fd, L2.Fun _ "_law_other_works" "_law_other_works" K82.st__law_other_works f fd ∧ mg "_law_other_works" = some (.ref f) := by (refine' Gw.def_mk KX G ?a ?l ?c ?k; (case a => k_is); (case l => k_is); (case c => k_is); (case k => k_is))
    have b__law_other_works := F__law_other_works.binds (ps := ["works", "flow", "way", "cell"]) fun _ _ _ _ _ _ us hl => match us, hl with | [_, _, _, _], _ => rfl
    obtain ⟨f__law_refused, fd__law_refused, F__law_refused, g__law_refused⟩ : ∃ f fd, L2.Fun _ "_law_refused" "_law_refused" K82.st__law_refused f fd ∧ mg "_law_refused" = some (.ref f) := by (refine' Gw.def_mk KX G ?a ?l ?c ?k; (case a => k_is); (case l => k_is); (case c => k_is); (case k => k_is))
    have b__law_refused := F__law_refused.binds (ps := ["works", "other"]) fun _ _ _ _ _ _ us hl => match us, hl with | [_, _], _ => rfl
    obtain ⟨f__law_bare, fd__law_bare, F__law_bare, g__law_bare⟩ : ∃ f fd, L2.Fun _ "_law_bare" "_law_bare" K82.st__law_bare f fd ∧ mg "_law_bare" = some (.ref f) := by (refine' Gw.def_mk KX G ?a ?l ?c ?k; (case a => k_is); (case l => k_is); (case c => k_is); (case k => k_is))
    have b__law_bare := F__law_bare.binds (ps := ["plain", "helpers"]) fun _ _ _ _ _ _ us hl => match us, hl with | [_, _], _ => rfl
    obtain ⟨f__law_row_good, fd__law_row_good, F__law_row_good, g__law_row_good⟩ : ∃ f fd, L2.Fun _ "_law_row_good" "_law_row_good" K82.st__law_row_good f fd ∧ mg "_law_row_good" = some (.ref f) := by (refine' Gw.def_mk KX G ?a ?l ?c ?k; (case a => k_is); (case l => k_is); (case c => k_is); (case k => k_is))
    have b__law_row_good := F__law_row_good.binds (ps := ["works", "found"]) fun _ _ _ _ _ _ us hl => match us, hl with | [_, _], _ => rfl
    obtain ⟨f__law_rooms_to, fd__law_rooms_to, F__law_rooms_to, g__law_rooms_to⟩ : ∃ f fd, L2.Fun _ "_law_rooms_to" "_law_rooms_to" K82.st__law_rooms_to f fd ∧ mg "_law_rooms_to" = some (.ref f) := by (refine' Gw.def_mk KX G ?a ?l ?c ?k; (case a => k_is); (case l => k_is); (case c => k_is); (case k => k_is))
    have b__law_rooms_to := F__law_rooms_to.binds (ps := ["house", "letters"]) fun _ _ _ _ _ _ us hl => match us, hl with | [_, _], _ => rfl
    obtain ⟨f__law_letters_good, fd__law_letters_good, F__law_letters_good, g__law_letters_good⟩ : ∃ f fd, L2.Fun _ "_law_letters_good" "_law_letters_good" K82.st__law_letters_good f fd ∧ mg "_law_letters_good" = some (.ref f) := by (refine' Gw.def_mk KX G ?a ?l ?c ?k; (case a => k_is); (case l => k_is); (case c => k_is); (case k => k_is))
    have b__law_letters_good := F__law_letters_good.binds (ps := ["works"]) fun _ _ _ _ _ _ us hl => match us, hl with | [_], _ => rfl
    obtain ⟨f__law_rooms_from, fd__law_rooms_from, F__law_rooms_from, g__law_rooms_from⟩ : ∃ f fd, L2.Fun _ "_law_rooms_from" "_law_rooms_from" K82.st__law_rooms_from f fd ∧ mg "_law_rooms_from" = some (.ref f) := by (refine' Gw.def_mk KX G ?a ?l ?c ?k; (case a => k_is); (case l => k_is); (case c => k_is); (case k => k_is))
    have b__law_rooms_from := F__law_rooms_from.binds (ps := ["house", "letters"]) fun _ _ _ _ _ _ us hl => match us, hl with | [_, _], _ => rfl
    obtain ⟨f__law_of_use, fd__law_of_use, F__law_of_use, g__law_of_use⟩ : ∃ f fd, L2.Fun _ "_law_of_use" "_law_of_use" K82.st__law_of_use f fd ∧ mg "_law_of_use" = some (.ref f) := by (refine' Gw.def_mk KX G ?a ?l ?c ?k; (case a => k_is); (case l => k_is); (case c => k_is); (case k => k_is))
    have b__law_of_use := F__law_of_use.binds (ps := ["works", "good"]) fun _ _ _ _ _ _ us hl => match us, hl with | [_, _], _ => rfl
    obtain ⟨f__law_houses_unlike, fd__law_houses_unlike, F__law_houses_unlike, g__law_houses_unlike⟩ : ∃ f fd, L2.Fun _ "_law_houses_unlike" "_law_houses_unlike" K82.st__law_houses_unlike f fd ∧ mg "_law_houses_unlike" = some (.ref f) := by (refine' Gw.def_mk KX G ?a ?l ?c ?k; (case a => k_is); (case l => k_is); (case c => k_is); (case k => k_is))
    have b__law_houses_unlike := F__law_houses_unlike.binds (ps := ["house", "other", "letters"]) fun _ _ _ _ _ _ us hl => match us, hl with | [_, _, _], _ => rfl
    obtain ⟨f__law_unlike, fd__law_unlike, F__law_unlike, g__law_unlike⟩ : ∃ f fd, L2.Fun _ "_law_unlike" "_law_unlike" K82.st__law_unlike f fd ∧ mg "_law_unlike" = some (.ref f) := by (refine' Gw.def_mk KX G ?a ?l ?c ?k; (case a => k_is); (case l => k_is); (case c => k_is); (case k => k_is))
    have b__law_unlike := F__law_unlike.binds (ps := ["works", "other"]) fun _ _ _ _ _ _ us hl => match us, hl with | [_, _], _ => rfl
    obtain ⟨f_law, fd_law, F_law, g_law⟩ : ∃ f fd, L2.Fun _ "law" "law" K82.st_law f fd ∧ mg "law" = some (.ref f) := by (refine' Gw.def_mk KX G ?a ?l ?c ?k; (case a => k_is); (case l => k_is); (case c => k_is); (case k => k_is))
    have b_law := F_law.binds (ps := ["script"]) fun _ _ _ _ _ _ us hl => match us, hl with | [_], _ => rfl
    have e := hmg.symm.trans g_law
    cases e
    refine ⟨fd_law, Gw.bind1 F_law (fun _ _ _ _ _ _ _ => rfl), fun base hb1 hb2 => ?_⟩
    have h_less := Gw.fd_mk (n := 2) F_less g_less b_less rfl (K82.ok_less (P := (PySem.Challenge.rw_guesswide_k82_whole_works_told_apart).prog) (w := w) (base := base) F_less  m_len m_zip  )
    have h_spread := Gw.fd_mk (n := 4) F_spread g_spread b_spread rfl (K82.ok_spread (P := (PySem.Challenge.rw_guesswide_k82_whole_works_told_apart).prog) (w := w) (base := base) F_spread  m_tuple  )
    have h_letters_made := Gw.fd_mk (n := 2) F_letters_made g_letters_made b_letters_made rfl (K82.ok_letters_made (P := (PySem.Challenge.rw_guesswide_k82_whole_works_told_apart).prog) (w := w) (base := base) F_letters_made h_spread m_len m_range  )
    have h_lesser := Gw.fd_mk (n := 2) F_lesser g_lesser b_lesser rfl (K82.ok_lesser (P := (PySem.Challenge.rw_guesswide_k82_whole_works_told_apart).prog) (w := w) (base := base) F_lesser h_less   )
    have h_rows_to_rooms := Gw.fd_mk (n := 2) F_rows_to_rooms g_rows_to_rooms b_rows_to_rooms rfl (K82.ok_rows_to_rooms (P := (PySem.Challenge.rw_guesswide_k82_whole_works_told_apart).prog) (w := w) (base := base) F_rows_to_rooms h_lesser m_len m_range  )
    have h_shortest := Gw.fd_mk (n := 1) F_shortest g_shortest b_shortest rfl (K82.ok_shortest (P := (PySem.Challenge.rw_guesswide_k82_whole_works_told_apart).prog) (w := w) (base := base) F_shortest h_lesser h_letters_made h_rows_to_rooms m_enumerate m_len m_range  )
    have h_rows_from_rooms := Gw.fd_mk (n := 2) F_rows_from_rooms g_rows_from_rooms b_rows_from_rooms rfl (K82.ok_rows_from_rooms (P := (PySem.Challenge.rw_guesswide_k82_whole_works_told_apart).prog) (w := w) (base := base) F_rows_from_rooms h_lesser m_len m_range  )
    have h_calls_within := Gw.fd_mk (n := 3) F_calls_within g_calls_within b_calls_within rfl (K82.ok_calls_within (P := (PySem.Challenge.rw_guesswide_k82_whole_works_told_apart).prog) (w := w) (base := base) F_calls_within h_rows_from_rooms h_rows_to_rooms m_len m_range  )
    have h_uses_of := Gw.fd_mk (n := 1) F_uses_of g_uses_of b_uses_of rfl (K82.ok_uses_of (P := (PySem.Challenge.rw_guesswide_k82_whole_works_told_apart).prog) (w := w) (base := base) F_uses_of h_calls_within h_letters_made h_shortest m_len  )
    have h_used_with := Gw.fd_mk (n := 4) F_used_with g_used_with b_used_with rfl (K82.ok_used_with (P := (PySem.Challenge.rw_guesswide_k82_whole_works_told_apart).prog) (w := w) (base := base) F_used_with  m_len  )
    have h_room_next := Gw.fd_mk (n := 4) F_room_next g_room_next b_room_next rfl (K82.ok_room_next (P := (PySem.Challenge.rw_guesswide_k82_whole_works_told_apart).prog) (w := w) (base := base) F_room_next    )
    have h_taken_at := Gw.fd_mk (n := 2) F_taken_at g_taken_at b_taken_at rfl (K82.ok_taken_at (P := (PySem.Challenge.rw_guesswide_k82_whole_works_told_apart).prog) (w := w) (base := base) F_taken_at    )
    have h_unlike_word := Gw.fd_mk (n := 4) F_unlike_word g_unlike_word b_unlike_word rfl (K82.ok_unlike_word (P := (PySem.Challenge.rw_guesswide_k82_whole_works_told_apart).prog) (w := w) (base := base) F_unlike_word h_room_next h_taken_at m_len m_range  )
    have h_told_word := Gw.fd_mk (n := 4) F_told_word g_told_word b_told_word rfl (K82.ok_told_word (P := (PySem.Challenge.rw_guesswide_k82_whole_works_told_apart).prog) (w := w) (base := base) F_told_word h_room_next h_taken_at   )
    have h_works_difference := Gw.fd_mk (n := 2) F_works_difference g_works_difference b_works_difference rfl (K82.ok_works_difference (P := (PySem.Challenge.rw_guesswide_k82_whole_works_told_apart).prog) (w := w) (base := base) F_works_difference h_letters_made h_shortest h_spread h_told_word h_unlike_word h_used_with h_uses_of m_int m_len m_range x_BadHouse )
    have h__law_cell_at := Gw.fd_mk (n := 2) F__law_cell_at g__law_cell_at b__law_cell_at rfl (K82.ok__law_cell_at (P := (PySem.Challenge.rw_guesswide_k82_whole_works_told_apart).prog) (w := w) (base := base) F__law_cell_at  m_len  )
    have h__law_whole := Gw.fd_mk (n := 1) F__law_whole g__law_whole b__law_whole rfl (K82.ok__law_whole (P := (PySem.Challenge.rw_guesswide_k82_whole_works_told_apart).prog) (w := w) (base := base) F__law_whole  m_bool m_int m_isinstance  )
    have h__law_nest := Gw.fd_mk (n := 3) F__law_nest g__law_nest b__law_nest rfl (K82.ok__law_nest (P := (PySem.Challenge.rw_guesswide_k82_whole_works_told_apart).prog) (w := w) (base := base) F__law_nest    )
    have h__law_nested := Gw.fd_mk (n := 3) F__law_nested g__law_nested b__law_nested rfl (K82.ok__law_nested (P := (PySem.Challenge.rw_guesswide_k82_whole_works_told_apart).prog) (w := w) (base := base) F__law_nested  m_len  )
    have h__law_parts := Gw.fd_mk (n := 4) F__law_parts g__law_parts b__law_parts rfl (K82.ok__law_parts (P := (PySem.Challenge.rw_guesswide_k82_whole_works_told_apart).prog) (w := w) (base := base) F__law_parts    )
    have h__law_draw := Gw.fd_mk (n := 3) F__law_draw g__law_draw b__law_draw rfl (K82.ok__law_draw (P := (PySem.Challenge.rw_guesswide_k82_whole_works_told_apart).prog) (w := w) (base := base) F__law_draw  m_len  )
    have h__law_house_by := Gw.fd_mk (n := 3) F__law_house_by g__law_house_by b__law_house_by rfl (K82.ok__law_house_by (P := (PySem.Challenge.rw_guesswide_k82_whole_works_told_apart).prog) (w := w) (base := base) F__law_house_by h__law_draw m_range m_tuple  )
    have h__law_works_by := Gw.fd_mk (n := 3) F__law_works_by g__law_works_by b__law_works_by rfl (K82.ok__law_works_by (P := (PySem.Challenge.rw_guesswide_k82_whole_works_told_apart).prog) (w := w) (base := base) F__law_works_by h__law_house_by m_range m_tuple  )
    have h__law_answer := Gw.fd_mk (n := 2) F__law_answer g__law_answer b__law_answer rfl (K82.ok__law_answer (P := (PySem.Challenge.rw_guesswide_k82_whole_works_told_apart).prog) (w := w) (base := base) F__law_answer    )
    have h__law_accepted := Gw.fd_mk (n := 3) F__law_accepted g__law_accepted b__law_accepted rfl (K82.ok__law_accepted (P := (PySem.Challenge.rw_guesswide_k82_whole_works_told_apart).prog) (w := w) (base := base) F__law_accepted h__law_answer h__law_parts m_len  )
    have h__law_other_works := Gw.fd_mk (n := 4) F__law_other_works g__law_other_works b__law_other_works rfl (K82.ok__law_other_works (P := (PySem.Challenge.rw_guesswide_k82_whole_works_told_apart).prog) (w := w) (base := base) F__law_other_works h__law_house_by h__law_works_by m_int m_len m_list m_tuple  )
    have h__law_refused := Gw.fd_mk (n := 2) F__law_refused g__law_refused b__law_refused rfl (K82.ok__law_refused (P := (PySem.Challenge.rw_guesswide_k82_whole_works_told_apart).prog) (w := w) (base := base) F__law_refused h_works_difference m_isinstance x_AskError x_BadHouse x_BadWord T_AskError_BadHouse_BadWord)
    have h__law_bare := Gw.fd_mk (n := 2) F__law_bare g__law_bare b__law_bare rfl (K82.ok__law_bare (P := (PySem.Challenge.rw_guesswide_k82_whole_works_told_apart).prog) (w := w) (base := base) F__law_bare  m_tuple  )
    have h__law_row_good := Gw.fd_mk (n := 2) F__law_row_good g__law_row_good b__law_row_good rfl (K82.ok__law_row_good (P := (PySem.Challenge.rw_guesswide_k82_whole_works_told_apart).prog) (w := w) (base := base) F__law_row_good h__law_nested h__law_whole m_isinstance m_len m_tuple  )
    have h__law_rooms_to := Gw.fd_mk (n := 2) F__law_rooms_to g__law_rooms_to b__law_rooms_to rfl (K82.ok__law_rooms_to (P := (PySem.Challenge.rw_guesswide_k82_whole_works_told_apart).prog) (w := w) (base := base) F__law_rooms_to  m_len  )
    have h__law_letters_good := Gw.fd_mk (n := 1) F__law_letters_good g__law_letters_good b__law_letters_good rfl (K82.ok__law_letters_good (P := (PySem.Challenge.rw_guesswide_k82_whole_works_told_apart).prog) (w := w) (base := base) F__law_letters_good h__law_rooms_to m_len m_list m_range  )
    have h__law_rooms_from := Gw.fd_mk (n := 2) F__law_rooms_from g__law_rooms_from b__law_rooms_from rfl (K82.ok__law_rooms_from (P := (PySem.Challenge.rw_guesswide_k82_whole_works_told_apart).prog) (w := w) (base := base) F__law_rooms_from  m_len m_range  )
    have h__law_of_use := Gw.fd_mk (n := 2) F__law_of_use g__law_of_use b__law_of_use rfl (K82.ok__law_of_use (P := (PySem.Challenge.rw_guesswide_k82_whole_works_told_apart).prog) (w := w) (base := base) F__law_of_use h__law_rooms_from h__law_rooms_to m_len m_sorted  )
    have h__law_houses_unlike := Gw.fd_mk (n := 3) F__law_houses_unlike g__law_houses_unlike b__law_houses_unlike rfl (K82.ok__law_houses_unlike (P := (PySem.Challenge.rw_guesswide_k82_whole_works_told_apart).prog) (w := w) (base := base) F__law_houses_unlike  m_len  )
    have h__law_unlike := Gw.fd_mk (n := 2) F__law_unlike g__law_unlike b__law_unlike rfl (K82.ok__law_unlike (P := (PySem.Challenge.rw_guesswide_k82_whole_works_told_apart).prog) (w := w) (base := base) F__law_unlike h__law_houses_unlike h__law_letters_good h__law_of_use   )
    exact (K82.ok_law (base := base) F_law h__law_accepted h__law_bare h__law_cell_at h__law_nest h__law_other_works h__law_refused h__law_row_good h__law_unlike h__law_works_by h_works_difference m_len m_max m_min  ).imp (Gw.sp_imp K82.law_true)

