import PyProof.Rows.All
import Wide.All
import OpenK.AllK
import Wide.FinOn
import HandS.ForMost
import HandS.ForExc
import HandS.CallSlots
import HandS.Defaults
import HandS.IsInst
import HandS.Slots
import HandS.SlotsOwn
import HandS.SlotsVar
import HandS.ExcInit
import HandS.ExcSuper
import HandS.ExcField
import HandS.ExcValue
import HandS.Property
import HandS.Lambda
import HandS.FStr
import HandS.RaiseMore
import HandS.Wide
import KE.KSuper
import KE.KExcIs
import HandS.Comp
import HandS.AnyAll
import HandS.Dict
import PyProof.ReprNest
import PyProof.ReprDict
import PyProof.CallFns
import HandS.EndTab
import HandS.EndOwn
import PyProof.InstNe
import HandS.Words
import KE.KOpsOwn
import PyProof.FactsAll.int
import HandS.OwnEq
import HandS.DictComp
import HandS.SetKeys
import HandS.ListItems
import HandS.TupAny
import HandS.Deep
import HandS.Star
import HandS.Conv
import HandS.StrMore
import KE.KUnpackStar
import PyProof.Rows.SeqMore
import KE.IntBitsLaws
import PyProof.Rows.RegStrFacts
import HandS.Text
import KE.IntTextLaws
import PySem.Challenge.RW_sharedslip_k04_texts_of_worths
set_option Elab.async false
set_option linter.all false
set_option maxRecDepth 100000
set_option maxHeartbeats 4000000
/-! # A layer of data over HandS: values that never change stand as data, without addresses -/
namespace DL
open PySem PySem.Spec PyProof.Rows L2

/-- a datum: what never changes stands as it is; ref: an object that may change (tracked by Td) -/
inductive D where
  | non | bl (b : Bool) | int (i : Int) | str (x : Str) | val (v : V) | ref (a : Addr)
  | tup (xs : List D) | lst (xs : List D) | dct (ks : List Key) (xs : List D)
  | slo (C : Addr) (xs : List D) | obj (C : Addr) (ns : List Str) (xs : List D)
  | exc (c : Value) (ns : List Str) (xs : List D)
  | fn (f c : Addr) (q : Str) (vs : List V) (xs : List D)

/-- a tracked object -/
inductive DO where
  | lst (xs : List D) | dct (ks : List Key) (xs : List D) | ins (C : Addr) (ns : List Str) (xs : List D)
  | slo (C : Addr) (xs : List (Option D)) | tbl (q : Str)
abbrev Td := Addr → Option DO
def tput (T : Td) (a : Addr) (o : DO) : Td := fun b => if b = a then some o else T b
theorem tput_same {T : Td} {a : Addr} {o : DO} : tput T a o a = some o := by unfold tput; rw [if_pos rfl]
theorem tput_ne {T : Td} {a b : Addr} {o : DO} (h : b ≠ a) : tput T a o b = T b := by unfold tput; rw [if_neg h]
def tdel (T : Td) (a : Addr) : Td := fun b => if b = a then none else T b
theorem tdel_same {T : Td} {a : Addr} : tdel T a a = none := by unfold tdel; rw [if_pos rfl]
theorem tdel_ne {T : Td} {a b : Addr} (h : b ≠ a) : tdel T a b = T b := by unfold tdel; rw [if_neg h]

/-- at a: an exception object of the class c, its own dict at d -/
def EcP (a : Addr) (c : Value) (d : Option Addr) (h : Heap) : Prop := ∃ oe vs, h.get? a = some oe ∧ oe.cls = c ∧ oe.dict = d ∧ oe.data = .fields vs
def EcO (a : Addr) (c : Value) (d : Option Addr) : HO := .ext (EcP a c d)

/-- a tuple, a list that is only read -/
def TupAt (K : PySem.W.Frag) (H : Hp) (T : Td) (a : Addr) (xs : List V) : Prop :=
  (T a = none ∧ Rd H a (.tup xs)) ∨
    ∃ (o : Obj) (its : Array Value) (n : Nat), K.lookup a = some o ∧ o.cls = .type "tuple" ∧ o.data = .seq its n ∧ its.size ≤ sizeLine ∧ Vals xs its.toList
def LstAt (K : PySem.W.Frag) (H : Hp) (T : Td) (a : Addr) (xs : List V) : Prop :=
  (T a = none ∧ Rd H a (.lst xs)) ∨
    ∃ (o : Obj) (its : Array Value) (n : Nat), K.lookup a = some o ∧ o.cls = .type "list" ∧ o.dict = none ∧ o.data = .seq its n ∧ its.size ≤ sizeLine ∧ Vals xs its.toList
theorem TupAt.sq {K : PySem.W.Frag} {H : Hp} {T : Td} {a : Addr} {xs : List V} (h : TupAt K H T a xs) : SqT K H a xs := h.elim (fun q => .inl q.2) .inr
theorem LstAt.sq {K : PySem.W.Frag} {H : Hp} {T : Td} {a : Addr} {xs : List V} (h : LstAt K H T a xs) : SqL K H a xs := h.elim (fun q => .inl q.2) .inr

mutual
def RD (K : PySem.W.Frag) (H : Hp) (T : Td) : D → V → Prop
  | .non, v => v = .non
  | .bl b, v => v = .bl b
  | .int i, v => v = .int i
  | .str x, v => v = .str x
  | .val u, v => v = u
  | .ref a, v => v = .ref a
  | .tup ds, v => ∃ a vs, v = .ref a ∧ TupAt K H T a vs ∧ RDs K H T ds vs
  | .lst ds, v => ∃ a vs, v = .ref a ∧ LstAt K H T a vs ∧ RDs K H T ds vs
  | .dct ks ds, v => ∃ a od vs, v = .ref a ∧ T a = none ∧ H a = some (.frz od (.dK (ks.zip vs))) ∧ ks.length = vs.length ∧ RDs K H T ds vs
  | .slo C ds, v => ∃ a dx vs, v = .ref a ∧ T a = none ∧ T dx = none ∧ H dx = some (.xd []) ∧ H a = some (SlX.SlO a C dx (vs.map some)) ∧ RDs K H T ds vs
  | .obj C ns ds, v => ∃ a dx vs, v = .ref a ∧ T a = none ∧ T dx = none ∧ H dx = some (.own a) ∧ H a = some (.ins C dx (ns.zip vs)) ∧ ns.length = vs.length ∧ RDs K H T ds vs
  | .fn f c q vs ds, v => v = .ref f ∧ T c = none ∧ H c = some (LamX.CodeO c q) ∧ RDs K H T ds vs
  | .exc c ns ds, v => ∃ a d vs, v = .ref a ∧ T a = none ∧ T d = none ∧ H a = some (EcO a c (some d)) ∧ H d = some (.xd (ns.zip vs)) ∧ ns.length = vs.length ∧ RDs K H T ds vs
def RDs (K : PySem.W.Frag) (H : Hp) (T : Td) : List D → List V → Prop
  | [], vs => vs = []
  | d :: ds, vs => ∃ v r, vs = v :: r ∧ RD K H T d v ∧ RDs K H T ds r
end

/-- what is not tracked stays -/
def Fr (H : Hp) (T : Td) (H' : Hp) (T' : Td) : Prop := ∀ a o, H a = some o → T a = none → H' a = some o ∧ T' a = none
theorem Fr.refl {H : Hp} {T : Td} : Fr H T H T := fun _ _ h t => ⟨h, t⟩
theorem Fr.trans {H H1 H2 : Hp} {T T1 T2 : Td} (a : Fr H T H1 T1) (b : Fr H1 T1 H2 T2) : Fr H T H2 T2 := fun c o h t => b c o (a c o h t).1 (a c o h t).2
section
variable {K : PySem.W.Frag} {H H' H1 : Hp} {T T' T1 : Td}
theorem Fr.rd (f : Fr H T H' T') {a : Addr} {u : HO} (t : T a = none) (h : Rd H a u) : T' a = none ∧ Rd H' a u := by
  rcases h with h | ⟨o, h⟩
  · exact ⟨(f a _ h t).2, .inl (f a _ h t).1⟩
  · exact ⟨(f a _ h t).2, .inr ⟨o, (f a _ h t).1⟩⟩
theorem TupAt.mono (f : Fr H T H' T') {a : Addr} {vs : List V} (h : TupAt K H T a vs) : TupAt K H' T' a vs := h.elim (fun q => .inl (f.rd q.1 q.2)) .inr
theorem LstAt.mono (f : Fr H T H' T') {a : Addr} {vs : List V} (h : LstAt K H T a vs) : LstAt K H' T' a vs := h.elim (fun q => .inl (f.rd q.1 q.2)) .inr
mutual
theorem RD.mono (f : Fr H T H' T') : ∀ (d : D) {v : V}, RD K H T d v → RD K H' T' d v
  | .non, _, h => h
  | .bl _, _, h => h
  | .int _, _, h => h
  | .str _, _, h => h
  | .val _, _, h => h
  | .ref _, _, h => h
  | .tup ds, _, h => by
    obtain ⟨a, vs, e, t, r⟩ := h
    exact ⟨a, vs, e, t.mono f, RDs.mono f ds r⟩
  | .lst ds, _, h => by
    obtain ⟨a, vs, e, t, r⟩ := h
    exact ⟨a, vs, e, t.mono f, RDs.mono f ds r⟩
  | .dct ks ds, _, h => by
    obtain ⟨a, od, vs, e, t, h, l, r⟩ := h
    exact ⟨a, od, vs, e, (f a _ h t).2, (f a _ h t).1, l, RDs.mono f ds r⟩
  | .slo C ds, _, h => by
    obtain ⟨a, dx, vs, e, t, t2, h2, h1, r⟩ := h
    exact ⟨a, dx, vs, e, (f a _ h1 t).2, (f dx _ h2 t2).2, (f dx _ h2 t2).1, (f a _ h1 t).1, RDs.mono f ds r⟩
  | .obj C ns ds, _, h => by
    obtain ⟨a, dx, vs, e, t, t2, h2, h1, l, r⟩ := h
    exact ⟨a, dx, vs, e, (f a _ h1 t).2, (f dx _ h2 t2).2, (f dx _ h2 t2).1, (f a _ h1 t).1, l, RDs.mono f ds r⟩
  | .fn g c q vs ds, _, h => by
    obtain ⟨e, t, h1, r⟩ := h
    exact ⟨e, (f c _ h1 t).2, (f c _ h1 t).1, RDs.mono f ds r⟩
  | .exc c ns ds, _, h => by
    obtain ⟨a, d, vs, e, t, t2, h1, h2, l, r⟩ := h
    exact ⟨a, d, vs, e, (f a _ h1 t).2, (f d _ h2 t2).2, (f a _ h1 t).1, (f d _ h2 t2).1, l, RDs.mono f ds r⟩
theorem RDs.mono (f : Fr H T H' T') : ∀ (ds : List D) {vs : List V}, RDs K H T ds vs → RDs K H' T' ds vs
  | [], _, h => h
  | d :: ds, _, h => by
    obtain ⟨v, r, e, h1, h2⟩ := h
    exact ⟨v, r, e, RD.mono f d h1, RDs.mono f ds h2⟩
end
theorem RDs.length : ∀ {ds : List D} {vs : List V}, RDs K H T ds vs → ds.length = vs.length
  | [], _, h => by
    have h' : _ = [] := h
    rw [h'] <;> rfl
  | d :: ds, _, h => by
    obtain ⟨v, r, e, _, h2⟩ := h
    rw [e, List.length_cons, List.length_cons, RDs.length h2]
theorem RDs.get : ∀ {ds : List D} {vs : List V} {i : Nat} {d : D}, RDs K H T ds vs → ds[i]? = some d → ∃ v, vs[i]? = some v ∧ RD K H T d v
  | [], _, _, _, _, e => by simp at e
  | d :: ds, _, 0, d', h, e => by
    obtain ⟨v, r, rfl, h1, _⟩ := h
    simp at e
    subst e
    exact ⟨v, rfl, h1⟩
  | d :: ds, _, i + 1, d', h, e => by
    obtain ⟨v, r, rfl, _, h2⟩ := h
    obtain ⟨u, e1, e2⟩ := RDs.get (i := i) h2 (by simpa using e)
    exact ⟨u, by simpa using e1, e2⟩
theorem RDs.getV : ∀ {ds : List D} {vs : List V} {i : Nat} {v : V}, RDs K H T ds vs → vs[i]? = some v → ∃ d, ds[i]? = some d ∧ RD K H T d v
  | [], _, _, _, h, e => by
    have h' : _ = [] := h
    subst h'
    simp at e
  | d :: ds, _, 0, v', h, e => by
    obtain ⟨v, r, rfl, h1, _⟩ := h
    simp at e
    subst e
    exact ⟨d, rfl, h1⟩
  | d :: ds, _, i + 1, v', h, e => by
    obtain ⟨v, r, rfl, _, h2⟩ := h
    obtain ⟨u, e1, e2⟩ := RDs.getV (i := i) h2 (by simpa using e)
    exact ⟨u, by simpa using e1, e2⟩
theorem RDs.append : ∀ {ds es : List D} {vs ws : List V}, RDs K H T ds vs → RDs K H T es ws → RDs K H T (ds ++ es) (vs ++ ws)
  | [], _, _, _, h, q => by
    have h' : _ = [] := h
    subst h'
    exact q
  | d :: ds, _, _, _, h, q => by
    obtain ⟨v, r, rfl, h1, h2⟩ := h
    exact ⟨v, r ++ _, rfl, h1, RDs.append h2 q⟩
theorem RDs.set : ∀ {ds : List D} {vs : List V} (i : Nat) {d : D} {v : V}, RDs K H T ds vs → RD K H T d v → RDs K H T (ds.set i d) (vs.set i v)
  | [], _, _, _, _, h, _ => by
    have h' : _ = [] := h
    subst h'
    exact rfl
  | d :: ds, _, 0, _, _, h, q => by
    obtain ⟨v, r, rfl, h1, h2⟩ := h
    exact ⟨_, r, rfl, q, h2⟩
  | d :: ds, _, i + 1, _, _, h, q => by
    obtain ⟨v, r, rfl, h1, h2⟩ := h
    exact ⟨v, _, rfl, h1, RDs.set i h2 q⟩
theorem RDs.of : ∀ {ds : List D} {vs : List V}, ds.length = vs.length → (∀ (i : Nat) d v, ds[i]? = some d → vs[i]? = some v → RD K H T d v) → RDs K H T ds vs
  | [], [], _, _ => rfl
  | [], _ :: _, h, _ => by cases h
  | _ :: _, [], h, _ => by cases h
  | d :: ds, v :: vs, h, q => ⟨v, vs, rfl, q 0 d v rfl rfl, RDs.of (by simpa using h) fun i a b e1 e2 => q (i + 1) a b (by simpa using e1) (by simpa using e2)⟩
theorem RDs.nil : RDs K H T [] [] := rfl
theorem RDs.cons {d : D} {v : V} {ds : List D} {vs : List V} (h : RD K H T d v) (q : RDs K H T ds vs) : RDs K H T (d :: ds) (v :: vs) := ⟨v, vs, rfl, h, q⟩
theorem RDs.take {ds : List D} {vs : List V} (n : Nat) (h : RDs K H T ds vs) : RDs K H T (ds.take n) (vs.take n) := by
  refine RDs.of (by rw [List.length_take, List.length_take, h.length]) fun i d v e1 e2 => ?_
  rw [List.getElem?_take] at e1 e2
  split at e1
  · rename_i c
    rw [if_pos c] at e2
    obtain ⟨u, q1, q2⟩ := h.get e1
    rw [q1] at e2
    cases e2
    exact q2
  · cases e1
theorem RDs.drop {ds : List D} {vs : List V} (n : Nat) (h : RDs K H T ds vs) : RDs K H T (ds.drop n) (vs.drop n) := by
  refine RDs.of (by rw [List.length_drop, List.length_drop, h.length]) fun i d v e1 e2 => ?_
  rw [List.getElem?_drop] at e1 e2
  obtain ⟨u, q1, q2⟩ := h.get e1
  rw [q1] at e2
  cases e2
  exact q2

/-- a tracked object stands as it is told -/
def DObj (K : PySem.W.Frag) (H : Hp) (T : Td) (a : Addr) : DO → Prop
  | .lst ds => ∃ vs, H a = some (.lst vs) ∧ RDs K H T ds vs
  | .dct ks ds => ∃ vs, H a = some (.dK (ks.zip vs)) ∧ ks.length = vs.length ∧ RDs K H T ds vs
  | .ins C ns ds => ∃ dx vs, H a = some (.ins C dx (ns.zip vs)) ∧ T dx = none ∧ H dx = some (.own a) ∧ ns.length = vs.length ∧ RDs K H T ds vs
  | .slo C ds => ∃ dx vs, H a = some (SlX.SlO a C dx vs) ∧ H dx = some (.xd []) ∧ T dx = none ∧ ds.length = vs.length ∧ ∀ (i : Nat) d, ds[i]? = some (some d) → ∃ v, vs[i]? = some (some v) ∧ RD K H T d v
  | .tbl q => ∃ ps : Array Value, H a = some (.tbl ps) ∧ TriplesOk ps.toList ∧ ∀ (pos : Pos) (cv : Value), codeAmong pos ps.toList = some cv → ∃ c, cv = .ref c ∧ H c = some (LamX.CodeO c q) ∧ T c = none
def DOk (K : PySem.W.Frag) (H : Hp) (T : Td) : Prop := ∀ a o, T a = some o → DObj K H T a o
theorem DObj.some {a : Addr} {o : DO} (h : DObj K H T a o) : ∃ u, H a = some u := by
  cases o with
  | lst ds => obtain ⟨_, h, _⟩ := h; exact ⟨_, h⟩
  | dct ks ds => obtain ⟨_, h, _⟩ := h; exact ⟨_, h⟩
  | ins C ns ds => obtain ⟨_, _, h, _⟩ := h; exact ⟨_, h⟩
  | slo C ds => obtain ⟨_, _, h, _⟩ := h; exact ⟨_, h⟩
  | tbl q => obtain ⟨ps, h, _⟩ := h; exact ⟨_, h⟩
theorem DObj.mono (f : Fr H T H' T') {a : Addr} (e : H' a = H a) {o : DO} (h : DObj K H T a o) : DObj K H' T' a o := by
  cases o with
  | lst ds => obtain ⟨vs, h, r⟩ := h; exact ⟨vs, e.trans h, RDs.mono f ds r⟩
  | dct ks ds => obtain ⟨vs, h, l, r⟩ := h; exact ⟨vs, e.trans h, l, RDs.mono f ds r⟩
  | ins C ns ds => obtain ⟨dx, vs, h, t, w, l, r⟩ := h; exact ⟨dx, vs, e.trans h, (f dx _ w t).2, (f dx _ w t).1, l, RDs.mono f ds r⟩
  | slo C ds =>
    obtain ⟨dx, vs, h1, h2, t, l, r⟩ := h
    refine ⟨dx, vs, e.trans h1, (f dx _ h2 t).1, (f dx _ h2 t).2, l, fun i d q => ?_⟩
    obtain ⟨v, q1, q2⟩ := r i d q
    exact ⟨v, q1, RD.mono f d q2⟩
  | tbl q =>
    obtain ⟨ps, h, t, r⟩ := h
    refine ⟨ps, e.trans h, t, fun pos cv z => ?_⟩
    obtain ⟨c, e1, e2, e3⟩ := r pos cv z
    exact ⟨c, e1, f c _ e2 e3⟩
theorem DOk.fresh (h : DOk K H T) {a : Addr} (n : H a = none) : T a = none := by
  cases e : T a with
  | none => rfl
  | some o =>
    obtain ⟨u, q⟩ := (h a o e).some
    rw [n] at q
    cases q
/-- a new object comes, untracked -/
theorem Fr.laid {p : Addr} {o : HO} (h : H p = none) (t : T p = none) : Fr H T (upd H p o) T := fun a u e n => by
  refine ⟨?_, n⟩
  rw [upd_ne (ne_of_none e h)]
  exact e
/-- a new object, untracked: all tracked ones stand -/
theorem DOk.laid (h : DOk K H T) {p : Addr} {o : HO} (n : H p = none) : DOk K (upd H p o) T := fun a u e => by
  refine (h a u e).mono (Fr.laid n (h.fresh n)) ?_
  exact upd_ne fun z => by rw [z, h.fresh n] at e; cases e
/-- a new object, tracked -/
theorem Fr.laidT {p : Addr} {o : HO} {u : DO} (h : H p = none) : Fr H T (upd H p o) (tput T p u) := fun a w e n => by
  have z := ne_of_none e h
  exact ⟨by rw [upd_ne z]; exact e, by rw [tput_ne z]; exact n⟩
theorem DOk.laidT (h : DOk K H T) {p : Addr} {o : HO} {u : DO} (n : H p = none) (w : DObj K (upd H p o) (tput T p u) p u) : DOk K (upd H p o) (tput T p u) := fun a q e => by
  by_cases z : a = p
  · subst z
    rw [tput_same] at e
    cases e
    exact w
  · rw [tput_ne z] at e
    exact (h a q e).mono (Fr.laidT n) (upd_ne z)
/-- a tracked object is written -/
theorem Fr.write {p : Addr} {o : HO} {u v : DO} (h : T p = some v) : Fr H T (upd H p o) (tput T p u) := fun a w e n => by
  have z : a ≠ p := fun z => by rw [z, h] at n; cases n
  exact ⟨by rw [upd_ne z]; exact e, by rw [tput_ne z]; exact n⟩
theorem DOk.write (h : DOk K H T) {p : Addr} {o : HO} {u v : DO} (e0 : T p = some v) (w : DObj K (upd H p o) (tput T p u) p u) : DOk K (upd H p o) (tput T p u) := fun a q e => by
  by_cases z : a = p
  · subst z
    rw [tput_same] at e
    cases e
    exact w
  · rw [tput_ne z] at e
    exact (h a q e).mono (Fr.write e0) (upd_ne z)
/-- a tracked object is let go: it never changes again -/
theorem Fr.free {p : Addr} : Fr H T H (tdel T p) := fun a w e n => by
  refine ⟨e, ?_⟩
  unfold tdel
  split
  · rfl
  · exact n
theorem DOk.free (h : DOk K H T) {p : Addr} : DOk K H (tdel T p) := fun a q e => by
  have z : a ≠ p := fun z => by rw [z, tdel_same] at e; cases e
  rw [tdel_ne z] at e
  exact (h a q e).mono Fr.free rfl

/-! ### slots, readings -/
abbrev SD := List (Option D)
structure StOk (K : PySem.W.Frag) (H : Hp) (T : Td) (sd : SD) (σ : L2.St) : Prop where
  len : sd.length = σ.length
  at_ : ∀ (i : Nat) d, sd[i]? = some (some d) → ∃ v, σ[i]? = some (some v) ∧ RD K H T d v
theorem StOk.mono (f : Fr H T H' T') {sd : SD} {σ : L2.St} (h : StOk K H T sd σ) : StOk K H' T' sd σ :=
  ⟨h.len, fun i d e => let ⟨v, q, r⟩ := h.at_ i d e; ⟨v, q, RD.mono f d r⟩⟩
theorem StOk.set {sd : SD} {σ : L2.St} (h : StOk K H T sd σ) (i : Nat) {d : D} {v : V} (r : RD K H T d v) : StOk K H T (sd.set i (some d)) (σ.set i (some v)) := by
  refine ⟨by rw [List.length_set, List.length_set, h.len], fun j e q => ?_⟩
  by_cases hj : j = i
  · subst hj
    by_cases hl : j < sd.length
    · rw [List.getElem?_set_self hl] at q
      cases q
      exact ⟨v, List.getElem?_set_self (by rw [← h.len]; exact hl), r⟩
    · rw [List.getElem?_eq_none (by simpa using hl)] at q
      cases q
  · rw [List.getElem?_set_ne (Ne.symm hj)] at q ⊢
    exact h.at_ j e q
theorem StOk.none {sd : SD} {σ : L2.St} (h : StOk K H T sd σ) (i : Nat) : StOk K H T (sd.set i none) (σ.set i none) := by
  refine ⟨by rw [List.length_set, List.length_set, h.len], fun j e q => ?_⟩
  by_cases hj : j = i
  · subst hj
    by_cases hl : j < sd.length
    · rw [List.getElem?_set_self hl] at q
      cases q
    · rw [List.getElem?_eq_none (by simpa using hl)] at q
      cases q
  · rw [List.getElem?_set_ne (Ne.symm hj)] at q ⊢
    exact h.at_ j e q
/-- an exception: its class, its fields -/
structure Ex where
  cls : Value
  ns : List Str
  xs : List D
/-- an exception in the air -/
def XR (K : PySem.W.Frag) (H : Hp) (T : Td) (x : Ex) (c : Value) (d : Option Addr) : Prop :=
  c = x.cls ∧ ((d = none ∧ x.ns = []) ∨ ∃ dx vs, d = some dx ∧ T dx = none ∧ H dx = some (.xd (x.ns.zip vs)) ∧ x.ns.length = vs.length ∧ RDs K H T x.xs vs)
theorem XR.mono (f : Fr H T H' T') {x : Ex} {c : Value} {d : Option Addr} (h : XR K H T x c d) : XR K H' T' x c d := by
  obtain ⟨e, h⟩ := h
  refine ⟨e, h.elim .inl fun ⟨dx, vs, e1, t, e2, l, r⟩ => .inr ⟨dx, vs, e1, (f dx _ e2 t).2, (f dx _ e2 t).1, l, RDs.mono f _ r⟩⟩
abbrev KD := D → Td → Prop
abbrev XD := Ex → Td → Prop
abbrev TDE := SD → Td → KD → XD → Prop
abbrev TDT := SD → Td → (Bool → Td → Prop) → XD → Prop
abbrev TDA := SD → Td → (List D → Td → Prop) → XD → Prop
/-- what an expression's reading over data bears -/
structure LE (K : PySem.W.Frag) (W : WX) (σ : L2.St) (H : Hp) (Q : VK) (sd : SD) (T : Td) (QD : KD) (ED : XD) : Prop where
  st : StOk K H T sd σ
  ok : DOk K H T
  q : ∀ x T' v H', QD x T' → RD K H' T' x v → DOk K H' T' → Fr H T H' T' → Q v H'
  x : ∀ ex T' c da H', ED ex T' → XR K H' T' ex c da → DOk K H' T' → Fr H T H' T' → W c da σ H'
structure LT (K : PySem.W.Frag) (W : WX) (σ : L2.St) (H : Hp) (Q : Bool → Hp → Prop) (sd : SD) (T : Td) (QD : Bool → Td → Prop) (ED : XD) : Prop where
  st : StOk K H T sd σ
  ok : DOk K H T
  q : ∀ x T' H', QD x T' → DOk K H' T' → Fr H T H' T' → Q x H'
  x : ∀ ex T' c da H', ED ex T' → XR K H' T' ex c da → DOk K H' T' → Fr H T H' T' → W c da σ H'
structure LA (K : PySem.W.Frag) (W : WX) (σ : L2.St) (H : Hp) (Q : List V → Hp → Prop) (sd : SD) (T : Td) (QD : List D → Td → Prop) (ED : XD) : Prop where
  st : StOk K H T sd σ
  ok : DOk K H T
  q : ∀ x T' v H', QD x T' → RDs K H' T' x v → DOk K H' T' → Fr H T H' T' → Q v H'
  x : ∀ ex T' c da H', ED ex T' → XR K H' T' ex c da → DOk K H' T' → Fr H T H' T' → W c da σ H'
def liftE (K : PySem.W.Frag) (W : WX) (d : TDE) : TE := fun σ H Q => ∃ sd T QD ED, LE K W σ H Q sd T QD ED ∧ d sd T QD ED
def liftT (K : PySem.W.Frag) (W : WX) (d : TDT) : TT := fun σ H Q => ∃ sd T QD ED, LT K W σ H Q sd T QD ED ∧ d sd T QD ED
def liftA (K : PySem.W.Frag) (W : WX) (d : TDA) : TA := fun σ H Q => ∃ sd T QD ED, LA K W σ H Q sd T QD ED ∧ d sd T QD ED
end
/-- what is wanted behind a statement, over data -/
structure DEnds where
  nx : SD → Td → Prop
  rt : KD
  bk : SD → Td → Prop := fun _ _ => False
  ct : SD → Td → Prop := fun _ _ => False
  xe : Ex → SD → Td → Prop
abbrev TDS := DEnds → SD → Td → Prop
structure LS (K : PySem.W.Frag) (W : WX) (De : Ends) (DD : DEnds) (H : Hp) (T : Td) : Prop where
  nx : ∀ sd' T' σ' H', DD.nx sd' T' → StOk K H' T' sd' σ' → DOk K H' T' → Fr H T H' T' → De.nx σ' H'
  rt : ∀ x T' v H', DD.rt x T' → RD K H' T' x v → DOk K H' T' → Fr H T H' T' → De.rt v H'
  bk : ∀ sd' T' σ' H', DD.bk sd' T' → StOk K H' T' sd' σ' → DOk K H' T' → Fr H T H' T' → De.bk σ' H'
  ct : ∀ sd' T' σ' H', DD.ct sd' T' → StOk K H' T' sd' σ' → DOk K H' T' → Fr H T H' T' → De.ct σ' H'
  xe : ∀ ex sd' T' c da σ' H', DD.xe ex sd' T' → XR K H' T' ex c da → StOk K H' T' sd' σ' → DOk K H' T' → Fr H T H' T' → W c da σ' H'
def liftS (K : PySem.W.Frag) (W : WX) (d : TDS) : TS := fun De σ H => ∃ sd T DD, StOk K H T sd σ ∧ DOk K H T ∧ LS K W De DD H T ∧ d DD sd T
section
variable {K : PySem.W.Frag} {W : WX} {σ : L2.St} {H H1 : Hp} {sd : SD} {T T1 : Td} {ED : XD}
theorem LE.go {Q : VK} {QD : KD} (L : LE K W σ H Q sd T QD ED) (o : DOk K H1 T1) (f : Fr H T H1 T1) : LE K W σ H1 Q sd T1 QD ED :=
  ⟨L.st.mono f, o, fun x T' v H' a b c d => L.q x T' v H' a b c (f.trans d), fun ex T' c da H' a b o d => L.x ex T' c da H' a b o (f.trans d)⟩
theorem LT.go {Q : Bool → Hp → Prop} {QD : Bool → Td → Prop} (L : LT K W σ H Q sd T QD ED) (o : DOk K H1 T1) (f : Fr H T H1 T1) : LT K W σ H1 Q sd T1 QD ED :=
  ⟨L.st.mono f, o, fun x T' H' a c d => L.q x T' H' a c (f.trans d), fun ex T' c da H' a b o d => L.x ex T' c da H' a b o (f.trans d)⟩
theorem LA.go {Q : List V → Hp → Prop} {QD : List D → Td → Prop} (L : LA K W σ H Q sd T QD ED) (o : DOk K H1 T1) (f : Fr H T H1 T1) : LA K W σ H1 Q sd T1 QD ED :=
  ⟨L.st.mono f, o, fun x T' v H' a b c d => L.q x T' v H' a b c (f.trans d), fun ex T' c da H' a b o d => L.x ex T' c da H' a b o (f.trans d)⟩
theorem LS.go {De : Ends} {DD : DEnds} (L : LS K W De DD H T) (f : Fr H T H1 T1) : LS K W De DD H1 T1 :=
  ⟨fun a b c d e g h i => L.nx a b c d e g h (f.trans i), fun a b c d e g h i => L.rt a b c d e g h (f.trans i), fun a b c d e g h i => L.bk a b c d e g h (f.trans i), fun a b c d e g h i => L.ct a b c d e g h (f.trans i),
    fun a b c d e g h i j k l m => L.xe a b c d e g h i j k l (f.trans m)⟩
/-- an expression ahead of more: k goes on with what it gives -/
theorem LE.ahead {Q : VK} {QD : KD} {R : V → Hp → Prop} (st : StOk K H T sd σ) (ok : DOk K H T) (kD : D → Td → Prop)
    (hx : ∀ ex T' c da H', ED ex T' → XR K H' T' ex c da → DOk K H' T' → Fr H T H' T' → W c da σ H') (hk : ∀ x T1 v H1, kD x T1 → RD K H1 T1 x v → DOk K H1 T1 → Fr H T H1 T1 → R v H1) : LE K W σ H R sd T kD ED := ⟨st, ok, hk, hx⟩
end

/-! ### judgements -/
def DE (X : Cx) (W : WX) (e : Expr) (d : TDE) : Prop := PE X e (liftE X.K W d)
def DT (X : Cx) (W : WX) (e : Expr) (d : TDT) : Prop := PT X e (liftT X.K W d)
def DWh (X : Cx) (W : WX) (e : Expr) (d : TDT) : Prop := PW X e (liftT X.K W d)
def DA (X : Cx) (W : WX) (es : List Expr) (d : TDA) : Prop := PA X es (liftA X.K W d)
def DS (X : Cx) (W : WX) (st : Stmt) (d : TDS) : Prop := PS X st (liftS X.K W d)
def DSs (X : Cx) (W : WX) (st : List Stmt) (d : TDS) : Prop := PSs X st (liftS X.K W d)
theorem _root_.L2.PE.imp {X : Cx} {e : Expr} {t t' : TE} (h : PE X e t) (i : ∀ σ H Q, t' σ H Q → t σ H Q) : PE X e t' := ⟨fun pins s σ H Q I q => h.run pins s σ H Q I (i σ H Q q)⟩
theorem _root_.L2.PT.imp {X : Cx} {e : Expr} {t t' : TT} (h : PT X e t) (i : ∀ σ H Q, t' σ H Q → t σ H Q) : PT X e t' := ⟨fun pins s σ H Q I q => h.run pins s σ H Q I (i σ H Q q)⟩
theorem _root_.L2.PW.imp {X : Cx} {e : Expr} {t t' : TT} (h : PW X e t) (i : ∀ σ H Q, t' σ H Q → t σ H Q) : PW X e t' := ⟨fun w pins s σ H Q I q => h.run w pins s σ H Q I (i σ H Q q)⟩
theorem _root_.L2.PA.imp {X : Cx} {e : List Expr} {t t' : TA} (h : PA X e t) (i : ∀ σ H Q, t' σ H Q → t σ H Q) : PA X e t' := ⟨fun pos pins s σ H Q I q => h.run pos pins s σ H Q I (i σ H Q q)⟩
theorem _root_.L2.PS.imp {X : Cx} {e : Stmt} {t t' : TS} (h : PS X e t) (i : ∀ D σ H, t' D σ H → t D σ H) : PS X e t' := ⟨fun pins s σ H Q I q => h.run pins s σ H Q I (i Q σ H q)⟩
theorem _root_.L2.PSs.imp {X : Cx} {e : List Stmt} {t t' : TS} (h : PSs X e t) (i : ∀ D σ H, t' D σ H → t D σ H) : PSs X e t' := ⟨fun pins s σ H Q I q => h.run pins s σ H Q I (i Q σ H q)⟩
end DL
namespace DL
open PySem PySem.Spec PyProof.Rows L2
section
variable {X : Cx} {W : WX} {pins : List (Addr × Obj)} {s : Shared} {σ : L2.St} {H : Hp} {sd : SD} {T : Td} {ED : XD}
/-- behind an expression -/
structure Bh (X : Cx) (pins : List (Addr × Obj)) (σ : L2.St) (H : Hp) (T : Td) (kD : KD) (v : Value) (s1 : Shared) (x : D) (vx : V) (H1 : Hp) (T1 : Td) : Prop where
  I : Inv X pins σ H1 s1
  rd : RD X.K H1 T1 x vx
  rv : RelV vx v
  ok : DOk X.K H1 T1
  fr : Fr H T H1 T1
  k : kD x T1
abbrev EXok (X : Cx) (W : WX) (σ : L2.St) (H : Hp) (T : Td) (ED : XD) : Prop := ∀ ex T' c da H', ED ex T' → XR X.K H' T' ex c da → DOk X.K H' T' → Fr H T H' T' → W c da σ H'
theorem EXok.go {H1 : Hp} {T1 : Td} (h : EXok X W σ H T ED) (f : Fr H T H1 T1) : EXok X W σ H1 T1 ED := fun a b c d e g h' i j => h a b c d e g h' i (f.trans j)
theorem DE.one {a : Expr} {ta : TDE} {kD : KD} (ha : DE X W a ta) (I : Inv X pins σ H s) (st : StOk X.K H T sd σ) (ok : DOk X.K H T) (hx : EXok X W σ H T ED) (h : ta sd T kD ED) :
    wpAny (model X.prog X.w) X.A (eval a X.env) (fun v s1 => ∃ x vx H1 T1, Bh X pins σ H T kD v s1 x vx H1 T1) X.xe s := by
  refine thn (PE.run ha pins s σ H (fun vx H1 => ∃ x T1, RD X.K H1 T1 x vx ∧ DOk X.K H1 T1 ∧ Fr H T H1 T1 ∧ kD x T1) I ⟨sd, T, kD, ED, ⟨st, ok, fun x T1 v H1 a b c d => ⟨x, T1, b, c, d, a⟩, hx⟩, h⟩) ?_
  rintro v s1 ⟨vx, H1, I1, r, x, T1, b, c, d, a⟩
  exact ⟨x, vx, H1, T1, I1, b, r, c, d, a⟩
theorem DT.one {a : Expr} {ta : TDT} {kD : Bool → Td → Prop} (ha : DT X W a ta) (I : Inv X pins σ H s) (st : StOk X.K H T sd σ) (ok : DOk X.K H T) (hx : EXok X W σ H T ED) (h : ta sd T kD ED) :
    wpAny (model X.prog X.w) X.A (isTrue a X.env (eval a X.env)) (fun b s1 => ∃ H1 T1, Inv X pins σ H1 s1 ∧ DOk X.K H1 T1 ∧ Fr H T H1 T1 ∧ kD b T1) X.xe s := by
  refine thn (PT.run ha pins s σ H (fun b H1 => ∃ T1, DOk X.K H1 T1 ∧ Fr H T H1 T1 ∧ kD b T1) I ⟨sd, T, kD, ED, ⟨st, ok, fun x T1 H1 a c d => ⟨T1, c, d, a⟩, hx⟩, h⟩) ?_
  rintro b s1 ⟨H1, I1, T1, c, d, a⟩
  exact ⟨H1, T1, I1, c, d, a⟩
theorem DWh.one {a : Expr} {ta : TDT} {kD : Bool → Td → Prop} (ha : DWh X W a ta) (I : Inv X pins σ H s) (st : StOk X.K H T sd σ) (ok : DOk X.K H T) (hx : EXok X W σ H T ED) (h : ta sd T kD ED) (w : Sem Value) :
    wpAny (model X.prog X.w) X.A (isTrue a X.env w) (fun b s1 => ∃ H1 T1, Inv X pins σ H1 s1 ∧ DOk X.K H1 T1 ∧ Fr H T H1 T1 ∧ kD b T1) X.xe s := by
  refine thn (PW.run ha w pins s σ H (fun b H1 => ∃ T1, DOk X.K H1 T1 ∧ Fr H T H1 T1 ∧ kD b T1) I ⟨sd, T, kD, ED, ⟨st, ok, fun x T1 H1 a c d => ⟨T1, c, d, a⟩, hx⟩, h⟩) ?_
  rintro b s1 ⟨H1, I1, T1, c, d, a⟩
  exact ⟨H1, T1, I1, c, d, a⟩
structure Bhs (X : Cx) (pins : List (Addr × Obj)) (σ : L2.St) (H : Hp) (T : Td) (kD : List D → Td → Prop) (us : List Value) (s1 : Shared) (xs : List D) (vs : List V) (H1 : Hp) (T1 : Td) : Prop where
  I : Inv X pins σ H1 s1
  rd : RDs X.K H1 T1 xs vs
  rv : Vals vs us
  ok : DOk X.K H1 T1
  fr : Fr H T H1 T1
  k : kD xs T1
theorem DA.one {es : List Expr} {ta : TDA} {kD : List D → Td → Prop} (ha : DA X W es ta) (I : Inv X pins σ H s) (st : StOk X.K H T sd σ) (ok : DOk X.K H T) (hx : EXok X W σ H T ED) (h : ta sd T kD ED) (pos : Pos) :
    wpAny (model X.prog X.w) X.A (spliced (backTo pos (starEach es X.env))) (fun us s1 => ∃ xs vs H1 T1, Bhs X pins σ H T kD us s1 xs vs H1 T1) X.xe s := by
  refine thn (PA.run ha pos pins s σ H (fun vs H1 => ∃ xs T1, RDs X.K H1 T1 xs vs ∧ DOk X.K H1 T1 ∧ Fr H T H1 T1 ∧ kD xs T1) I ⟨sd, T, kD, ED, ⟨st, ok, fun x T1 v H1 a b c d => ⟨x, T1, b, c, d, a⟩, hx⟩, h⟩) ?_
  rintro v s1 ⟨vx, H1, I1, r, x, T1, b, c, d, a⟩
  exact ⟨x, vx, H1, T1, I1, b, r, c, d, a⟩
/-- an expression's rule by what it does to any state -/
theorem DE.mk {e : Expr} {d : TDE} (h : ∀ pins s σ H Q sd T QD ED, Inv X pins σ H s → LE X.K W σ H Q sd T QD ED → d sd T QD ED → wpAny (model X.prog X.w) X.A (eval e X.env) (EP X pins σ Q) X.xe s) : DE X W e d :=
  ⟨fun pins s σ H Q I ⟨sd, T, QD, ED, L, q⟩ => h pins s σ H Q sd T QD ED I L q⟩
theorem DT.mk {e : Expr} {d : TDT} (h : ∀ pins s σ H Q sd T QD ED, Inv X pins σ H s → LT X.K W σ H Q sd T QD ED → d sd T QD ED → wpAny (model X.prog X.w) X.A (isTrue e X.env (eval e X.env)) (TP X pins σ Q) X.xe s) : DT X W e d :=
  ⟨fun pins s σ H Q I ⟨sd, T, QD, ED, L, q⟩ => h pins s σ H Q sd T QD ED I L q⟩
theorem DWh.mk {e : Expr} {d : TDT} (h : ∀ w pins s σ H Q sd T QD ED, Inv X pins σ H s → LT X.K W σ H Q sd T QD ED → d sd T QD ED → wpAny (model X.prog X.w) X.A (isTrue e X.env w) (TP X pins σ Q) X.xe s) : DWh X W e d :=
  ⟨fun w pins s σ H Q I ⟨sd, T, QD, ED, L, q⟩ => h w pins s σ H Q sd T QD ED I L q⟩
theorem DS.mk {e : Stmt} {d : TDS} (h : ∀ pins s σ H De sd T DD, Inv X pins σ H s → StOk X.K H T sd σ → DOk X.K H T → LS X.K W De DD H T → d DD sd T → wpAny (model X.prog X.w) X.A (exec e X.env) (SP X pins De) X.xe s) : DS X W e d :=
  ⟨fun pins s σ H De I ⟨sd, T, DD, st, ok, L, q⟩ => h pins s σ H De sd T DD I st ok L q⟩
theorem LE.ep {Q : VK} {QD : KD} (L : LE X.K W σ H Q sd T QD ED) {x : D} {vx : V} {v : Value} {H1 : Hp} {T1 : Td} {s1 : Shared} (I : Inv X pins σ H1 s1) (r : RD X.K H1 T1 x vx) (rv : RelV vx v) (o : DOk X.K H1 T1) (f : Fr H T H1 T1) (q : QD x T1) : EP X pins σ Q v s1 :=
  ⟨vx, H1, I, rv, L.q x T1 vx H1 q r o f⟩
/-- here, nothing changed -/
theorem LE.here {Q : VK} {QD : KD} (L : LE X.K W σ H Q sd T QD ED) {x : D} {vx : V} {v : Value} {s1 : Shared} (I : Inv X pins σ H s1) (r : RD X.K H T x vx) (rv : RelV vx v) (q : QD x T) : EP X pins σ Q v s1 := L.ep I r rv L.ok Fr.refl q
theorem LT.tp {Q : Bool → Hp → Prop} {QD : Bool → Td → Prop} (L : LT X.K W σ H Q sd T QD ED) {b : Bool} {H1 : Hp} {T1 : Td} {s1 : Shared} (I : Inv X pins σ H1 s1) (o : DOk X.K H1 T1) (f : Fr H T H1 T1) (q : QD b T1) : TP X pins σ Q b s1 :=
  ⟨H1, I, L.q b T1 H1 q o f⟩
theorem LS.exok {De : Ends} {DD : DEnds} (L : LS X.K W De DD H T) (st : StOk X.K H T sd σ) : EXok X W σ H T (fun ex T' => DD.xe ex sd T') := fun ex T' c da H' a b o f => L.xe ex sd T' c da σ H' a b (st.mono f) o f
end

/-! ### names, constants -/
section
variable {X : Cx} {W : WX} {pos : Pos}
def dVar (i : Nat) : TDE := fun sd T Q _ => match sd[i]? with
  | some (some d) => Q d T
  | _ => False
theorem de_var {i : Nat} {x : Str} (hN : X.N[i]? = some x) (hv : Vis X.env.scope x) (hd : (x == ("__debug__" : Str)) = false := by decide) (hcd : (x == ("__classdict__" : Str)) = false := by decide) : DE X W (.Name x pos) (dVar i) := by
  refine PE.imp (pe_var hN hv hd hcd) ?_
  rintro σ H Q ⟨sd, T, QD, ED, L, h⟩
  unfold dVar at h
  split at h
  · rename_i d e
    obtain ⟨v, q, r⟩ := L.st.at_ i d e
    exact ⟨v, q, L.q d T v H h r L.ok Fr.refl⟩
  · exact h.elim
def dC (d : D) : TDE := fun _ T Q _ => Q d T
theorem de_c {e : Expr} {v : V} {d : D} (h : PE X e (tC v)) (r : ∀ H T, RD X.K H T d v) : DE X W e (dC d) := PE.imp h fun σ H Q ⟨sd, T, QD, ED, L, q⟩ => L.q d T v H q (r H T) L.ok Fr.refl
theorem de_int {i j} : DE X W (.Constant (.int i) j pos) (dC (.int i)) := de_c pe_int fun _ _ => rfl
theorem de_bl {b j} : DE X W (.Constant (.bool b) j pos) (dC (.bl b)) := de_c pe_bl fun _ _ => rfl
theorem de_non {j} : DE X W (.Constant .none j pos) (dC .non) := de_c pe_non fun _ _ => rfl
theorem de_str {x j} : DE X W (.Constant (.str x) j pos) (dC (.str x)) := de_c pe_str fun _ _ => rfl
end

/-! ### operators -/
abbrev R1D := D → Td → KD → XD → Prop
abbrev R2D := D → D → Td → KD → XD → Prop
def UnD (X : Cx) (W : WX) (f : Value → Sem Value) (r : R1D) : Prop :=
  ∀ pins s σ H Q sd T QD ED (x : D) (vx : V) (v : Value), Inv X pins σ H s → LE X.K W σ H Q sd T QD ED → RD X.K H T x vx → RelV vx v → r x T QD ED → wpAny (model X.prog X.w) X.A (f v) (EP X pins σ Q) X.xe s
def OpD (X : Cx) (W : WX) (f : Value → Value → Sem Value) (r : R2D) : Prop :=
  ∀ pins s σ H Q sd T QD ED (x y : D) (vx vy : V) (v u : Value), Inv X pins σ H s → LE X.K W σ H Q sd T QD ED → RD X.K H T x vx → RelV vx v → RD X.K H T y vy → RelV vy u → r x y T QD ED →
    wpAny (model X.prog X.w) X.A (f v u) (EP X pins σ Q) X.xe s
theorem OpD.or {X : Cx} {W : WX} {f : Value → Value → Sem Value} {r r' : R2D} (h : OpD X W f r) (h' : OpD X W f r') : OpD X W f (fun x y T Q E => r x y T Q E ∨ r' x y T Q E) :=
  fun pins s σ H Q sd T QD ED x y vx vy v u I L r1 r2 r3 r4 q => q.elim (h pins s σ H Q sd T QD ED x y vx vy v u I L r1 r2 r3 r4) (h' pins s σ H Q sd T QD ED x y vx vy v u I L r1 r2 r3 r4)
/-- from a rule over values -/
theorem OpD.of {X : Cx} {W : WX} {f : Value → Value → Sem Value} {r0 : R2} {r : R2D} (h : OpR X f r0)
    (i : ∀ σ H Q sd T QD ED x y vx vy, LE X.K W σ H Q sd T QD ED → RD X.K H T x vx → RD X.K H T y vy → r x y T QD ED → r0 vx vy H Q) : OpD X W f r :=
  fun pins s σ H Q sd T QD ED x y vx vy v u I L r1 r2 r3 r4 q => h pins s σ H vx vy v u Q I r2 r4 (i σ H Q sd T QD ED x y vx vy L r1 r3 q)
theorem UnD.of {X : Cx} {W : WX} {f : Value → Sem Value} {r0 : V → Hp → VK → Prop} {r : R1D} (h : UnR X f r0)
    (i : ∀ σ H Q sd T QD ED x vx, LE X.K W σ H Q sd T QD ED → RD X.K H T x vx → r x T QD ED → r0 vx H Q) : UnD X W f r :=
  fun pins s σ H Q sd T QD ED x vx v I L r1 r2 q => h pins s σ H vx v Q I r2 (i σ H Q sd T QD ED x vx L r1 q)
/-- an operator's reading, closed to unfolding -/
structure O1 (r : R1D) (x : D) (T : Td) (Q : KD) (E : XD) : Prop where
  h : r x T Q E
structure O2 (r : R2D) (x y : D) (T : Td) (Q : KD) (E : XD) : Prop where
  h : r x y T Q E
def dUn (r : R1D) (ta : TDE) : TDE := fun sd T Q E => ta sd T (fun x T1 => O1 r x T1 Q E) E
def dBin (r : R2D) (ta tb : TDE) : TDE := fun sd T Q E => ta sd T (fun x T1 => tb sd T1 (fun y T2 => O2 r x y T2 Q E) E) E
section
variable {X : Cx} {W : WX} {a b c : Expr} {ta tb tc : TDE} {pos : Pos} {r r' : R2D}
theorem DE.two (ha : DE X W a ta) (hb : DE X W b tb) {pins : List (Addr × Obj)} {s : Shared} {σ : L2.St} {H : Hp} {Q : VK} {sd : SD} {T : Td} {QD : KD} {ED : XD} {k : D → D → Td → Prop} (I : Inv X pins σ H s) (L : LE X.K W σ H Q sd T QD ED)
    (h : ta sd T (fun x T1 => tb sd T1 (fun y T2 => k x y T2) ED) ED) {P : Value → Shared → Prop} {f : Value → Value → Sem Value}
    (hf : ∀ x y vx vy v u s2 H2 T2, Inv X pins σ H2 s2 → LE X.K W σ H2 Q sd T2 QD ED → RD X.K H2 T2 x vx → RelV vx v → RD X.K H2 T2 y vy → RelV vy u → k x y T2 → wpAny (model X.prog X.w) X.A (f v u) P X.xe s2) :
    wpAny (model X.prog X.w) X.A (eval a X.env) (fun v s₁ => wpAny (model X.prog X.w) X.A (eval b X.env) (fun u s₂ => wpAny (model X.prog X.w) X.A (f v u) P X.xe s₂) X.xe s₁) X.xe s := by
  refine thn (ha.one I L.st L.ok L.x h) ?_
  rintro v s1 ⟨x, vx, H1, T1, B⟩
  refine thn (hb.one B.I (L.st.mono B.fr) B.ok (EXok.go L.x B.fr) B.k) ?_
  rintro u s2 ⟨y, vy, H2, T2, C⟩
  exact hf x y vx vy v u s2 H2 T2 C.I (L.go C.ok (B.fr.trans C.fr)) (RD.mono C.fr x B.rd) B.rv C.rd C.rv C.k
theorem de_op {op : Operator} (ho : OpD X W (binaryOp op) r) (ha : DE X W a ta) (hb : DE X W b tb) : DE X W (.BinOp a op b pos) (dBin r ta tb) :=
  DE.mk fun pins s σ H Q sd T QD ED I L h => wpAny_BinOp (ha.two hb I L h fun x y vx vy v u s2 H2 T2 I2 L2 r1 r2 r3 r4 q => ho pins s2 σ H2 Q sd T2 QD ED x y vx vy v u I2 L2 r1 r2 r3 r4 q.h)
theorem de_un {op : UnaryOp} {r : R1D} (ho : UnD X W (unaryOp op) r) (ha : DE X W a ta) : DE X W (.UnaryOp op a pos) (dUn r ta) :=
  DE.mk fun pins s σ H Q sd T QD ED I L h => UnaryOp_ (thn (ha.one I L.st L.ok L.x h) fun v s1 ⟨x, vx, H1, T1, B⟩ => ho pins s1 σ H1 Q sd T1 QD ED x vx v B.I (L.go B.ok B.fr) B.rd B.rv B.k.h)
theorem de_cmp {op : CmpOp} (ho : OpD X W (compareOp op) r) (ha : DE X W a ta) (hb : DE X W b tb) (hm : behindInMarks op b = false) : DE X W (.Compare a [op] [b] pos) (dBin r ta tb) :=
  DE.mk fun pins s σ H Q sd T QD ED I L h => wpAny_Compare1 (ha.two hb I L h fun x y vx vy v u s2 H2 T2 I2 L2 r1 r2 r3 r4 q => ho pins s2 σ H2 Q sd T2 QD ED x y vx vy v u I2 L2 r1 r2 r3 r4 q.h) hm

/-- a test by a value -/
def truD : D → Option Bool
  | .bl b => some b
  | .non => some false
  | .int i => some (i != 0)
  | .lst xs => some (!xs.isEmpty)
  | .tup xs => some (!xs.isEmpty)
  | _ => none
def dTst (t : TDE) : TDT := fun sd T Q E => t sd T (fun x T1 => match x with | .bl b => Q b T1 | _ => False) E
theorem dt_val {e : Expr} {t : TDE} (h : DE X W e t) (he : ∀ whole, isTrue e X.env whole = (do let v ← whole; standAt e.pos; holding [v] (truthy v)) := by intro _; rfl) : DT X W e (dTst t) :=
  DT.mk fun pins s σ H Q sd T QD ED I L q => isTrue_plain (thn (h.one I L.st L.ok L.x q) fun v s1 ⟨x, vx, H1, T1, B⟩ => by
    obtain ⟨I1, rd, rv, ok, fr, k⟩ := B
    cases x <;> try exact k.elim
    rename_i b
    have rd' : vx = .bl b := rd
    subst rd'
    obtain rfl : v = Value.bool b := rv
    exact wpAny_truthy_bool (L.tp I1 ok fr k)) (he _)
theorem dt_cmp {op : CmpOp} (ho : OpD X W (compareOp op) r) (ha : DE X W a ta) (hb : DE X W b tb) (hm : behindInMarks op b = false) : DT X W (.Compare a [op] [b] pos) (dTst (dBin r ta tb)) :=
  DT.mk fun pins s σ H Q sd T QD ED I L h => by
    have key : ∀ (x : D) (v : Value) (vx : V) H1 T1 s1, Inv X pins σ H1 s1 → RD X.K H1 T1 x vx → RelV vx v → DOk X.K H1 T1 → Fr H T H1 T1 → (match x with | .bl b => QD b T1 | _ => False) → wpAny (model X.prog X.w) X.A (truthy v) (TP X pins σ Q) X.xe s1 := by
      intro x v vx H1 T1 s1 I1 rd rv ok fr k
      cases x <;> try exact k.elim
      rename_i b
      have rd' : vx = .bl b := rd
      subst rd'
      obtain rfl : v = Value.bool b := rv
      exact wpAny_truthy_bool (L.tp I1 ok fr k)
    refine wpAny_isTrue_Compare1 (ha.two hb (Q := fun vx H1 => ∃ x T1, RD X.K H1 T1 x vx ∧ DOk X.K H1 T1 ∧ Fr H T H1 T1 ∧ (match x with | .bl b => QD b T1 | _ => False)) (QD := fun x T1 => match x with | .bl b => QD b T1 | _ => False) I
      ⟨L.st, L.ok, fun x T1 v H1 a b c d => ⟨x, T1, b, c, d, a⟩, L.x⟩ h fun x y vx vy v u s2 H2 T2 I2 L2 r1 r2 r3 r4 q => ?_) hm
    refine thn (ho pins s2 σ H2 _ sd T2 _ ED x y vx vy v u I2 L2 r1 r2 r3 r4 q.h) ?_
    rintro c s3 ⟨vc, H3, I3, r3, x3, T3, b, c3, d, a⟩
    exact key x3 c vc H3 T3 s3 I3 b r3 c3 d a
/-- a < b < c -/
def dChain (r r' : R2D) (ta tb tc : TDE) : TDE := fun sd T Q E => ta sd T (fun x T1 => tb sd T1 (fun y T2 => O2 r x y T2 (fun z T3 => match z with
  | .bl true => tc sd T3 (fun w T4 => O2 r' y w T4 Q E) E
  | .bl false => Q (.bl false) T3
  | _ => False) E) E) E
end

/-! ### and, or, not, if else -/
section
variable {X : Cx} {W : WX} {a b : Expr} {tA tB : TDT} {ta tb : TDE} {rest : List Expr} {pos : Pos}
/-- by a test -/
inductive IfP (c : Bool) (A B : Prop) : Prop where
  | t (h : c = true) (a : A) : IfP c A B
  | f (h : c = false) (b : B) : IfP c A B
theorem IfP.yes {c : Bool} {A B : Prop} (h : IfP c A B) (z : c = true) : A := by
  cases h with
  | t _ a => exact a
  | f h _ => rw [h] at z; cases z
theorem IfP.no {c : Bool} {A B : Prop} (h : IfP c A B) (z : ¬ c = true) : B := by
  cases h with
  | t h _ => exact absurd h z
  | f _ b => exact b
theorem IfP.by {c : Bool} {A B : Prop} (h1 : c = true → A) (h2 : c = false → B) : IfP c A B := by
  cases c
  · exact .f rfl (h2 rfl)
  · exact .t rfl (h1 rfl)
def dAnd (t u : TDT) : TDT := fun sd T Q E => t sd T (fun c T1 => IfP c (u sd T1 Q E) (Q false T1)) E
def dOr (t u : TDT) : TDT := fun sd T Q E => t sd T (fun c T1 => IfP c (Q true T1) (u sd T1 Q E)) E
def dNot (t : TDT) : TDT := fun sd T Q E => t sd T (fun c T1 => Q (!c) T1) E
theorem DWh.dt (h : DWh X W a tA) : DT X W a tA := PW.pt h
theorem dw_and1 (ha : DT X W a tA) : DWh X W (.BoolOp .And [a] pos) tA := pw_and1 ha
theorem dw_or1 (ha : DT X W a tA) : DWh X W (.BoolOp .Or [a] pos) tA := pw_or1 ha
theorem dw_and (ha : DT X W a tA) (hb : DWh X W (.BoolOp .And (b :: rest) pos) tB) : DWh X W (.BoolOp .And (a :: b :: rest) pos) (dAnd tA tB) :=
  PW.imp (pw_and ha hb) fun σ H Q ⟨sd, T, QD, ED, L, q⟩ => ⟨sd, T, _, ED, ⟨L.st, L.ok, fun c T1 H1 k o f => by
    by_cases z : c = true
    · rw [if_pos z]
      replace k := k.yes z
      exact ⟨sd, T1, QD, ED, L.go o f, k⟩
    · rw [if_neg z]
      replace k := k.no z
      exact L.q _ _ _ k o f, L.x⟩, q⟩
theorem dw_or (ha : DT X W a tA) (hb : DWh X W (.BoolOp .Or (b :: rest) pos) tB) : DWh X W (.BoolOp .Or (a :: b :: rest) pos) (dOr tA tB) :=
  PW.imp (pw_or ha hb) fun σ H Q ⟨sd, T, QD, ED, L, q⟩ => ⟨sd, T, _, ED, ⟨L.st, L.ok, fun c T1 H1 k o f => by
    by_cases z : c = true
    · rw [if_pos z]
      replace k := k.yes z
      exact L.q _ _ _ k o f
    · rw [if_neg z]
      replace k := k.no z
      exact ⟨sd, T1, QD, ED, L.go o f, k⟩, L.x⟩, q⟩
theorem dt_not (ha : DT X W a tA) : DT X W (.UnaryOp .Not a pos) (dNot tA) :=
  PT.imp (pt_not ha) fun σ H Q ⟨sd, T, QD, ED, L, q⟩ => ⟨sd, T, _, ED, ⟨L.st, L.ok, fun c T1 H1 k o f => L.q _ _ _ k o f, L.x⟩, q⟩
/-- as values, all of them bools -/
def dAndV (ta tb : TDE) : TDE := fun sd T Q E => ta sd T (fun x T1 => match x with
  | .bl true => tb sd T1 Q E
  | .bl false => Q (.bl false) T1
  | _ => False) E
def dOrV (ta tb : TDE) : TDE := fun sd T Q E => ta sd T (fun x T1 => match x with
  | .bl true => Q (.bl true) T1
  | .bl false => tb sd T1 Q E
  | _ => False) E
def dNotV (ta : TDE) : TDE := fun sd T Q E => ta sd T (fun x T1 => match x with
  | .bl b => Q (.bl (!b)) T1
  | _ => False) E
theorem de_one {op} (ha : DE X W a ta) : DE X W (.BoolOp op [a] pos) ta := pe_one ha
theorem de_and (ha : DE X W a ta) (hb : DE X W (.BoolOp .And (b :: rest) pos) tb) : DE X W (.BoolOp .And (a :: b :: rest) pos) (dAndV ta tb) :=
  PE.imp (pe_and ha hb) fun σ H Q ⟨sd, T, QD, ED, L, q⟩ => ⟨sd, T, _, ED, ⟨L.st, L.ok, fun x T1 v H1 k r o f => by
    cases x <;> try exact k.elim
    rename_i c
    refine ⟨c, r, ?_⟩
    cases c with
    | true => exact ⟨sd, T1, QD, ED, L.go o f, k⟩
    | false => exact L.q (.bl false) _ _ _ k rfl o f, L.x⟩, q⟩
theorem de_or (ha : DE X W a ta) (hb : DE X W (.BoolOp .Or (b :: rest) pos) tb) : DE X W (.BoolOp .Or (a :: b :: rest) pos) (dOrV ta tb) :=
  PE.imp (pe_or ha hb) fun σ H Q ⟨sd, T, QD, ED, L, q⟩ => ⟨sd, T, _, ED, ⟨L.st, L.ok, fun x T1 v H1 k r o f => by
    cases x <;> try exact k.elim
    rename_i c
    refine ⟨c, r, ?_⟩
    cases c with
    | true => exact L.q (.bl true) _ _ _ k rfl o f
    | false => exact ⟨sd, T1, QD, ED, L.go o f, k⟩, L.x⟩, q⟩
theorem de_not (ha : DE X W a ta) : DE X W (.UnaryOp .Not a pos) (dNotV ta) :=
  PE.imp (pe_not ha) fun σ H Q ⟨sd, T, QD, ED, L, q⟩ => ⟨sd, T, _, ED, ⟨L.st, L.ok, fun x T1 v H1 k r o f => by
    cases x <;> try exact k.elim
    rename_i c
    exact ⟨c, r, L.q (.bl (!c)) _ _ _ k rfl o f⟩, L.x⟩, q⟩
def dIf (t : TDT) (ta tb : TDE) : TDE := fun sd T Q E => t sd T (fun c T1 => IfP c (ta sd T1 Q E) (tb sd T1 Q E)) E
theorem de_ifExp {c : Expr} (hc : DT X W c tA) (ha : DE X W a ta) (hb : DE X W b tb) : DE X W (.IfExp c a b pos) (dIf tA ta tb) :=
  PE.imp (pe_ifExp hc ha hb) fun σ H Q ⟨sd, T, QD, ED, L, q⟩ => ⟨sd, T, _, ED, ⟨L.st, L.ok, fun c T1 H1 k o f => by
    by_cases z : c = true
    · rw [if_pos z]
      replace k := k.yes z
      exact ⟨sd, T1, QD, ED, L.go o f, k⟩
    · rw [if_neg z]
      replace k := k.no z
      exact ⟨sd, T1, QD, ED, L.go o f, k⟩, L.x⟩, q⟩
end

/-! ### argument lists, displays -/
section
variable {X : Cx} {W : WX} {e : Expr} {es : List Expr} {te : TDE} {t : TDA} {pos : Pos}
def dNil : TDA := fun _ T Q _ => Q [] T
def dCons (ta : TDE) (tr : TDA) : TDA := fun sd T Q E => ta sd T (fun x T1 => tr sd T1 (fun xs T2 => Q (x :: xs) T2) E) E
theorem da_nil : DA X W [] dNil := PA.imp pa_nil fun σ H Q ⟨sd, T, QD, ED, L, q⟩ => L.q [] T [] H q rfl L.ok Fr.refl
theorem da_cons (ha : DE X W e te) (hr : DA X W es t) (hs : starEach (e :: es) X.env = (false, eval e X.env) :: starEach es X.env := by rfl) : DA X W (e :: es) (dCons te t) :=
  PA.imp (pa_cons ha hr hs) fun σ H Q ⟨sd, T, QD, ED, L, q⟩ => ⟨sd, T, _, ED, ⟨L.st, L.ok, fun x T1 v H1 k r o f => ⟨sd, T1, _, ED, ⟨L.st.mono f, o, fun xs T2 vs H2 k2 r2 o2 f2 =>
    L.q (x :: xs) T2 (v :: vs) H2 k2 (RDs.cons (RD.mono f2 x r) r2) o2 (f.trans f2), EXok.go L.x f⟩, k⟩, L.x⟩, q⟩
def dTup (t : TDA) : TDE := fun sd T Q E => t sd T (fun xs T1 => xs.length ≤ sizeLine ∧ Q (.tup xs) T1) E
theorem de_tup {x1} (h : DA X W es t) : DE X W (.Tuple es x1 pos) (dTup t) :=
  PE.imp (pe_tup h) fun σ H Q ⟨sd, T, QD, ED, L, q⟩ => ⟨sd, T, _, ED, ⟨L.st, L.ok, fun xs T1 vs H1 k r o f => ⟨by rw [← r.length]; exact k.1, fun p hp =>
    L.q (.tup xs) T1 (.ref p) _ k.2 ⟨p, vs, rfl, .inl ⟨o.fresh hp, .inl upd_same⟩, RDs.mono (Fr.laid hp (o.fresh hp)) xs r⟩ (o.laid hp) (f.trans (Fr.laid hp (o.fresh hp)))⟩, L.x⟩, q⟩
/-- a list that never changes -/
def dLst (t : TDA) : TDE := fun sd T Q E => t sd T (fun xs T1 => xs.length ≤ sizeLine ∧ Q (.lst xs) T1) E
theorem de_lst (h : DA X W es t) : DE X W (.List es pos) (dLst t) :=
  PE.imp (pe_lst h) fun σ H Q ⟨sd, T, QD, ED, L, q⟩ => ⟨sd, T, _, ED, ⟨L.st, L.ok, fun xs T1 vs H1 k r o f => ⟨by rw [← r.length]; exact k.1, fun p hp =>
    L.q (.lst xs) T1 (.ref p) _ k.2 ⟨p, vs, rfl, .inl ⟨o.fresh hp, .inl upd_same⟩, RDs.mono (Fr.laid hp (o.fresh hp)) xs r⟩ (o.laid hp) (f.trans (Fr.laid hp (o.fresh hp)))⟩, L.x⟩, q⟩
/-- a list that may change -/
def dLstM (t : TDA) : TDE := fun sd T Q E => t sd T (fun xs T1 => xs.length ≤ sizeLine ∧ ∀ p, T1 p = none → Q (.ref p) (tput T1 p (.lst xs))) E
theorem de_lstM (h : DA X W es t) : DE X W (.List es pos) (dLstM t) :=
  PE.imp (pe_lst h) fun σ H Q ⟨sd, T, QD, ED, L, q⟩ => ⟨sd, T, _, ED, ⟨L.st, L.ok, fun xs T1 vs H1 k r o f => ⟨by rw [← r.length]; exact k.1, fun p hp =>
    L.q (.ref p) _ (.ref p) _ (k.2 p (o.fresh hp)) rfl (o.laidT hp (show DObj X.K _ _ p (.lst xs) from ⟨vs, upd_same, RDs.mono (Fr.laidT hp) xs r⟩)) (f.trans (Fr.laidT hp))⟩, L.x⟩, q⟩
end

/-! ### statements -/
section
variable {X : Cx} {W : WX} {st : Stmt} {rest : List Stmt} {t u : TDS} {e : Expr} {te : TDE} {pos : Pos}
def dNext : TDS := fun D sd T => D.nx sd T
def dSeq (t u : TDS) : TDS := fun D sd T => t { D with nx := u D } sd T
theorem dss_nil : DSs X W [] dNext := PSs.imp pss_nil fun De σ H ⟨sd, T, DD, st, ok, L, q⟩ => L.nx sd T σ H q st ok Fr.refl
theorem LS.seq {K : PySem.W.Frag} {W : WX} {De : Ends} {DD : DEnds} {H : Hp} {T : Td} {n : SD → Td → Prop} {n' : L2.St → Hp → Prop} (L : LS K W De DD H T) (h : ∀ sd' T' σ' H', n sd' T' → StOk K H' T' sd' σ' → DOk K H' T' → Fr H T H' T' → n' σ' H') :
    LS K W { De with nx := n' } { DD with nx := n } H T := ⟨h, L.rt, L.bk, L.ct, L.xe⟩
theorem dss_cons (h1 : DS X W st t) (h2 : DSs X W rest u) : DSs X W (st :: rest) (dSeq t u) :=
  PSs.imp (pss_cons h1 h2) fun De σ H ⟨sd, T, DD, st, ok, L, q⟩ => ⟨sd, T, { DD with nx := u DD }, st, ok, L.seq fun sd' T' σ' H' n s' o f => ⟨sd', T', DD, s', o, L.go f, n⟩, q⟩
theorem dss_one (h1 : DS X W st t) : DSs X W [st] t := pss_one h1
def dBreak : TDS := fun D sd T => D.bk sd T
def dCont : TDS := fun D sd T => D.ct sd T
theorem ds_pass : DS X W (.Pass pos) dNext := PS.imp ps_pass fun De σ H ⟨sd, T, DD, st, ok, L, q⟩ => L.nx sd T σ H q st ok Fr.refl
theorem ds_break : DS X W (.Break pos) dBreak := PS.imp ps_break fun De σ H ⟨sd, T, DD, st, ok, L, q⟩ => L.bk sd T σ H q st ok Fr.refl
theorem ds_continue : DS X W (.Continue pos) dCont := PS.imp ps_continue fun De σ H ⟨sd, T, DD, st, ok, L, q⟩ => L.ct sd T σ H q st ok Fr.refl
def dDrop (te : TDE) : TDS := fun D sd T => te sd T (fun _ T1 => D.nx sd T1) (fun ex T1 => D.xe ex sd T1)
theorem ds_expr (he : DE X W e te) (hs : swapsWith e none pos.line X.env = pure false := by rfl) : DS X W (.Expr e pos) (dDrop te) :=
  PS.imp (ps_expr he hs) fun De σ H ⟨sd, T, DD, st, ok, L, q⟩ => ⟨sd, T, _, _, ⟨st, ok, fun x T1 v H1 k r o f => L.nx sd T1 σ H1 k (st.mono f) o f, L.exok st⟩, q⟩
def dRet (te : TDE) : TDS := fun D sd T => te sd T D.rt (fun ex T1 => D.xe ex sd T1)
theorem ds_ret (he : DE X W e te) : DS X W (.Return (some e) pos) (dRet te) :=
  PS.imp (ps_ret he) fun De σ H ⟨sd, T, DD, st, ok, L, q⟩ => ⟨sd, T, _, _, ⟨st, ok, fun x T1 v H1 k r o f => L.rt x T1 v H1 k r o f, L.exok st⟩, q⟩
def dRetN : TDS := fun D _ T => D.rt .non T
theorem ds_retN : DS X W (.Return none pos) dRetN := PS.imp ps_retN fun De σ H ⟨sd, T, DD, st, ok, L, q⟩ => L.rt .non T .non H q rfl ok Fr.refl
def dIfS (c : TDT) (t u : TDS) : TDS := fun D sd T => c sd T (fun b T1 => IfP b (t D sd T1) (u D sd T1)) (fun ex T1 => D.xe ex sd T1)
theorem ds_if {c : Expr} {a b : List Stmt} {tc : TDT} (hc : DT X W c tc) (ha : DSs X W a t) (hb : DSs X W b u) : DS X W (.If c a b pos) (dIfS tc t u) :=
  PS.imp (ps_if hc ha hb) fun De σ H ⟨sd, T, DD, st, ok, L, q⟩ => ⟨sd, T, _, _, ⟨st, ok, fun c T1 H1 k o f => by
    by_cases z : c = true
    · rw [if_pos z]
      replace k := k.yes z
      exact ⟨sd, T1, DD, st.mono f, o, L.go f, k⟩
    · rw [if_neg z]
      replace k := k.no z
      exact ⟨sd, T1, DD, st.mono f, o, L.go f, k⟩, L.exok st⟩, q⟩
def dSet (i : Nat) (te : TDE) : TDS := fun D sd T => te sd T (fun x T1 => D.nx (sd.set i (some x)) T1) (fun ex T1 => D.xe ex sd T1)
theorem ds_set {i : Nat} {x : Str} {pos' : Pos} (hN : X.N.Nodup) (hi : X.N[i]? = some x) (hx : Loc X.env.scope x) (he : DE X W e te) (hs : swapsWith e (some (.Name x pos')) pos.line X.env = pure false := by rfl) (hf : X.fn x = true ∨ X.env.scope.names.lookup x = some .local := by first | exact .inl rfl | exact .inr rfl | assumption) :
    DS X W (.Assign [.Name x pos'] e pos) (dSet i te) :=
  PS.imp (ps_set hN hi hx he hs hf) fun De σ H ⟨sd, T, DD, st, ok, L, q⟩ => ⟨sd, T, _, _, ⟨st, ok, fun x T1 v H1 k r o f => L.nx _ T1 _ H1 k ((st.mono f).set i r) o f, L.exok st⟩, q⟩
/-- a, b = x, y with plain local names -/
def dPar (i j : Nat) (ta : TDA) : TDS := fun D sd T => ta sd T (fun xs T1 => match xs with
  | [x, y] => D.nx ((sd.set i (some x)).set j (some y)) T1
  | _ => False) (fun ex T1 => D.xe ex sd T1)
theorem ds_par {i j : Nat} {x y : Str} {a b : Expr} {ta : TDA} {px py pt : Pos} {kt k2 pt2} (hc : X.calm = true) (hN : X.N.Nodup) (hi : X.N[i]? = some x) (hj : X.N[j]? = some y) (hij : i ≠ j)
    (hx : X.env.scope.names.lookup x = some .local) (hy : X.env.scope.names.lookup y = some .local) (ha : DA X W [a, b] ta)
    (hw : swappedStores [.Tuple [.Name x px, .Name y py] kt pt] (.Tuple [a, b] k2 pt2) X.env = pure (some [x, y]))
    (hs : swapsWithSole [.Tuple [.Name x px, .Name y py] kt pt] (.Tuple [a, b] k2 pt2) pos.line X.env = pure false := by rfl) :
    DS X W (.Assign [.Tuple [.Name x px, .Name y py] kt pt] (.Tuple [a, b] k2 pt2) pos) (dPar i j ta) :=
  PS.imp (ps_par hc hN hi hj hij hx hy ha hw hs) fun De σ H ⟨sd, T, DD, st, ok, L, q⟩ => ⟨sd, T, _, _, ⟨st, ok, fun xs T1 vs H1 k r o f => by
    match xs, k with
    | [x, y], k =>
      obtain ⟨v, r1, e1, h1, r2⟩ := r
      obtain ⟨w, r3, e2, h2, r4⟩ := r2
      have r4' : r3 = [] := r4
      subst e1 e2 r4'
      exact ⟨v, w, rfl, L.nx _ T1 _ H1 k (((st.mono f).set i h1).set j h2) o f⟩, L.exok st⟩, q⟩
end

/-! ### loops -/
section
variable {X : Cx} {W : WX} {pos : Pos}
/-- a while in so many turns -/
def dIter (c : TDT) (tb : TDS) (D : DEnds) : Nat → SD → Td → Prop
  | 0, _, _ => False
  | n + 1, sd, T => c sd T (fun b T1 => IfP b (tb { D with nx := dIter c tb D n, ct := dIter c tb D n, bk := D.nx } sd T1) (D.nx sd T1)) (fun ex T1 => D.xe ex sd T1)
def dWhile (c : TDT) (tb : TDS) : TDS := fun D sd T => ∃ n, dIter c tb D n sd T
theorem ds_while {c : Expr} {body : List Stmt} {tc : TDT} {tb : TDS} (hp : PassesOwn (model X.prog X.w) X.A X.env X.xe) (hc : DT X W c tc) (hb : DSs X W body tb) : DS X W (.While c body [] pos) (dWhile tc tb) := by
  refine PS.imp (ps_while hp hc hb) ?_
  rintro De σ H ⟨sd, T, DD, st, ok, L, n, q⟩
  refine ⟨fun m σ1 H1 => ∃ sd1 T1, StOk X.K H1 T1 sd1 σ1 ∧ DOk X.K H1 T1 ∧ Fr H T H1 T1 ∧ dIter tc tb DD m sd1 T1, ⟨n, sd, T, st, ok, Fr.refl, q⟩, ?_⟩
  rintro m σ1 H1 ⟨sd1, T1, st1, ok1, f1, q1⟩
  cases m with
  | zero => exact q1.elim
  | succ m =>
    refine ⟨sd1, T1, _, _, ⟨st1, ok1, fun b T2 H2 k o f => ?_, (L.go f1).exok st1⟩, q1⟩
    by_cases z : b = true
    · rw [if_pos z]
      replace k := k.yes z
      refine ⟨fun σ3 H3 => ∃ sd3 T3, StOk X.K H3 T3 sd3 σ3 ∧ DOk X.K H3 T3 ∧ Fr H T H3 T3 ∧ dIter tc tb DD m sd3 T3, fun σ' H' w => ⟨m, Nat.lt_succ_self m, w⟩, ?_⟩
      have g : ∀ sd' T' σ' H', dIter tc tb DD m sd' T' → StOk X.K H' T' sd' σ' → DOk X.K H' T' → Fr H2 T2 H' T' → ∃ sd3 T3, StOk X.K H' T3 sd3 σ' ∧ DOk X.K H' T3 ∧ Fr H T H' T3 ∧ dIter tc tb DD m sd3 T3 :=
        fun sd' T' σ' H' n s' o' f' => ⟨sd', T', s', o', (f1.trans f).trans f', n⟩
      exact ⟨sd1, T2, { DD with nx := dIter tc tb DD m, ct := dIter tc tb DD m, bk := DD.nx }, st1.mono f, o, ⟨g, ((L.go f1).go f).rt, ((L.go f1).go f).nx, g, ((L.go f1).go f).xe⟩, k⟩
    · rw [if_neg z]
      replace k := k.no z
      exact (L.go f1).nx sd1 T2 σ1 H2 k (st1.mono f) o f
end
end DL
namespace DL
open PySem PySem.Spec PyProof.Rows L2

/-! ### promises -/
abbrev SpD := List D → Td → KD → XD → Prop
def liftSp (K : PySem.W.Frag) (sp : SpD) : Sp := fun vs H Q E => ∃ ds T QD ED, RDs K H T ds vs ∧ DOk K H T ∧ sp ds T QD ED ∧
  (∀ x T' v H', QD x T' → RD K H' T' x v → DOk K H' T' → Fr H T H' T' → Q v H') ∧ (∀ ex T' c da H', ED ex T' → XR K H' T' ex c da → DOk K H' T' → Fr H T H' T' → E c da H')
/-- what a body's rules rest on: exceptions reach the wish, room for calls, nothing is shown at the time -/
structure Bd (k : Nat) (X : Cx) (W : WX) : Prop where
  tk : L2.Takes X W
  hr : Room k X.A
  hg : X.A.guards = some []
theorem Bd.le {j k : Nat} {X : Cx} {W : WX} (b : Bd k X W) (h : j ≤ k) : Bd j X W := ⟨b.tk, b.hr.mono h, b.hg⟩
/-- a def keeps a promise wherever nothing is shown at the time -/
def GR (P : Program) (w : World) (K : PySem.W.Frag) (mg : Str → Option Value) (base : Heap) (f : Addr) (k : Nat) (sp : SpD) : Prop :=
  ∀ (A : Around) (outer : List Env) (s : Shared) (H : Hp) (us : List Value) (vs : List V) (Q : VK) (E : XK), Room k A → A.guards = some [] → Env0 P w K mg base A outer s H → Vals vs us → liftSp K sp vs H Q E → codeAny (model P w) A (.call (.ref f) ⟨us, []⟩) (CR (L2.CX P w) outer P w H s Q E) s
theorem GR.mono {P : Program} {w : World} {K : PySem.W.Frag} {mg : Str → Option Value} {base : Heap} {f : Addr} {j k : Nat} {sp : SpD} (F : GR P w K mg base f j sp) (h : j ≤ k) : GR P w K mg base f k sp := fun A outer s H us vs Q E hr => F A outer s H us vs Q E (hr.mono h)
theorem GR.imp {P : Program} {w : World} {K : PySem.W.Frag} {mg : Str → Option Value} {base : Heap} {f : Addr} {k : Nat} {sp sp' : SpD} (F : GR P w K mg base f k sp) (h : ∀ xs T Q E, sp' xs T Q E → sp xs T Q E) : GR P w K mg base f k sp' :=
  fun A outer s H us vs Q E hr hg e0 r ⟨ds, T, QD, ED, r2, o, q, h1, h2⟩ => F A outer s H us vs Q E hr hg e0 r ⟨ds, T, QD, ED, r2, o, h _ _ _ _ q, h1, h2⟩
/-- a def of the module that keeps a promise -/
structure GF (P : Program) (w : World) (K : PySem.W.Frag) (mg : Str → Option Value) (base : Heap) (x : Str) (k : Nat) (sp : SpD) : Prop where
  ex : ∃ f, mg x = some (.ref f) ∧ PySem.W.keepIn K (.ref f) = true ∧ GR P w K mg base f k sp
section
variable {X : Cx} {W : WX} {x : Str} {k : Nat} {sp : SpD} {e : Expr} {es : List Expr} {t : TDA} {p pos : Pos} {f : Addr}
theorem sp_of {σ : L2.St} {H H1 : Hp} {sd : SD} {T T1 : Td} {Q : VK} {QD : KD} {ED : XD} {xs : List D} {vs : List V} (L : LE X.K W σ H Q sd T QD ED) (r : RDs X.K H1 T1 xs vs) (o : DOk X.K H1 T1) (f : Fr H T H1 T1) (q : sp xs T1 QD ED) :
    liftSp X.K sp vs H1 Q (WE W σ) :=
  ⟨xs, T1, QD, ED, r, o, q, (L.go o f).q, (L.go o f).x⟩
theorem run_at {pins : List (Addr × Obj)} {σ : L2.St} {H : Hp} {s : Shared} {sd : SD} {T : Td} {Q : VK} {QD : KD} {ED : XD} {xs : List D} {vs : List V} {us : List Value} (tk : L2.Takes X W) {A : Around} (F : GR X.prog X.w X.K X.mg X.base f k sp) (hr : Room k A) (hg : A.guards = some [])
    (e0 : Env0 X.prog X.w X.K X.mg X.base A X.stack s H) (I : Inv X pins σ H s) (L : LE X.K W σ H Q sd T QD ED) (rs : RDs X.K H T xs vs) (r : Vals vs us) (q : sp xs T QD ED) :
    codeAny (model X.prog X.w) A (.call (.ref f) ⟨us, []⟩) (fun r s' => match r with | .ok (.ret v) => EP X pins σ Q v s' | .ok _ => False | .error e => X.xe e s') s := by
  refine codeAny_mono (F A X.stack s H us vs Q (WE W σ) hr hg e0 r (sp_of L rs L.ok Fr.refl q)) fun r s' hq => ?_
  cases r with
  | error e => exact passAt tk σ pins H s e s' I hq
  | ok fl =>
    cases fl with
    | ret u => exact I.after hq
    | next => exact False.elim hq
    | brk => exact False.elim hq
    | cont => exact False.elim hq
/-! calls by value -/
abbrev RAD := List D → Td → KD → XD → Prop
def CallD (X : Cx) (W : WX) (f : Value) (r : RAD) : Prop :=
  ∀ pins s σ H Q sd T QD ED (xs : List D) (vs : List V) (us : List Value), Inv X pins σ H s → LE X.K W σ H Q sd T QD ED → RDs X.K H T xs vs → Vals vs us → r xs T QD ED → wpAny (model X.prog X.w) X.A (call f us) (EP X pins σ Q) X.xe s
theorem CallD.of {X : Cx} {W : WX} {f : Value} {r0 : List V → Hp → VK → Prop} {r : RAD} (h : CallR X f r0)
    (i : ∀ σ H Q sd T QD ED xs vs, LE X.K W σ H Q sd T QD ED → RDs X.K H T xs vs → r xs T QD ED → r0 vs H Q) : CallD X W f r :=
  fun pins s σ H Q sd T QD ED xs vs us I L r1 r2 q => h pins s σ H vs us Q I r2 (i σ H Q sd T QD ED xs vs L r1 q)
theorem CallD.or {X : Cx} {W : WX} {f : Value} {r r' : RAD} (h : CallD X W f r) (h' : CallD X W f r') : CallD X W f (fun xs T Q E => r xs T Q E ∨ r' xs T Q E) :=
  fun pins s σ H Q sd T QD ED xs vs us I L r1 r2 q => q.elim (h pins s σ H Q sd T QD ED xs vs us I L r1 r2) (h' pins s σ H Q sd T QD ED xs vs us I L r1 r2)
def dCB (r : RAD) (t : TDA) : TDE := fun sd T Q E => t sd T (fun xs T1 => r xs T1 Q E) E
/-- what a call of the library reads, closed to unfolding -/
structure OL (r : RAD) (xs : List D) (T : Td) (Q : KD) (E : XD) : Prop where
  h : r xs T Q E
def dCL (r : RAD) (t : TDA) : TDE := fun sd T Q E => t sd T (fun xs T1 => OL r xs T1 Q E) E
theorem cd_fn (b : Bd k X W) (F : GR X.prog X.w X.K X.mg X.base f k sp) : CallD X W (.ref f) sp := fun pins s σ H Q sd T QD ED xs vs us I L rs r q =>
  wpAny_call (codeAny_mono (run_at b.tk F b.hr b.hg I.env0 I L rs r q) fun r s' h => by
    cases r with
    | error e => exact h
    | ok fl =>
      cases fl with
      | ret u => exact h
      | next => exact False.elim h
      | brk => exact False.elim h
      | cont => exact False.elim h)
/-- a call of a name that stands for an object -/
theorem de_callN {r : RAD} (hc : CallD X W (.ref f) r) (hg : Gl X x) (hm : X.mg x = some (.ref f)) (hk : PySem.W.keepIn X.K (.ref f) = true) (ha : DA X W (e :: es) t) (hdb : (x == ("__debug__" : Str)) = false := by decide)
    (he : starEach (e :: es) X.env = (false, eval e X.env) :: starEach es X.env := by rfl) (hpl : (backTo pos (starEach es X.env)).any (·.1) = false := by rfl) : DE X W (.Call (.Name x p) (e :: es) [] pos) (dCB r t) :=
  DE.mk fun pins s σ H Q sd T QD ED I L h => wpAny_Call_Name_kw (ld_glob I hg hm (PySem.W.callWith_K (h₀ := X.base) I.ok.mod.kin hk
    (thn (ha.one I L.st L.ok L.x h pos) fun us s1 ⟨xs, vs, H1, T1, B⟩ => ⟨B.I.kIn, hc pins s1 σ H1 Q sd T1 QD ED xs vs us B.I (L.go B.ok B.fr) B.rd B.rv B.k⟩) he hpl) hdb)
theorem de_callM {r : RAD} (hc : CallD X W (.ref f) r) (hg : Gl X x) (hm : X.mg x = some (.ref f)) (hk : PySem.W.keepIn X.K (.ref f) = true) (ha : DA X W (e :: es) t) (hdb : (x == ("__debug__" : Str)) = false := by decide)
    (he : starEach (e :: es) X.env = (false, eval e X.env) :: starEach es X.env := by rfl) (hpl : (backTo pos (starEach es X.env)).any (·.1) = false := by rfl) : DE X W (.Call (.Name x p) (e :: es) [] pos) (dCL r t) :=
  DE.mk fun pins s σ H Q sd T QD ED I L h => wpAny_Call_Name_kw (ld_glob I hg hm (PySem.W.callWith_K (h₀ := X.base) I.ok.mod.kin hk
    (thn (ha.one I L.st L.ok L.x h pos) fun us s1 ⟨xs, vs, H1, T1, B⟩ => ⟨B.I.kIn, hc pins s1 σ H1 Q sd T1 QD ED xs vs us B.I (L.go B.ok B.fr) B.rd B.rv B.k.h⟩) he hpl) hdb)
theorem de_call {j : Nat} (b : Bd k X W) (F : GF X.prog X.w X.K X.mg X.base x j sp) (hj : j ≤ k) (hg : Gl X x) (ha : DA X W (e :: es) t) (hdb : (x == ("__debug__" : Str)) = false := by decide)
    (he : starEach (e :: es) X.env = (false, eval e X.env) :: starEach es X.env := by rfl) (hpl : (backTo pos (starEach es X.env)).any (·.1) = false := by rfl) : DE X W (.Call (.Name x p) (e :: es) [] pos) (dCB sp t) := by
  obtain ⟨f, hm, hk, F⟩ := F.ex
  exact de_callN (cd_fn b (F.mono hj)) hg hm hk ha hdb he hpl
end

/-! ### a def by its body -/
def startD (N : List Str) (ds : List D) : SD := ds.map some ++ List.replicate (N.length - ds.length) none
theorem startD_ok {K : PySem.W.Frag} {H : Hp} {T : Td} {N : List Str} {ds : List D} {vs : List V} (r : RDs K H T ds vs) : StOk K H T (startD N ds) (L2.start N vs) := by
  have hl := r.length
  refine ⟨by unfold startD L2.start; rw [List.length_append, List.length_append, List.length_map, List.length_map, List.length_replicate, List.length_replicate, hl], fun i d e => ?_⟩
  unfold startD at e
  unfold L2.start
  by_cases hi : i < ds.length
  · rw [List.getElem?_append_left (by simpa using hi), List.getElem?_map] at e
    rw [List.getElem?_append_left (by simpa [← hl] using hi), List.getElem?_map]
    cases q : ds[i]? with
    | none => rw [q] at e; cases e
    | some d' =>
      rw [q] at e
      have e' : d' = d := Option.some.inj (Option.some.inj e)
      subst e'
      obtain ⟨v, h1, h2⟩ := r.get q
      exact ⟨v, by rw [h1]; rfl, h2⟩
  · rw [List.getElem?_append_right (by simpa using hi), List.getElem?_replicate] at e
    split at e <;> cases e
def endsD (Q : KD) (E : XD) : DEnds := { nx := fun _ T => Q .non T, rt := Q, xe := fun ex _ T => E ex T }
section
variable {P : Program} {w : World} {K : PySem.W.Frag} {mg : Str → Option Value} {base : Heap} {x qual : Str} {params : Arguments} {body : List Stmt} {scope : Scope} {dvs : List V} {kws : List (Str × V)} {f : Addr} {fd : FuncData} {N ps : List Str} {k : Nat} {sp : SpD} {d : TDS}
/-- the wish of a def's own body -/
abbrev WE0 (E : XK) : WX := fun c da _ H => E c da H
/-- with whatever is shown at the time -/
theorem fn_ok (F : FunD K x qual params body scope dvs kws f fd) (S : FnScope N ps scope) (len : ∀ ds T Q E, sp ds T Q E → ds.length = ps.length)
    (hb : ∀ (cdv : Value) (A : Around) (outer : List Env) (s : Shared) (H : Hp) (E : XK), Room k (A.deeper (envOfC qual scope s.heap.objs.size f cdv)) →
      L2.Takes (cxOf (L2.CX P w) P w K mg base N qual scope f cdv A outer s H E) (WE0 E) → DSs (cxOf (L2.CX P w) P w K mg base N qual scope f cdv A outer s H E) (WE0 E) body d)
    (hp : ∀ ds T Q E, sp ds T Q E → d (endsD Q E) (startD N ds) T) : FnOk P w K mg base (L2.CX P w) (k + 1) f fd ps (liftSp K sp) := by
  refine F.ok S (fun vs H Q E ⟨ds, T, QD, ED, r, o, q, _⟩ => by rw [← r.length]; exact len ds T QD ED q) ?_
  rintro cdv A outer s H vs Q E hr ⟨ds, T, QD, ED, r, o, q, hq, hx⟩
  refine ⟨_, hb cdv A outer s H E hr (takes_of rfl rfl rfl rfl), startD N ds, T, endsD QD ED, startD_ok r, o, ⟨fun sd' T' σ' H' n st o f => ?_, fun x T' v H' n r o f => ?_, fun sd' T' σ' H' n => n.elim, fun sd' T' σ' H' n => n.elim, fun ex sd' T' c da σ' H' n xr st o f => ?_⟩, hp ds T QD ED q⟩
  · exact hq .non T' .non H' n rfl o f
  · exact hq x T' v H' n r o f
  · exact hx ex T' c da H' n xr o f
/-- a def by its body, where nothing is shown at the time; ws: its defaults, dds: as data -/
theorem fn_okG {dds : List D} {ds0 : List Value} {ws : List V} (F : FunD K x qual params body scope dvs kws f fd) (S : FnScope N ps scope) (len : ∀ ds T Q E, sp ds T Q E → (ds ++ dds).length = ps.length) (hbi : Binds K fd ps ds0) (hv : Vals ws ds0) (hd : ∀ H T, RDs K H T dds ws)
    (hb : ∀ (cdv : Value) (A : Around) (outer : List Env) (s : Shared) (H : Hp) (E : XK), Bd k (cxOf (L2.CX P w) P w K mg base N qual scope f cdv A outer s H E) (WE0 E) → DSs (cxOf (L2.CX P w) P w K mg base N qual scope f cdv A outer s H E) (WE0 E) body d)
    (hp : ∀ ds T Q E, sp ds T Q E → d (endsD Q E) (startD N (ds ++ dds)) T) : GR P w K mg base f (k + 1) sp := by
  obtain ⟨oc, od, dV, kV, doc, pm, an, cdv, ct, osl, rfl, lk, hcd, _, _⟩ := F.ex
  intro A outer s H us0 vs0 Q E hr hgd e0 r0 ⟨ds, T, QD, ED, rd0, o, q, hq, hx⟩
  have KX : K.In s.heap := e0.mod.kin.keeps fun b o e => (e0.bs b o e).1
  have lim : s.heap.NoLimit := e0.mod.nolimit.keeps fun b o e => (e0.bs b o e).1
  have rd : RDs K H T (ds ++ dds) (vs0 ++ ws) := rd0.append (hd H T)
  have r : Vals (vs0 ++ ws) (us0 ++ ds0) := r0.append hv
  have hl : (vs0 ++ ws).length = ps.length := by rw [← rd.length]; exact len ds T QD ED q
  have hkind : ∀ y ∈ ps.zip (us0 ++ ds0), scope.names.lookup y.1 = some .local ∨ (scope.names.lookup y.1 = some .cell ∧ ((cellsFrom (s.heap.objs.size + 1) scope.names []).lookup y.1).isSome = true) := fun ⟨n, v⟩ hy => by
    rcases S.par n (List.of_mem_zip hy).1 with q | q
    · exact .inl q
    · exact .inr ⟨q, PySem.W.cellsFrom_some _ _ _ (.inl q)⟩
  refine codeAny_call_function hr.depth (KX _ _ lk) rfl S.co S.gen rfl (PySem.W.codeRec_of KX hcd) (hbi s us0 KX (by rw [← r.length]; exact hl) _ _ _ _ ?_)
  refine wpAny_newFunctionEnv_cells S.kind hkind fun env he s1 x => ?_
  subst he
  refine ⟨lim.keeps x.toInCall.keep, codeAny_func ?_⟩
  have I : Inv (cxOf (L2.CX P w) P w K mg base N qual scope f cdv A outer s H E) [] (L2.start N (vs0 ++ ws)) H s1 := inv_start S hr.hd e0 hl r x
  have ht := hb cdv A outer s H E ⟨takes_of rfl rfl rfl rfl, hr.deeper _, hgd⟩
  refine wpAny_mono (ht.run [] s1 (L2.start N (vs0 ++ ws)) H { nx := fun _ H' => Q .non H', rt := Q } I ⟨startD N (ds ++ dds), T, endsD QD ED, startD_ok rd, o, ⟨fun sd' T' σ' H' n st o f => hq .non T' .non H' n rfl o f, fun x T' v H' n r o f => hq x T' v H' n r o f, fun sd' T' σ' H' n => n.elim, fun sd' T' σ' H' n => n.elim,
    fun ex sd' T' c da σ' H' n xr st o f => hx ex T' c da H' n xr o f⟩, hp ds T QD ED q⟩) (fun fl s' hs => ?_) fun e s' hs => hs
  have fin : ∀ {σ' : L2.St} {H' : Hp} {v : V} {u : Value}, Inv (cxOf (L2.CX P w) P w K mg base N qual scope f cdv A outer s H E) [] σ' H' s' → RelV v u → Q v H' → CE outer P w H s Q u s' :=
    fun {σ' H' v u} J rv q => ⟨v, H', J.os, J.bare, J.base, J.hok, rv, q⟩
  cases fl with
  | ret u =>
    obtain ⟨v, σ', H', J, rv, q⟩ := hs
    exact fin J rv q
  | next =>
    obtain ⟨σ', H', J, q⟩ := hs
    exact fin (v := V.non) (u := Value.none) J rfl q
  | brk =>
    obtain ⟨_, _, _, q⟩ := hs
    exact False.elim q
  | cont =>
    obtain ⟨_, _, _, q⟩ := hs
    exact False.elim q
end

/-! ### targets -/
abbrev TDG := D → SD → Td → (SD → Td → Prop) → Prop
abbrev TDGs := List D → SD → Td → (SD → Td → Prop) → Prop
def liftG (K : PySem.W.Frag) (d : TDG) : TG := fun v σ H Q => ∃ x sd T QD, StOk K H T sd σ ∧ DOk K H T ∧ RD K H T x v ∧ (∀ sd' T' σ' H', QD sd' T' → StOk K H' T' sd' σ' → DOk K H' T' → Fr H T H' T' → Q σ' H') ∧ d x sd T QD
def liftGs (K : PySem.W.Frag) (d : TDGs) : TGs := fun v σ H Q => ∃ x sd T QD, StOk K H T sd σ ∧ DOk K H T ∧ RDs K H T x v ∧ (∀ sd' T' σ' H', QD sd' T' → StOk K H' T' sd' σ' → DOk K H' T' → Fr H T H' T' → Q σ' H') ∧ d x sd T QD
def DG (X : Cx) (target : Expr) (d : TDG) : Prop := PG X target (liftG X.K d)
def DGs (X : Cx) (targets : List Expr) (d : TDGs) : Prop := PGs X targets (liftGs X.K d)
theorem _root_.L2.PG.imp {X : Cx} {e : Expr} {t t' : TG} (h : PG X e t) (i : ∀ v σ H Q, t' v σ H Q → t v σ H Q) : PG X e t' := ⟨fun pins s σ H v u Q I r q => h.run pins s σ H v u Q I r (i v σ H Q q)⟩
theorem _root_.L2.PGs.imp {X : Cx} {e : List Expr} {t t' : TGs} (h : PGs X e t) (i : ∀ v σ H Q, t' v σ H Q → t v σ H Q) : PGs X e t' := ⟨fun pins s σ H v u Q I r q => h.run pins s σ H v u Q I r (i v σ H Q q)⟩
section
variable {X : Cx} {W : WX} {pos : Pos}
def dgName (i : Nat) : TDG := fun x sd T Q => Q (sd.set i (some x)) T
theorem dg_name {i : Nat} {x : Str} (hN : X.N.Nodup) (hi : X.N[i]? = some x) (hx : Loc X.env.scope x) (hf : X.fn x = true ∨ X.env.scope.names.lookup x = some .local := by first | exact .inl rfl | exact .inr rfl | assumption) : DG X (.Name x pos) (dgName i) :=
  PG.imp (pg_name hN hi hx hf) fun v σ H Q ⟨x, sd, T, QD, st, o, r, k, q⟩ => k _ T _ H q (st.set i r) o Fr.refl
def dgNil : TDGs := fun xs sd T Q => xs = [] ∧ Q sd T
def dgCons (t : TDG) (u : TDGs) : TDGs := fun xs sd T Q => match xs with
  | [] => False
  | x :: r => t x sd T fun sd' T' => u r sd' T' Q
theorem dgs_nil : DGs X [] dgNil := PGs.imp pgs_nil fun v σ H Q ⟨x, sd, T, QD, st, o, r, k, e, q⟩ => by
  subst e
  have r' : v = [] := r
  exact ⟨r', k sd T σ H q st o Fr.refl⟩
theorem dgs_cons {e : Expr} {es : List Expr} {t : TDG} {u : TDGs} (h1 : DG X e t) (h2 : DGs X es u) (hs : (assignEach (e :: es) X.env).map (·.2) = assign e X.env :: (assignEach es X.env).map (·.2) := by rfl) : DGs X (e :: es) (dgCons t u) :=
  PGs.imp (pgs_cons h1 h2 hs) fun v σ H Q ⟨xs, sd, T, QD, st, o, r, k, q⟩ => by
    match xs, r, q with
    | x :: xs, r, q =>
      obtain ⟨y, ys, e, r1, r2⟩ := r
      subst e
      exact ⟨y, ys, rfl, x, sd, T, _, st, o, r1, fun sd' T' σ' H' n st' o' f => ⟨xs, sd', T', QD, st', o', RDs.mono f xs r2, fun a b c d e g h i => k a b c d e g h (f.trans i), n⟩, q⟩
def dgTup (n : Nat) (t : TDGs) : TDG := fun x sd T Q => match x with
  | .tup xs => xs.length = n ∧ t xs sd T Q
  | _ => False
theorem dg_tup {es : List Expr} {k : Nat} {t : TDGs} {n : Nat} (hc : X.calm = true) (h : DGs X es t) (hn : (assignEach es X.env).length = n := by rfl) (hst : (assignEach es X.env).findIdx? (·.1) = none := by rfl) : DG X (.Tuple es k pos) (dgTup n t) :=
  PG.imp (pg_tup hc h hn hst) fun v σ H Q ⟨x, sd, T, QD, st, o, r, k, q⟩ => by
    cases x <;> try exact q.elim
    rename_i xs
    obtain ⟨a, vs, e, t, r⟩ := r
    exact ⟨a, vs, e, t.sq, by rw [← r.length]; exact q.1, xs, sd, T, QD, st, o, r, k, q.2⟩
/-- target = value -/
def dAsg (te : TDE) (g : TDG) : TDS := fun D sd T => te sd T (fun x T1 => g x sd T1 D.nx) (fun ex T1 => D.xe ex sd T1)
theorem ds_asg {tg e : Expr} {te : TDE} {g : TDG} (he : DE X W e te) (hg : DG X tg g) (hs : swapsWithSole [tg] e pos.line X.env = pure false := by rfl) (hw : swappedStores [tg] e X.env = pure none := by rfl)
    (h1 : (assignEach [tg] X.env).map (·.2) = [assign tg X.env] := by rfl) : DS X W (.Assign [tg] e pos) (dAsg te g) :=
  PS.imp (ps_asg he hg hs hw h1) fun De σ H ⟨sd, T, DD, st, ok, L, q⟩ => ⟨sd, T, _, _, ⟨st, ok, fun x T1 v H1 k r o f => ⟨x, sd, T1, DD.nx, st.mono f, o, r, fun sd' T' σ' H' n s' o' f' => L.nx sd' T' σ' H' n s' o' (f.trans f'), k⟩, L.exok st⟩, q⟩
end

/-! ### what is walked -/
abbrev TDI := SD → Td → (List D → (Td → Prop) → Td → Prop) → XD → Prop
def IsIt (K : PySem.W.Frag) (items : List D) (g : Td → Prop) (J : It) (H0 : Hp) (T0 : Td) : Prop :=
  ∀ (i : Nat) (H : Hp) (T : Td), Fr H0 T0 H T → DOk K H T → g T → (i < items.length → J.go i H ∧ ∀ x H3, J.yld i H x H3 → ∃ d, items[i]? = some d ∧ RD K H3 T d x ∧ DOk K H3 T ∧ Fr H T H3 T) ∧ (items.length ≤ i → J.stop i H)
def liftI (K : PySem.W.Frag) (W : WX) (d : TDI) : TI := fun σ H R => ∃ sd T RD' ED, StOk K H T sd σ ∧ DOk K H T ∧ (∀ ex T' c da H', ED ex T' → XR K H' T' ex c da → DOk K H' T' → Fr H T H' T' → W c da σ H') ∧
  (∀ items g T' J H', RD' items g T' → IsIt K items g J H' T' → DOk K H' T' → Fr H T H' T' → R J H') ∧ d sd T RD' ED
def DI (X : Cx) (W : WX) (tg iter : Expr) (d : TDI) : Prop := PI X tg iter (liftI X.K W d)
theorem _root_.L2.PI.imp {X : Cx} {tg e : Expr} {t t' : TI} (h : PI X tg e t) (i : ∀ σ H Q, t' σ H Q → t σ H Q) : PI X tg e t' := ⟨fun pins s σ H Q I q => h.run pins s σ H Q I (i σ H Q q)⟩
section
variable {X : Cx} {W : WX} {tg : Expr} {pos : Pos}
/-- a list or a tuple that never changes, or a tracked list -/
def diSeqL (tl : TDE) : TDI := fun sd T R E => tl sd T (fun x T1 => match x with
  | .lst xs => R xs (fun _ => True) T1
  | .ref a => match T1 a with
    | some (.lst xs) => R xs (fun T2 => T2 a = some (.lst xs)) T1
    | _ => False
  | _ => False) E
theorem di_list {l : Expr} {tl : TDE} (hl : DE X W l tl) : DI X W tg l (diSeqL tl) :=
  PI.imp (pi_list hl) fun σ H R ⟨sd, T, RD', ED, st, ok, hx, hk, q⟩ => ⟨sd, T, _, ED, ⟨st, ok, fun x T1 v H1 k r o f => by
    cases x <;> try exact k.elim
    · rename_i a
      have r' : v = .ref a := r
      subst r'
      simp only at k
      split at k
      · rename_i xs ht
        obtain ⟨vs, hv, rs⟩ := o a _ ht
        refine ⟨a, rfl, ⟨vs, SqL.of hv⟩, hk xs _ T1 _ H1 k ?_ o f⟩
        intro i H2 T2 f2 o2 g2
        obtain ⟨vs2, hv2, rs2⟩ := o2 a _ g2
        refine ⟨fun hi => ?_, fun hi => ⟨vs2, SqL.of hv2, by rw [← rs2.length]; exact hi⟩⟩
        obtain ⟨u, hu, ru⟩ := rs2.get (List.getElem?_eq_getElem hi)
        refine ⟨⟨vs2, u, SqL.of hv2, hu⟩, fun x H3 ⟨e, y⟩ => ?_⟩
        subst e
        have e := y vs2 (SqL.of hv2)
        rw [hu] at e
        cases e
        exact ⟨_, List.getElem?_eq_getElem hi, ru, o2, Fr.refl⟩
      · exact k.elim
    · rename_i xs
      obtain ⟨a, vs, e, t, rs⟩ := r
      refine ⟨a, e, ⟨vs, t.sq⟩, hk xs _ T1 _ H1 k ?_ o f⟩
      intro i H2 T2 f2 o2 _
      have t2 := (t.mono f2).sq
      have rs2 := RDs.mono f2 xs rs
      refine ⟨fun hi => ?_, fun hi => ⟨vs, t2, by rw [← rs2.length]; exact hi⟩⟩
      obtain ⟨u, hu, ru⟩ := rs2.get (List.getElem?_eq_getElem hi)
      refine ⟨⟨vs, u, t2, hu⟩, fun x H3 ⟨e, y⟩ => ?_⟩
      subst e
      have e := y vs t2
      rw [hu] at e
      cases e
      exact ⟨_, List.getElem?_eq_getElem hi, ru, o2, Fr.refl⟩, hx⟩, q⟩
def diSeqT (tl : TDE) : TDI := fun sd T R E => tl sd T (fun x T1 => match x with
  | .tup xs => R xs (fun _ => True) T1
  | _ => False) E
theorem di_tup {l : Expr} {tl : TDE} (hl : DE X W l tl) : DI X W tg l (diSeqT tl) :=
  PI.imp (pi_tup hl) fun σ H R ⟨sd, T, RD', ED, st, ok, hx, hk, q⟩ => ⟨sd, T, _, ED, ⟨st, ok, fun x T1 v H1 k r o f => by
    cases x <;> try exact k.elim
    rename_i xs
    obtain ⟨a, vs, e, t, rs⟩ := r
    refine ⟨a, e, ⟨vs, t.sq⟩, hk xs _ T1 _ H1 k ?_ o f⟩
    intro i H2 T2 f2 o2 _
    have t2 := (t.mono f2).sq
    have rs2 := RDs.mono f2 xs rs
    refine ⟨fun hi => ?_, fun hi => ⟨vs, t2, by rw [← rs2.length]; exact hi⟩⟩
    obtain ⟨u, hu, ru⟩ := rs2.get (List.getElem?_eq_getElem hi)
    refine ⟨⟨vs, u, t2, hu⟩, fun x H3 ⟨e, y⟩ => ?_⟩
    subst e
    have e := y vs t2
    rw [hu] at e
    cases e
    exact ⟨_, List.getElem?_eq_getElem hi, ru, o2, Fr.refl⟩, hx⟩, q⟩
/-- range(n) -/
def rangeD (lo : Int) (n : Nat) : List D := (List.range n).map fun (i : Nat) => D.int (lo + (i : Int))
def diRng1 (t : TDA) : TDI := fun sd T R E => t sd T (fun xs T1 => match xs with
  | [.int j] => -(2 ^ 62) ≤ j ∧ j < 2 ^ 62 ∧ R (rangeD 0 j.toNat) (fun _ => True) T1
  | _ => False) E
theorem isIt_range {K : PySem.W.Frag} {lo : Int} {n : Nat} {H : Hp} {T : Td} : IsIt K (rangeD lo n) (fun _ => True) (Itr lo n) H T := by
  intro i H2 T2 f2 o2 _
  have hl : (rangeD lo n).length = n := by unfold rangeD; simp
  refine ⟨fun hi => ⟨by rw [hl] at hi; exact hi, fun x H3 ⟨e1, e2⟩ => ?_⟩, fun hi => by rw [hl] at hi; exact hi⟩
  subst e1 e2
  rw [hl] at hi
  refine ⟨.int (lo + i), ?_, rfl, o2, Fr.refl⟩
  unfold rangeD
  rw [List.getElem?_map, List.getElem?_range hi]
  rfl
theorem di_range1 {a : Expr} {ta : TDA} {p : Pos} (hg : Gl X "range") (hm : X.mg "range" = none) (ha : DA X W [a] ta) (hs : starEach [a] X.env = [(false, eval a X.env)] := by rfl) : DI X W tg (.Call (.Name "range" p) [a] [] pos) (diRng1 ta) :=
  PI.imp (pi_range1 hg hm ha hs) fun σ H R ⟨sd, T, RD', ED, st, ok, hx, hk, q⟩ => ⟨sd, T, _, ED, ⟨st, ok, fun xs T1 vs H1 k r o f => by
    match xs, k, r with
    | [.int j], k, r =>
      obtain ⟨v, r1, e, h1, h2⟩ := r
      have h1' : v = .int j := h1
      have h2' : r1 = [] := h2
      subst e h1' h2'
      exact ⟨j, rfl, k.1, k.2.1, hk _ _ T1 _ H1 k.2.2 isIt_range o f⟩, hx⟩, q⟩
def diRng2 (t : TDA) : TDI := fun sd T R E => t sd T (fun xs T1 => match xs with
  | [.int i, .int j] => (-(2 ^ 62) ≤ i ∧ i < 2 ^ 62 ∧ -(2 ^ 62) ≤ j ∧ j < 2 ^ 62) ∧ R (rangeD i (j - i).toNat) (fun _ => True) T1
  | _ => False) E
theorem di_range2 {a b : Expr} {ta : TDA} {p : Pos} (hg : Gl X "range") (hm : X.mg "range" = none) (ha : DA X W [a, b] ta) (hs : starEach [a, b] X.env = [(false, eval a X.env), (false, eval b X.env)] := by rfl) (hs2 : starEach [b] X.env = [(false, eval b X.env)] := by rfl) :
    DI X W tg (.Call (.Name "range" p) [a, b] [] pos) (diRng2 ta) :=
  PI.imp (pi_range2 hg hm ha hs hs2) fun σ H R ⟨sd, T, RD', ED, st, ok, hx, hk, q⟩ => ⟨sd, T, _, ED, ⟨st, ok, fun xs T1 vs H1 k r o f => by
    match xs, k, r with
    | [.int i, .int j], k, r =>
      obtain ⟨v, r1, e, h1, w, r2, e2, h2, h3⟩ := r
      have h1' : v = .int i := h1
      have h2' : w = .int j := h2
      have h3' : r2 = [] := h3
      subst e2 e h1' h2' h3'
      exact ⟨i, j, rfl, k.1, hk _ _ T1 _ H1 k.2 isIt_range o f⟩, hx⟩, q⟩
/-- a text, sign by sign -/
def signsD (x : Str) : List D := x.cps.toList.map fun c => .str ⟨#[c]⟩
/-- for -/
def dLoop (g : TDG) (tb : TDS) (gd : Td → Prop) (D : DEnds) : List DL.D → SD → Td → Prop
  | [], sd, T => gd T ∧ D.nx sd T
  | x :: xs, sd, T => gd T ∧ g x sd T fun sd2 T2 => tb { D with nx := dLoop g tb gd D xs, ct := dLoop g tb gd D xs, bk := D.nx } sd2 T2
def dFor (wi : TDI) (g : TDG) (tb : TDS) : TDS := fun D sd T => wi sd T (fun items gd T1 => dLoop g tb gd D items sd T1) (fun ex T1 => D.xe ex sd T1)
theorem ds_for {iter : Expr} {body : List Stmt} {wi : TDI} {g : TDG} {tb : TDS} (hp : PassesOwn (model X.prog X.w) X.A X.env X.xe) (hc : X.calm = true) (hi : DI X W tg iter wi) (hg : DG X tg g) (hb : DSs X W body tb)
    (hs : ∀ x, foldedSetIterable iter X.env x = pure x := by intro _; rfl) : DS X W (.For tg iter body [] pos) (dFor wi g tb) := by
  refine PS.imp (ps_for hp hc hi hg hb hs) ?_
  rintro De σ H ⟨sd, T, DD, st, ok, L, q⟩
  refine ⟨sd, T, _, _, st, ok, L.exok st, fun items gd T1 J H1 k it o f => ?_, q⟩
  refine ⟨fun i m σ2 H2 => m = items.length - i ∧ i ≤ items.length ∧ ∃ sd2 T2, StOk X.K H2 T2 sd2 σ2 ∧ DOk X.K H2 T2 ∧ Fr H1 T1 H2 T2 ∧ dLoop g tb gd DD (items.drop i) sd2 T2, ⟨_, rfl, Nat.zero_le _, sd, T1, st.mono f, o, Fr.refl, k⟩, ?_⟩
  rintro i m σ2 H2 ⟨rfl, hi, sd2, T2, st2, o2, f2, q2⟩
  by_cases hlt : i < items.length
  · rw [List.drop_eq_getElem_cons hlt] at q2
    obtain ⟨gd2, q2⟩ := q2
    obtain ⟨go, yl⟩ := (it i H2 T2 f2 o2 gd2).1 hlt
    refine .inr ⟨go, fun σ3 H3 => ∃ sd3 T3, StOk X.K H3 T3 sd3 σ3 ∧ DOk X.K H3 T3 ∧ Fr H1 T1 H3 T3 ∧ dLoop g tb gd DD (items.drop (i + 1)) sd3 T3, fun σ' H' w => ⟨items.length - (i + 1), by omega, rfl, hlt, w⟩, fun x H3 y => ?_⟩
    obtain ⟨d, hd, rd, o3, f3⟩ := yl x H3 y
    rw [List.getElem?_eq_getElem hlt] at hd
    cases hd
    refine ⟨_, sd2, T2, _, st2.mono f3, o3, rd, fun sd' T' σ' H' n s' o' f' => ?_, q2⟩
    have f13 : Fr H1 T1 H' T' := (f2.trans f3).trans f'
    have LL := L.go (f.trans f13)
    have nx : ∀ sd' T'' σ'' H'', dLoop g tb gd DD (items.drop (i + 1)) sd' T'' → StOk X.K H'' T'' sd' σ'' → DOk X.K H'' T'' → Fr H' T' H'' T'' → ∃ sd3 T3, StOk X.K H'' T3 sd3 σ'' ∧ DOk X.K H'' T3 ∧ Fr H1 T1 H'' T3 ∧ dLoop g tb gd DD (items.drop (i + 1)) sd3 T3 :=
      fun sd' T'' σ'' H'' n s'' o'' f'' => ⟨sd', T'', s'', o'', f13.trans f'', n⟩
    exact ⟨sd', T', { DD with nx := dLoop g tb gd DD (items.drop (i + 1)), ct := dLoop g tb gd DD (items.drop (i + 1)), bk := DD.nx }, s', o', ⟨nx, LL.rt, LL.nx, nx, LL.xe⟩, n⟩
  · have e : i = items.length := by omega
    subst e
    rw [List.drop_length] at q2
    exact .inl ⟨(it _ H2 T2 f2 o2 q2.1).2 (Nat.le_refl _), (L.go (f.trans f2)).nx sd2 T2 σ2 H2 q2.2 st2 o2 Fr.refl⟩
end
end DL
namespace DL
open PySem PySem.Spec PyProof.Rows L2

/-! ### operators on ints, texts, lists -/
section
variable {X : Cx} {W : WX}
/-- two ints -/
def rII (C : Int → Int → Prop) (g : Int → Int → D) : R2D := fun x y T Q _ => match x, y with
  | .int i, .int j => C i j ∧ Q (g i j) T
  | _, _ => False
theorem rII_inv {C : Int → Int → Prop} {g : Int → Int → D} {x y : D} {T : Td} {Q : KD} {E : XD} (h : rII C g x y T Q E) : ∃ i j, x = .int i ∧ y = .int j ∧ C i j ∧ Q (g i j) T := by
  unfold rII at h
  split at h
  · exact ⟨_, _, rfl, rfl, h⟩
  · exact h.elim
theorem opII {f : Value → Value → Sem Value} {C : Int → Int → Prop} {g : Int → Int → Int}
    (rule : ∀ (i j : Int) (t u : Tok) (s : Shared) (Q : Value → Shared → Prop) (E : Value → Shared → Prop), C i j → Q (.int (g i j) s.toks) { s with toks := s.toks + 1 } → wpAny (model X.prog X.w) X.A (f (.int i t) (.int j u)) Q E s) :
    OpD X W f (rII C fun i j => .int (g i j)) := OpD.of (opI (X := X) rule) fun σ H Q sd T QD ED x y vx vy L r1 r2 h => by
  obtain ⟨i, j, rfl, rfl, c, q⟩ := rII_inv h
  exact ⟨i, j, r1, r2, c, L.q _ T _ H q rfl L.ok Fr.refl⟩
theorem opIB {f : Value → Value → Sem Value} {g : Int → Int → Bool}
    (rule : ∀ (i j : Int) (t u : Tok) (s : Shared) (Q : Value → Shared → Prop) (E : Value → Shared → Prop), Q (.bool (g i j)) s → wpAny (model X.prog X.w) X.A (f (.int i t) (.int j u)) Q E s) :
    OpD X W f (rII (fun _ _ => True) fun i j => .bl (g i j)) := OpD.of (opB0 (X := X) rule) fun σ H Q sd T QD ED x y vx vy L r1 r2 h => by
  obtain ⟨i, j, rfl, rfl, c, q⟩ := rII_inv h
  exact ⟨i, j, r1, r2, L.q _ T _ H q rfl L.ok Fr.refl⟩
abbrev CAny (_ _ : Int) : Prop := True
abbrev CDv (_ j : Int) : Prop := j ≠ 0 ∧ j.natAbs.log2 < 9000
abbrev CMd (_ j : Int) : Prop := j ≠ 0
abbrev CPw (i j : Int) : Prop := 0 ≤ j ∧ (Builtin.Int.intBits i : Int) * j ≤ 2 ^ 27
theorem od_addI : OpD X W (binaryOp .Add) (rII CAny fun i j => .int (i + j)) := opII fun _ _ _ _ _ _ _ _ q => add_int q
theorem od_sub : OpD X W (binaryOp .Sub) (rII CAny fun i j => .int (i - j)) := opII fun _ _ _ _ _ _ _ _ q => sub_int q
theorem od_mul : OpD X W (binaryOp .Mult) (rII IntMulOk fun i j => .int (i * j)) := opII fun _ _ _ _ _ _ _ c q => mul_int q c
theorem od_fdiv : OpD X W (binaryOp .FloorDiv) (rII CDv fun i j => .int (i.fdiv j)) := opII fun _ _ _ _ _ _ _ c q => floordiv_int c.1 q (.inl (PyProof.noPylong_of_log2 c.2))
theorem od_mod : OpD X W (binaryOp .Mod) (rII CMd fun i j => .int (i.fmod j)) := opII fun _ _ _ _ _ _ _ c q => mod_int' c q
theorem od_pow : OpD X W (binaryOp .Pow) (rII CPw fun i j => .int (i ^ j.toNat)) := opII fun _ _ _ _ _ _ _ c q => pow_int c.1 c.2 q
theorem od_ltI : OpD X W (compareOp .Lt) (rII CAny fun i j => .bl (decide (i < j))) := opIB fun _ _ _ _ _ _ _ q => lt_int q
theorem od_leI : OpD X W (compareOp .LtE) (rII CAny fun i j => .bl (decide (i ≤ j))) := opIB fun _ _ _ _ _ _ _ q => le_int q
theorem od_gtI : OpD X W (compareOp .Gt) (rII CAny fun i j => .bl (decide (j < i))) := opIB fun _ _ _ _ _ _ _ q => gt_int q
theorem od_geI : OpD X W (compareOp .GtE) (rII CAny fun i j => .bl (decide (j ≤ i))) := opIB fun _ _ _ _ _ _ _ q => ge_int q
/-- two texts joined -/
def rSS : R2D := fun x y T Q _ => match x, y with
  | .str a, .str b => a.length + b.length ≤ sizeLine ∧ Q (.str (a ++ b)) T
  | _, _ => False
theorem od_addS : OpD X W (binaryOp .Add) rSS := OpD.of op_add_str fun σ H Q sd T QD ED x y vx vy L r1 r2 h => by
  unfold rSS at h
  split at h
  · exact ⟨_, _, r1, r2, h.1, L.q _ T _ H h.2 rfl L.ok Fr.refl⟩
  · exact h.elim
/-- == of plain values -/
def eqS : D → D → Option Bool
  | .int i, .int j => some (decide (i = j))
  | .str i, .str j => some (decide (i = j))
  | .bl i, .bl j => some (decide (i = j))
  | .non, .non => some true
  | .non, .int _ => some false
  | .int _, .non => some false
  | .non, .bl _ => some false
  | .bl _, .non => some false
  | .non, .str _ => some false
  | .str _, .non => some false
  | .int _, .str _ => some false
  | .str _, .int _ => some false
  | .bl _, .str _ => some false
  | .str _, .bl _ => some false
  | _, _ => none
theorem eqS_V {K : PySem.W.Frag} {H : Hp} {T : Td} {x y : D} {vx vy : V} {b : Bool} (e : eqS x y = some b) (r1 : RD K H T x vx) (r2 : RD K H T y vy) : scal vx vy = true ∧ decide (vx = vy) = b := by
  cases x <;> cases y <;> first | (exfalso; simp [eqS] at e; done) | (
    simp only [eqS, Option.some.injEq] at e
    subst e
    simp only [RD] at r1 r2
    subst r1 r2
    simp [scal])
def rEqS : R2D := fun x y T Q _ => match eqS x y with
  | some b => Q (.bl b) T
  | none => False
def rNeS : R2D := fun x y T Q _ => match eqS x y with
  | some b => Q (.bl (!b)) T
  | none => False
theorem od_eqS : OpD X W (compareOp .Eq) rEqS := OpD.of op_eq fun σ H Q sd T QD ED x y vx vy L r1 r2 h => by
  unfold rEqS at h
  split at h
  · rename_i b e
    obtain ⟨h1, h2⟩ := eqS_V e r1 r2
    exact ⟨h1, by rw [h2]; exact L.q _ T _ H h rfl L.ok Fr.refl⟩
  · exact h.elim
theorem od_neS : OpD X W (compareOp .NotEq) rNeS := OpD.of op_ne fun σ H Q sd T QD ED x y vx vy L r1 r2 h => by
  unfold rNeS at h
  split at h
  · rename_i b e
    obtain ⟨h1, h2⟩ := eqS_V e r1 r2
    exact ⟨h1, by rw [h2]; exact L.q _ T _ H h rfl L.ok Fr.refl⟩
  · exact h.elim
/-- is None, is not None -/
def isN : D → Option Bool
  | .non => some true
  | .val v => some (decide (v = .non))
  | _ => some false
theorem isN_V {K : PySem.W.Frag} {H : Hp} {T : Td} {x : D} {vx : V} {b : Bool} (e : isN x = some b) (r1 : RD K H T x vx) : decide (vx = .non) = b := by
  cases x
  all_goals simp only [isN, Option.some.injEq] at e
  all_goals subst e
  case non => have r : vx = _ := r1; subst r; rfl
  case bl => have r : vx = _ := r1; subst r; rfl
  case int => have r : vx = _ := r1; subst r; rfl
  case str => have r : vx = _ := r1; subst r; rfl
  case val => have r : vx = _ := r1; subst r; rfl
  case ref => have r : vx = _ := r1; subst r; rfl
  case tup => obtain ⟨_, _, r, _⟩ := r1; subst r; rfl
  case lst => obtain ⟨_, _, r, _⟩ := r1; subst r; rfl
  case dct => obtain ⟨_, _, _, r, _⟩ := r1; subst r; rfl
  case slo => obtain ⟨_, _, _, r, _⟩ := r1; subst r; rfl
  case obj => obtain ⟨_, _, _, r, _⟩ := r1; subst r; rfl
  case exc => obtain ⟨_, _, _, r, _⟩ := r1; subst r; rfl
  case fn => obtain ⟨r, _⟩ := r1; subst r; rfl
def rIsN : R2D := fun x y T Q _ => match y with
  | .non => match isN x with
    | some b => Q (.bl b) T
    | none => False
  | _ => False
def rNotN : R2D := fun x y T Q _ => match y with
  | .non => match isN x with
    | some b => Q (.bl (!b)) T
    | none => False
  | _ => False
theorem od_isN : OpD X W (compareOp .Is) rIsN := OpD.of op_isN fun σ H Q sd T QD ED x y vx vy L r1 r2 h => by
  cases y <;> try exact h.elim
  simp only [rIsN] at h
  split at h
  · rename_i b e
    exact ⟨r2, by rw [isN_V e r1]; exact L.q _ T _ H h rfl L.ok Fr.refl⟩
  · exact h.elim
theorem od_notN : OpD X W (compareOp .IsNot) rNotN := OpD.of op_notN fun σ H Q sd T QD ED x y vx vy L r1 r2 h => by
  cases y <;> try exact h.elim
  simp only [rNotN] at h
  split at h
  · rename_i b e
    exact ⟨r2, by rw [isN_V e r1]; exact L.q _ T _ H h rfl L.ok Fr.refl⟩
  · exact h.elim
/-- -i -/
def rU1 (g : Int → D) : R1D := fun x T Q _ => match x with
  | .int i => Q (g i) T
  | _ => False
theorem ud_negI : UnD X W (unaryOp .USub) (rU1 fun i => .int (-i)) := UnD.of un_neg fun σ H Q sd T QD ED x vx L r1 h => by
  cases x <;> try exact h.elim
  exact ⟨_, r1, L.q _ T _ H h rfl L.ok Fr.refl⟩
end

/-! ### calls of what is built in -/
section
variable {X : Cx} {W : WX} {x : Str} {e : Expr} {es : List Expr} {t : TDA} {p pos : Pos} {r : RAD}
theorem de_callB {id : String} (hc : CallD X W (.builtin id) r) (hg : Gl X x) (hm : X.mg x = none) (hv : bootBuiltins x = some (.builtin id)) (ha : DA X W (e :: es) t) (hn : x ≠ "__name__" := by decide) (hdb : (x == ("__debug__" : Str)) = false := by decide)
    (he : starEach (e :: es) X.env = (false, eval e X.env) :: starEach es X.env := by rfl) (hpl : (backTo pos (starEach es X.env)).any (·.1) = false := by rfl) : DE X W (.Call (.Name x p) (e :: es) [] pos) (dCL r t) :=
  DE.mk fun pins s σ H Q sd T QD ED I L h => wpAny_Call_Name_kw (ld_blt I hg hm hv
    (PyProof.Rows.callWith_builtin1 (thn (ha.one I L.st L.ok L.x h pos) fun us s1 ⟨xs, vs, H1, T1, B⟩ => hc pins s1 σ H1 Q sd T1 QD ED xs vs us B.I (L.go B.ok B.fr) B.rd B.rv B.k.h) he hpl) hn hdb)
theorem de_callTy {C : String} (hc : CallD X W (.type C) r) (hg : Gl X x) (hm : X.mg x = none) (hv : bootBuiltins x = some (.type C)) (ha : DA X W (e :: es) t) (hn : x ≠ "__name__" := by decide) (hdb : (x == ("__debug__" : Str)) = false := by decide)
    (he : starEach (e :: es) X.env = (false, eval e X.env) :: starEach es X.env := by rfl) (hpl : (backTo pos (starEach es X.env)).any (·.1) = false := by rfl) : DE X W (.Call (.Name x p) (e :: es) [] pos) (dCL r t) :=
  DE.mk fun pins s σ H Q sd T QD ED I L h => wpAny_Call_Name_kw (ld_blt I hg hm hv
    (PyProof.Rows.callWith_type1 (thn (ha.one I L.st L.ok L.x h pos) fun us s1 ⟨xs, vs, H1, T1, B⟩ => hc pins s1 σ H1 Q sd T1 QD ED xs vs us B.I (L.go B.ok B.fr) B.rd B.rv B.k.h) he hpl) hn hdb)
/-- one int in, something out -/
def rI1 (C : Int → Prop) (g : Int → D) : RAD := fun xs T Q _ => match xs with
  | [.int i] => C i ∧ Q (g i) T
  | _ => False
theorem rds1 {K : PySem.W.Frag} {H : Hp} {T : Td} {d : D} {vs : List V} (r : RDs K H T [d] vs) : ∃ v, vs = [v] ∧ RD K H T d v := by
  obtain ⟨v, r1, e, h1, h2⟩ := r
  have h2' : r1 = [] := h2
  subst e h2'
  exact ⟨v, rfl, h1⟩
theorem rds2 {K : PySem.W.Frag} {H : Hp} {T : Td} {d d' : D} {vs : List V} (r : RDs K H T [d, d'] vs) : ∃ v v', vs = [v, v'] ∧ RD K H T d v ∧ RD K H T d' v' := by
  obtain ⟨v, r1, e, h1, h2⟩ := r
  obtain ⟨v', e', h3⟩ := rds1 h2
  subst e e'
  exact ⟨v, v', rfl, h1, h3⟩
theorem cd_abs : CallD X W (.builtin "abs") (rI1 (fun _ => True) fun i => .int i.natAbs) := CallD.of call_abs fun σ H Q sd T QD ED xs vs L rs h => by
  unfold rI1 at h
  split at h
  · rename_i i
    obtain ⟨v, rfl, r⟩ := rds1 rs
    have r' : v = .int i := r
    subst r'
    refine ⟨i, rfl, ?_⟩
    have e : (if i < 0 then -i else i) = (i.natAbs : Int) := by split <;> omega
    rw [e]
    exact L.q _ T _ H h.2 rfl L.ok Fr.refl
  · exact h.elim
def rMax : RAD := fun xs T Q _ => match xs with
  | [.int i, .int j] => Q (.int (max i j)) T
  | _ => False
def rMin : RAD := fun xs T Q _ => match xs with
  | [.int i, .int j] => Q (.int (min i j)) T
  | _ => False
theorem cd_max (hc : X.calm = true) : CallD X W (.builtin "max") rMax := CallD.of (call_max2 hc) fun σ H Q sd T QD ED xs vs L rs h => by
  unfold rMax at h
  split at h
  · rename_i i j
    obtain ⟨v, v', rfl, r, r2⟩ := rds2 rs
    have r' : v = .int i := r
    have r2' : v' = .int j := r2
    subst r' r2'
    refine ⟨i, j, rfl, ?_⟩
    have e : (if j > i then j else i) = max i j := by rw [Int.max_def]; split <;> split <;> omega
    rw [e]
    exact L.q _ T _ H h rfl L.ok Fr.refl
  · exact h.elim
theorem cd_min (hc : X.calm = true) : CallD X W (.builtin "min") rMin := CallD.of (call_min2 hc) fun σ H Q sd T QD ED xs vs L rs h => by
  unfold rMin at h
  split at h
  · rename_i i j
    obtain ⟨v, v', rfl, r, r2⟩ := rds2 rs
    have r' : v = .int i := r
    have r2' : v' = .int j := r2
    subst r' r2'
    refine ⟨i, j, rfl, ?_⟩
    have e : (if j < i then j else i) = min i j := by rw [Int.min_def]; split <;> split <;> omega
    rw [e]
    exact L.q _ T _ H h rfl L.ok Fr.refl
  · exact h.elim
/-- int(x) of an int, a bool -/
def rInt : RAD := fun xs T Q _ => match xs with
  | [.int i] => Q (.int i) T
  | [.bl b] => Q (.int (if b then 1 else 0)) T
  | _ => False
theorem cd_int : CallD X W (.type "int") rInt := CallD.of call_int1 fun σ H Q sd T QD ED xs vs L rs h => by
  unfold rInt at h
  split at h
  · rename_i i
    obtain ⟨v, rfl, r⟩ := rds1 rs
    have r' : v = .int i := r
    subst r'
    exact .inl ⟨i, rfl, L.q _ T _ H h rfl L.ok Fr.refl⟩
  · rename_i b
    obtain ⟨v, rfl, r⟩ := rds1 rs
    have r' : v = .bl b := r
    subst r'
    exact .inr ⟨b, rfl, L.q _ T _ H h rfl L.ok Fr.refl⟩
  · exact h.elim
/-- len -/
def lenD (T : Td) : D → Option Nat
  | .lst xs => some xs.length
  | .tup xs => some xs.length
  | .ref a => match T a with
    | some (.lst xs) => some xs.length
    | _ => none
  | _ => none
def rLenQ : RAD := fun xs T Q _ => match xs with
  | [x] => match lenD T x with
    | some n => Q (.int n) T
    | none => False
  | _ => False
theorem lenD_V {H : Hp} {T : Td} {x : D} {v : V} {n : Nat} (e : lenD T x = some n) (o : DOk X.K H T) (r : RD X.K H T x v) : ∃ p ys, v = .ref p ∧ (SqL X.K H p ys ∨ SqT X.K H p ys) ∧ ys.length = n := by
  cases x <;> simp only [lenD] at e <;> try (cases e; done)
  · rename_i a
    split at e
    · rename_i xs ht
      cases e
      obtain ⟨vs, hv, rs⟩ := o a _ ht
      exact ⟨a, vs, r, .inl (SqL.of hv), rs.length.symm⟩
    · cases e
  · rename_i xs
    cases e
    obtain ⟨a, vs, e, t, rs⟩ := r
    exact ⟨a, vs, e, .inr t.sq, rs.length.symm⟩
  · rename_i xs
    cases e
    obtain ⟨a, vs, e, t, rs⟩ := r
    exact ⟨a, vs, e, .inl t.sq, rs.length.symm⟩
theorem cd_len : CallD X W (.builtin "len") rLenQ := CallD.of call_len_seq fun σ H Q sd T QD ED xs vs L rs h => by
  unfold rLenQ at h
  split at h
  · split at h
    · rename_i n e
      obtain ⟨v, rfl, r⟩ := rds1 rs
      obtain ⟨p, ys, rfl, hs, hl⟩ := lenD_V e L.ok r
      exact ⟨p, ys, rfl, hs, by rw [hl]; exact L.q _ T _ H h rfl L.ok Fr.refl⟩
    · exact h.elim
  · exact h.elim
end

/-! ### subscripts -/
def IxD (X : Cx) (W : WX) (r : R2D) : Prop :=
  ∀ (value slice : Expr) pins s σ H Q sd T QD ED (x y : D) (vx vy : V) (v u : Value), Inv X pins σ H s → LE X.K W σ H Q sd T QD ED → RD X.K H T x vx → RelV vx v → RD X.K H T y vy → RelV vy u → r x y T QD ED →
    subscripted slice false v u = operate [v, u] (getItem v u) → wpAny (model X.prog X.w) X.A (subscriptTail value slice v u) (EP X pins σ Q) X.xe s
theorem IxD.of {X : Cx} {W : WX} {r0 : R2} {r : R2D} (h : IxR X r0)
    (i : ∀ σ H Q sd T QD ED x y vx vy, LE X.K W σ H Q sd T QD ED → RD X.K H T x vx → RD X.K H T y vy → r x y T QD ED → r0 vx vy H Q) : IxD X W r :=
  fun value slice pins s σ H Q sd T QD ED x y vx vy v u I L r1 r2 r3 r4 q hs => h value slice pins s σ H vx vy v u Q I r2 r4 (i σ H Q sd T QD ED x y vx vy L r1 r3 q) hs
theorem IxD.or {X : Cx} {W : WX} {r r' : R2D} (h : IxD X W r) (h' : IxD X W r') : IxD X W (fun x y T Q E => r x y T Q E ∨ r' x y T Q E) :=
  fun value slice pins s σ H Q sd T QD ED x y vx vy v u I L r1 r2 r3 r4 q hs => q.elim (fun q => h value slice pins s σ H Q sd T QD ED x y vx vy v u I L r1 r2 r3 r4 q hs) (fun q => h' value slice pins s σ H Q sd T QD ED x y vx vy v u I L r1 r2 r3 r4 q hs)
theorem atI_RD {K : PySem.W.Frag} {H : Hp} {T : Td} {ds : List D} {vs : List V} {i : Int} {d : D} (r : RDs K H T ds vs) (e : atI ds i = some d) : ∃ v, atI vs i = some v ∧ RD K H T d v := by
  unfold atI at e ⊢
  rw [← r.length]
  cases q : ixN ds.length i with
  | none => rw [q] at e; cases e
  | some j =>
    rw [q] at e
    exact r.get e
section
variable {X : Cx} {W : WX} {a b : Expr} {ta tb : TDE} {pos : Pos} {r : R2D}
theorem de_ix (hr : IxD X W r) (ha : DE X W a ta) (hb : DE X W b tb) (hs : PlainIx b := by intro _ _; rfl) : DE X W (.Subscript a b pos) (dBin r ta tb) :=
  DE.mk fun pins s σ H Q sd T QD ED I L h => Subscript_ (ha.two hb I L h fun x y vx vy v u s2 H2 T2 I2 L2 r1 r2 r3 r4 q => hr a b pins s2 σ H2 Q sd T2 QD ED x y vx vy v u I2 L2 r1 r2 r3 r4 q.h (hs _ _))
/-- the items that an int may pick -/
def itemsD (T : Td) : D → Option (List D)
  | .lst xs => some xs
  | .tup xs => some xs
  | .ref a => match T a with
    | some (.lst xs) => some xs
    | _ => none
  | _ => none
def rIx : R2D := fun x y T Q _ => match y with
  | .int i => match itemsD T x with
    | some xs => match atI xs i with
      | some d => Q d T
      | none => False
    | none => False
  | _ => False
theorem ixd_seq : IxD X W rIx := IxD.of (IxR.or ix_list ix_tup) fun σ H Q sd T QD ED x y vx vy L r1 r2 h => by
  cases y <;> try exact h.elim
  rename_i i
  simp only [rIx] at h
  split at h
  · rename_i xs e
    split at h
    · rename_i d ed
      have r2' : vy = .int i := r2
      subst r2'
      cases x <;> simp only [itemsD] at e <;> try (cases e; done)
      · rename_i a
        split at e
        · rename_i xs' ht
          cases e
          obtain ⟨vs, hv, rs⟩ := L.ok a _ ht
          obtain ⟨v, e1, e2⟩ := atI_RD rs ed
          have r1' : vx = .ref a := r1
          subst r1'
          exact .inl ⟨a, vs, i, v, rfl, rfl, SqL.of hv, e1, L.q _ T _ H h e2 L.ok Fr.refl⟩
        · cases e
      · cases e
        obtain ⟨a, vs, e, t, rs⟩ := r1
        obtain ⟨v, e1, e2⟩ := atI_RD rs ed
        exact .inr ⟨a, vs, i, v, e, rfl, t.sq, e1, L.q _ T _ H h e2 L.ok Fr.refl⟩
      · cases e
        obtain ⟨a, vs, e, t, rs⟩ := r1
        obtain ⟨v, e1, e2⟩ := atI_RD rs ed
        exact .inl ⟨a, vs, i, v, e, rfl, t.sq, e1, L.q _ T _ H h e2 L.ok Fr.refl⟩
    · exact h.elim
  · exact h.elim
end
end DL
namespace DL
open PySem PySem.Spec PyProof.Rows L2

/-! ### what is called by its address -/
theorem cx_none {P : Program} {w : World} {outer : List Env} {H : Hp} {s : Shared} {u : Value} {s' : Shared} (h : L2.CX P w outer H s (fun _ _ _ => False) u s') : False := by
  obtain ⟨_, _, _, _, _, _, _, _, _, _, _, _, z⟩ := h
  exact z
section
variable {X : Cx} {W : WX} {pins : List (Addr × Obj)} {σ : L2.St} {H : Hp} {s : Shared} {k : Nat} {f C g p : Addr} {sp : SpD} {T : Td} {sd : SD} {QD : KD} {ED : XD} {Q : VK} {xs dds : List D} {vs : List V} {us : List Value}
theorem make_guards {A : Around} {C : Addr} {us : List Value} {kw : List (Str × Value)} (h : A.guards = some []) : (A.under (.builtin "type.__call__" ⟨.ref C :: us, kw⟩)).guards = some [] := by
  rw [← h]
  first | rfl | simp [Around.under, Code.guards, Code.isGuard, guardIds, pushGuards, h]

/-! ### slotted instances: made -/
theorem tdel_none {T : Td} {a b : Addr} (h : T b = none) : tdel T a b = none := by
  unfold tdel
  split
  · rfl
  · exact h
theorem all_slots {K : PySem.W.Frag} {H : Hp} {T : Td} : ∀ {ys : List D} {ws : List (Option V)}, ys.length = ws.length → (∀ (i : Nat) d, (ys.map some)[i]? = some (some d) → ∃ v, ws[i]? = some (some v) ∧ RD K H T d v) →
    ∃ zs : List V, ws = zs.map some ∧ RDs K H T ys zs
  | [], [], _, _ => ⟨[], rfl, rfl⟩
  | [], _ :: _, h, _ => by cases h
  | _ :: _, [], h, _ => by cases h
  | y :: ys, w :: ws, h, q => by
    obtain ⟨v, e, r⟩ := q 0 y rfl
    obtain ⟨zs, e2, r2⟩ := all_slots (ys := ys) (ws := ws) (by simpa using h) fun i d z => q (i + 1) d (by simpa using z)
    simp only [List.getElem?_cons_zero, Option.some.injEq] at e
    subst e e2
    exact ⟨v :: zs, rfl, RDs.cons r r2⟩
/-- all stands but a and dx, which are new; a is tracked -/
theorem laid2 {K : PySem.W.Frag} {H H' : Hp} {T : Td} {a dx : Addr} {u : DO} (o : DOk K H T) (na : H a = none) (nd : H dx = none) (same : ∀ b, b ≠ a → b ≠ dx → H' b = H b) (w : DObj K H' (tput T a u) a u) : Fr H T H' (tput T a u) ∧ DOk K H' (tput T a u) := by
  have fr : Fr H T H' (tput T a u) := fun b o e n => by
    have h1 := ne_of_none e na
    have h2 := ne_of_none e nd
    exact ⟨(same b h1 h2).trans e, by rw [tput_ne h1]; exact n⟩
  refine ⟨fr, fun b q e => ?_⟩
  by_cases z : b = a
  · subst z
    rw [tput_same] at e
    cases e
    exact w
  · rw [tput_ne z] at e
    have h2 : b ≠ dx := fun y => by
      rw [y, o.fresh nd] at e
      cases e
    exact (o b q e).mono fr (same b z h2)
/-- C(..): a new instance without slots, then __init__ -/
def rMake (C : Addr) (sp : SpD) : RAD := fun xs T Q E => ∀ x, T x = none → sp (.ref x :: xs) (tput T x (.slo C [])) (fun r T2 => r = .non ∧ ∃ ys, T2 x = some (.slo C (ys.map some)) ∧ Q (.slo C ys) (tdel T2 x)) (fun ex T2 => E ex (tdel T2 x))
theorem cd_make (b : Bd (k + 1) X W) (M : Mk X.K C f) (F : GR X.prog X.w X.K X.mg X.base f k sp) : CallD X W (.ref C) (rMake C sp) := by
  intro pins s σ H Q sd T QD ED xs vs us I L rs r h
  have n1 : H (s.heap.objs.size + 1) = none := I.hok.fresh (Nat.le_succ _)
  have n0 : H s.heap.objs.size = none := I.hok.fresh (Nat.le_refl _)
  have ne : s.heap.objs.size ≠ s.heap.objs.size + 1 := Nat.ne_of_lt (Nat.lt_succ_self _)
  have I1 := Inv.made (C := C) I
  have S1 : SlX.Slt (upd (upd H s.heap.objs.size (.own (s.heap.objs.size + 1))) (s.heap.objs.size + 1) (.ins C s.heap.objs.size [])) (s.heap.objs.size + 1) C s.heap.objs.size [] := .inl ⟨upd_same, rfl⟩
  obtain ⟨_, sl, mA, e0, r0, _, _⟩ := SlX.slt_at I1 S1
  have I2 := SlX.inv_slot (vs' := []) (sl' := sl) (h' := (s.heap.push PySem.W.emptyDict).push (PySem.W.instObj C s.heap.objs.size)) (t' := s.toks) I1 S1 (fun b o _ _ e => e) (fun m e => e) e0 (SlX.SlR.nil _)
  have hT := L.ok.fresh n1
  have hq := h _ hT
  have same : ∀ b, b ≠ s.heap.objs.size + 1 → b ≠ s.heap.objs.size → SlX.slH (upd (upd H s.heap.objs.size (.own (s.heap.objs.size + 1))) (s.heap.objs.size + 1) (.ins C s.heap.objs.size [])) (s.heap.objs.size + 1) C s.heap.objs.size [] b = H b := fun b h1 h2 => by
    rw [SlX.slH_ne h1 h2, upd_ne h1, upd_ne h2]
  have hx1 : SlX.slH (upd (upd H s.heap.objs.size (.own (s.heap.objs.size + 1))) (s.heap.objs.size + 1) (.ins C s.heap.objs.size [])) (s.heap.objs.size + 1) C s.heap.objs.size [] (s.heap.objs.size + 1) = some (SlX.SlO (s.heap.objs.size + 1) C s.heap.objs.size []) := by
    unfold SlX.slH
    exact upd_same
  have hx0 : SlX.slH (upd (upd H s.heap.objs.size (.own (s.heap.objs.size + 1))) (s.heap.objs.size + 1) (.ins C s.heap.objs.size [])) (s.heap.objs.size + 1) C s.heap.objs.size [] s.heap.objs.size = some (.xd []) := by
    unfold SlX.slH
    rw [upd_ne ne]
    exact upd_same
  obtain ⟨fr, ok⟩ := laid2 (u := .slo C []) L.ok n1 n0 same ⟨s.heap.objs.size, [], hx1, hx0, by rw [tput_ne ne]; exact L.ok.fresh n0, rfl, fun i d e => by simp at e⟩
  have L2' : LE X.K W σ (SlX.slH (upd (upd H s.heap.objs.size (.own (s.heap.objs.size + 1))) (s.heap.objs.size + 1) (.ins C s.heap.objs.size [])) (s.heap.objs.size + 1) C s.heap.objs.size []) (fun v H' => v = .non ∧ Q (.ref (s.heap.objs.size + 1)) H') sd (tput T (s.heap.objs.size + 1) (.slo C [])) (fun r T2 => r = .non ∧ ∃ ys, T2 (s.heap.objs.size + 1) = some (.slo C (ys.map some)) ∧ QD (.slo C ys) (tdel T2 (s.heap.objs.size + 1))) (fun ex T2 => ED ex (tdel T2 (s.heap.objs.size + 1))) := by
    refine ⟨L.st.mono fr, ok, ?_, fun ex T' c da H' a b c' d => L.x ex _ c da H' a (b.mono Fr.free) c'.free ((fr.trans d).trans Fr.free)⟩
    rintro d T2 v H' ⟨ed, ys, eT, hQ⟩ rd o2 f2
    subst ed
    refine ⟨rd, L.q _ _ _ _ hQ ?_ o2.free ((fr.trans f2).trans Fr.free)⟩
    obtain ⟨dx, ws, h1, h0, td, hl, hs⟩ := o2 _ _ eT
    rw [List.length_map] at hl
    have ew := all_slots hl hs
    obtain ⟨zs, rfl, rz⟩ := ew
    exact ⟨_, dx, zs, rfl, tdel_same, tdel_none td, h0, h1, RDs.mono Fr.free ys rz⟩
  refine wpAny_call (make_map (f := f) I.kIn M.makes M.init (beq_iff_eq.mp M.fn) (codeAny_mono (F _ X.stack _ _ (Value.ref (s.heap.objs.size + 1) :: us) (V.ref (s.heap.objs.size + 1) :: vs) _ (WE W σ) (b.hr.make C us []) (make_guards b.hg) (I2.env0.make C us []) (.cons rfl r)
    (sp_of L2' (RDs.cons (d := .ref (s.heap.objs.size + 1)) rfl (RDs.mono fr xs rs)) L2'.ok Fr.refl hq)) fun r s' hq' => ?_))
  cases r with
  | error e => exact passAt b.tk σ pins _ _ e s' I2 hq'
  | ok fl =>
    cases fl with
    | ret u =>
      obtain ⟨v, H', I3, rv, ev, q3⟩ := I2.after hq'
      subst ev
      exact ⟨rv, ⟨V.ref (s.heap.objs.size + 1), H', I3, rfl, q3⟩⟩
    | next => exact False.elim hq'
    | brk => exact False.elim hq'
    | cont => exact False.elim hq'
end

/-! ### attributes -/
def AttrD (X : Cx) (W : WX) (f : Str) (r : R1D) : Prop :=
  ∀ pins s σ H Q sd T QD ED (x : D) (vx : V) (v : Value) (b : Bool), Inv X pins σ H s → LE X.K W σ H Q sd T QD ED → RD X.K H T x vx → RelV vx v → r x T QD ED → wpAny (model X.prog X.w) X.A (getAttr v f b) (EP X pins σ Q) X.xe s
theorem AttrD.or {X : Cx} {W : WX} {f : Str} {r r' : R1D} (h : AttrD X W f r) (h' : AttrD X W f r') : AttrD X W f (fun x T Q E => r x T Q E ∨ r' x T Q E) :=
  fun pins s σ H Q sd T QD ED x vx v b I L r1 r2 q => q.elim (h pins s σ H Q sd T QD ED x vx v b I L r1 r2) (h' pins s σ H Q sd T QD ED x vx v b I L r1 r2)
section
variable {X : Cx} {W : WX} {f : Str} {r : R1D} {e : Expr} {te ta tv : TDE} {pos pos' : Pos} {C p g : Addr} {i k : Nat} {sp : SpD}
theorem de_attr (ho : AttrD X W f r) (he : DE X W e te) (hb : attributeBase e f X.env (eval e X.env) = eval e X.env := by rfl) : DE X W (.Attribute e f pos) (dUn r te) :=
  DE.mk fun pins s σ H Q sd T QD ED I L h => attr_of hb (thn (he.one I L.st L.ok L.x h) fun v s1 ⟨x, vx, H1, T1, B⟩ => ho pins s1 σ H1 Q sd T1 QD ED x vx v _ B.I (L.go B.ok B.fr) B.rd B.rv B.k.h)
/-- the slots of x, an instance of C -/
def slotsD (C : Addr) (T : Td) : D → Option (List (Option D))
  | .slo C' xs => if C' = C then some (xs.map some) else none
  | .ref a => match T a with
    | some (.slo C' ds) => if C' = C then some ds else none
    | _ => none
  | _ => none
theorem slotsD_V {K : PySem.W.Frag} {H : Hp} {T : Td} {x : D} {vx : V} {ds : List (Option D)} (o : DOk K H T) (r : RD K H T x vx) (e : slotsD C T x = some ds) :
    ∃ a dx vs, vx = .ref a ∧ SlX.Slt H a C dx vs ∧ ds.length = vs.length ∧ ∀ (i : Nat) d, ds[i]? = some (some d) → ∃ v, vs[i]? = some (some v) ∧ RD K H T d v := by
  cases x <;> simp only [slotsD] at e <;> try (cases e; done)
  · rename_i a
    split at e
    · rename_i C' ds' ht
      split at e
      · rename_i z
        subst z
        cases e
        obtain ⟨dx, vs, h1, h2, h3, h4, h5⟩ := o a _ ht
        exact ⟨a, dx, vs, r, .inr ⟨h1, h2⟩, h4, h5⟩
      · cases e
    · cases e
  · rename_i C' xs
    split at e
    · rename_i z
      subst z
      cases e
      obtain ⟨a, dx, vs, e, t1, t2, h2, h1, rs⟩ := r
      refine ⟨a, dx, vs.map some, e, .inr ⟨h1, h2⟩, by rw [List.length_map, List.length_map, rs.length], fun i d q => ?_⟩
      rw [List.getElem?_map] at q
      cases q1 : xs[i]? with
      | none => rw [q1] at q; cases q
      | some d' =>
        rw [q1] at q
        have q' : d' = d := Option.some.inj (Option.some.inj q)
        subst q'
        obtain ⟨v, e1, e2⟩ := rs.get q1
        exact ⟨v, by rw [List.getElem?_map, e1]; rfl, e2⟩
    · cases e
def rSlot (C : Addr) (i : Nat) : R1D := fun x T Q _ => match slotsD C T x with
  | some ds => match ds[i]? with
    | some (some d) => Q d T
    | _ => False
  | none => False
theorem ad_slot (c : SlX.SCls X.K C) (t : SlX.Slot1 X.K C f p i) : AttrD X W f (rSlot C i) := by
  intro pins s σ H Q sd T QD ED x vx v b I L r1 r2 h
  unfold rSlot at h
  split at h
  · rename_i ds e
    split at h
    · rename_i d ed
      obtain ⟨a, dx, vs, rfl, hs, _, hv⟩ := slotsD_V L.ok r1 e
      obtain ⟨u, e1, e2⟩ := hv i d ed
      obtain rfl : v = Value.ref a := r2
      exact SlX.getslot_ok I hs c t e1 fun w s' I' rw' => L.here I' e2 rw' h
    · exact h.elim
  · exact h.elim
/-- a property of an instance that never changes -/
def rProp (C : Addr) (sp : SpD) : R1D := fun x T Q E => (slotsD C T x).isSome = true ∧ sp [x] T Q (fun _ _ => False)
structure PrS (K : PySem.W.Frag) (C : Addr) (f : Str) (p g : Addr) : Prop where
  at_ : PySem.W.findIn K (.ref C) f = some (some (.ref p))
  get : PySem.W.specialIn K (.ref p) "__get__" = some (some (.builtin "property.__get__"))
  tk : PySem.W.takesIn K (.ref p) = some true
  rc : ∃ rest, PySem.W.recIn K p "property" = some (.ref g :: rest)
theorem ad_prop (bd : Bd (k + 1) X W) (c : SlX.SCls X.K C) (P : PrS X.K C f p g) (F : GR X.prog X.w X.K X.mg X.base g k sp) : AttrD X W f (rProp C sp) := by
  intro pins s σ H Q sd T QD ED x vx v b I L r1 r2 ⟨h1, h⟩
  cases e : slotsD C T x with
  | none => rw [e] at h1; cases h1
  | some ds =>
    obtain ⟨a, dx, vs, rfl, hs, _, _⟩ := slotsD_V L.ok r1 e
    obtain rfl : v = Value.ref a := r2
    obtain ⟨sl, od, _, J, _⟩ := SlX.slt_inst I hs
    obtain ⟨rest, hrec⟩ := P.rc
    have I1 : Inv X pins σ H { s with toks := s.toks + 1 } := I.tok (s.toks + 1)
    refine PySem.W.get_bind I.kIn J (PySem.W.plainGet_of (c.get f)).1 (PySem.W.findObj_data c.ic P.at_ P.get P.tk) (PySem.W.plainGet_of (c.get f)).2 (wpAny_call (PySem.W.prop_get (s := { s with toks := s.toks + 1 }) I.kIn hrec ?_))
    refine codeAny_mono (F X.A.in1 X.stack { s with toks := s.toks + 1 } H [.ref a] [.ref a] Q (fun _ _ _ => False) bd.hr.in1 (show X.A.guards = some [] from bd.hg) I1.env0.in1 (.cons rfl .nil) ⟨[x], T, QD, _, RDs.cons r1 RDs.nil, L.ok, h, L.q, fun _ _ _ _ _ z => z.elim⟩) fun r s' hq => ?_
    cases r with
    | error er => exact (cx_none hq).elim
    | ok fl =>
      cases fl with
      | ret u =>
        obtain ⟨v, H', I2, rv, q⟩ := I1.after hq
        exact wpAny_of_eq (PySem.W.handedOut_of (handed_of rv)) ⟨v, H', I2, rv, q⟩
      | next => exact False.elim hq
      | brk => exact False.elim hq
      | cont => exact False.elim hq
/-- self.f = e -/
def putO (i : Nat) (d : D) (ds : List (Option D)) : List (Option D) := (ds ++ List.replicate (i + 1 - ds.length) none).set i (some d)
def dSlot (C : Addr) (i : Nat) (ta tv : TDE) : TDS := fun Dn sd T => tv sd T (fun y T1 => ta sd T1 (fun x T2 => match x with
  | .ref a => match T2 a with
    | some (.slo C' ds) => C' = C ∧ Dn.nx sd (tput T2 a (.slo C (putO i y ds)))
    | _ => False
  | _ => False) (fun ex T1 => Dn.xe ex sd T1)) (fun ex T1 => Dn.xe ex sd T1)
theorem slo_put {K : PySem.W.Frag} {H : Hp} {T : Td} {ds : List (Option D)} {vs : List (Option V)} {y : D} {vy : V} (hl : ds.length = vs.length) (h : ∀ (i : Nat) d, ds[i]? = some (some d) → ∃ v, vs[i]? = some (some v) ∧ RD K H T d v) (ry : RD K H T y vy) (i : Nat) :
    (putO i y ds).length = (SlX.putS i vy vs).length ∧ ∀ (j : Nat) d, (putO i y ds)[j]? = some (some d) → ∃ v, (SlX.putS i vy vs)[j]? = some (some v) ∧ RD K H T d v := by
  refine ⟨by unfold putO SlX.putS; simp [hl], fun j d q => ?_⟩
  by_cases hj : j = i
  · subst hj
    unfold putO at q
    rw [List.getElem?_set_self (by simp; omega)] at q
    have q' : y = d := Option.some.inj (Option.some.inj q)
    subst q'
    exact ⟨vy, SlX.putS_get _ _ _, ry⟩
  · unfold putO at q
    rw [List.getElem?_set_ne (Ne.symm hj)] at q
    by_cases hlt : j < ds.length
    · rw [List.getElem?_append_left hlt] at q
      obtain ⟨v, e1, e2⟩ := h j d q
      exact ⟨v, (SlX.putS_ne hj).mpr e1, e2⟩
    · rw [List.getElem?_append_right (by omega), List.getElem?_replicate] at q
      split at q <;> cases q
theorem ds_slot {o value : Expr} (c : SlX.SCls X.K C) (t : SlX.Slot1 X.K C f p i) (ha : DE X W o ta) (hv : DE X W value tv) (hs : swapsWith value (some (.Attribute o f pos')) pos.line X.env = pure false := by rfl) : DS X W (.Assign [.Attribute o f pos'] value pos) (dSlot C i ta tv) := by
  refine PS.imp (SlX.ps_sl ha hv hs) fun De σ H ⟨sd, T, DD, st, ok, L, q⟩ => ?_
  refine ⟨sd, T, _, _, ⟨st, ok, fun y T1 vy H1 k r o f1 => ?_, L.exok st⟩, q⟩
  refine ⟨sd, T1, _, _, ⟨st.mono f1, o, fun x T2 vx H2 k2 r2 o2 f2 => ?_, EXok.go (L.exok st) f1⟩, k⟩
  cases x <;> try exact k2.elim
  rename_i a
  simp only at k2
  split at k2
  · rename_i C' ds ht
    obtain ⟨ec, k2⟩ := k2
    subst ec
    obtain ⟨dx, vs, h1, h2, h3, h4, h5⟩ := o2 a _ ht
    have ne : dx ≠ a := fun z => by
      rw [z, h1] at h2
      exact SlX.slO_not (Option.some.inj h2)
    refine ⟨a, C', dx, p, vs, i, r2, .inr ⟨h1, h2⟩, c, t, ?_⟩
    have eH : SlX.slH H2 a C' dx (SlX.putS i vy vs) = upd H2 a (SlX.SlO a C' dx (SlX.putS i vy vs)) := by
      unfold SlX.slH
      funext b
      by_cases z : b = a
      · rw [z, upd_same, upd_same]
      · rw [upd_ne z, upd_ne z]
        by_cases w : b = dx
        · rw [w, upd_same, h2]
        · rw [upd_ne w]
    rw [eH]
    have fw : Fr H2 T2 (upd H2 a (SlX.SlO a C' dx (SlX.putS i vy vs))) (tput T2 a (.slo C' (putO i y ds))) := Fr.write ht
    obtain ⟨l5, g5⟩ := slo_put h4 h5 (RD.mono f2 y r) i
    refine L.nx sd _ _ _ k2 (((st.mono f1).mono f2).mono fw) (o2.write ht ?_) ((f1.trans f2).trans fw)
    refine ⟨dx, _, upd_same, by rw [upd_ne ne]; exact h2, by rw [tput_ne ne]; exact h3, l5, fun j d q => ?_⟩
    obtain ⟨v, e1, e2⟩ := g5 j d q
    exact ⟨v, e1, RD.mono fw d e2⟩
  · exact k2.elim
end
end DL
/-! An own exception over ValueError whose first __init__ says super().__init__(value), self.value = value. -/
namespace VX
open PySem PySem.Spec PyProof.Rows
/-! ### ValueError.__init__ bound to an instance -/
abbrev veI : Value := .builtin "ValueError.__init__"
abbrev wrO (x : Addr) : Obj := { cls := .type "method-wrapper", dict := none, data := .fields #[veI, .ref x], slots := #[] }
theorem ty_veI : typeOf veI = pure (.type "wrapper_descriptor") := by show builtinType _ = _; rw [builtinType_eq_fast]; kernel_rfl
theorem nc_veI : (kfb_private% "nameAndClass") veI = (pure (("__init__" : Str), Value.type "ValueError") : Sem (Str × Value)) := by kernel_rfl
section
open PySem.W
variable {prog : Program} {w : World} {M : Model} {A : Around} {E : Value → Shared → Prop} {h : Heap} {g : Array GenState} {d : Drawn} {t : Nat} {os : OsState}
theorem bind_wr {x C : Addr} {P : Fin → Shared → Prop} (hin : W.Looks M h (isInstance (.ref x) (.type "ValueError")) true) (hq : P (.done (.ret (.ref h.objs.size))) ⟨h.push (wrO x), g, d, t, os⟩) :
    wpAny M A (Builtin.«wrapper_descriptor.__get__» ⟨[veI, .ref x, .ref C], []⟩) P E ⟨h, g, d, t, os⟩ := by
  unfold Builtin.«wrapper_descriptor.__get__»
  refine wpAny_bind (wpAny_of_eq (a := (veI, some (.ref x), some (.ref C))) (by first | rfl | kernel_rfl) ?_)
  show wpAny M A ((kfb_private% "checkInstance") veI (.ref x) >>= fun _ => newFields "method-wrapper" [veI, .ref x] >>= fun r => ret r) P E _
  refine wpAny_bind ?_
  show wpAny M A ((kfb_private% "nameAndClass") veI >>= _) _ E _
  refine wpAny_bind (wpAny_of_eq nc_veI ?_)
  show wpAny M A (isInstance (.ref x) (.type "ValueError") >>= _) _ E _
  refine wpAny_bind (hin.at ?_)
  refine KFB.if_not rfl ?_
  exact wpAny_pure (wpAny_bind (wpAny_newObj_type (wpAny_pure hq)))
theorem sup_ga {so D x C : Addr} {l₀ l : List Value} {K : Frag} {name : Str} {tk : Tok} {Q : Fin → Shared → Prop}
    (hso : h.get? so = some (ks_superObj D x C)) (hno : W.Looks (model prog w) h (opaqueClassAbove (.ref C)) none)
    (hC : W.Looks (model prog w) h (mroOf (.ref C)) l₀) (hl : (l₀.dropWhile (· != .ref D)).drop 1 = l) (X : K.In h) (hf : alongIn K name l = some (some veI)) (hxC : x ≠ C) (hn : (name == ("__class__" : Str)) = false)
    (hin : W.Looks (model prog w) h (isInstance (.ref x) (.type "ValueError")) true) (hq : Q (.done (.ret (.ref h.objs.size))) ⟨h.push (wrO x), g, d, t, os⟩) :
    wpAny (model prog w) A (Builtin.«super.__getattribute__» ⟨[.ref so, .str name tk], []⟩) Q E ⟨h, g, d, t, os⟩ := by
  have hlk := ESX.slot_wd.lookup
  have hne : (Value.ref x == Value.ref C) = false := by simp [hxC]
  have hTf := ty_veI
  have hTi : Shared.TypeIs ⟨h, g, d, t, os⟩ veI "wrapper_descriptor" := ty_veI
  have hdt : (ks_superObj D x C).data = .fields #[.ref D, .ref x, .ref C] := rfl
  have f0 : (#[.ref D, .ref x, .ref C] : Array Value)[0]? = some (.ref D) := rfl
  have f1 : (#[.ref D, .ref x, .ref C] : Array Value)[1]? = some (.ref x) := rfl
  have f2 : (#[.ref D, .ref x, .ref C] : Array Value)[2]? = some (.ref C) := rfl
  unfold Builtin.«super.__getattribute__»
  repeat (first
    | (with_reducible refine wpAny_field hso hdt f0 ?_) | (with_reducible refine wpAny_field hso hdt f1 ?_) | (with_reducible refine wpAny_field hso hdt f2 ?_)
    | (with_reducible refine ks_wpAny_notOpaque hno ?_)
    | (with_reducible refine Looks.at hC ?_; rw [hl])
    | (refine ks_forIn_along X (fun _ _ => rfl) rfl ?_ hf)
    | (with_reducible refine wpAny_call_entry ESX.slot_wd hTi ESX.entry_wd ?_ (ESX.args_wd _ _ _))
    | (with_reducible refine bind_wr hin ?_)
    | (with_reducible refine ⟨_, rfl, ?_⟩)
    | (simp only [hn, hne, Bool.or_false, Bool.false_eq_true, if_false])
    | wp_step
    | dsimp only)
  all_goals exact hq
theorem sup_method {so D x C : Addr} {l₀ l : List Value} {K : Frag} {name : Str} {pl : Sem Bool} {Q : Value × List Value → Shared → Prop}
    (hso : h.get? so = some (ks_superObj D x C)) (hno : W.Looks (model prog w) h (opaqueClassAbove (.ref C)) none)
    (hC : W.Looks (model prog w) h (mroOf (.ref C)) l₀) (hl : (l₀.dropWhile (· != .ref D)).drop 1 = l) (X : K.In h) (hf : alongIn K name l = some (some veI)) (hxC : x ≠ C) (hn : (name == ("__class__" : Str)) = false)
    (hin : W.Looks (model prog w) h (isInstance (.ref x) (.type "ValueError")) true) (hq : Q (.ref h.objs.size, []) ⟨h.push (wrO x), g, d, t + 1, os⟩) : wpAny (model prog w) A (getMethod (.ref so) name pl) Q E ⟨h, g, d, t, os⟩ := by
  have hlk := F.ks_slot_super_ga.lookup
  have hcan := F.ks_canon_super_ga
  have hT : ∀ t', (⟨h, g, d, t', os⟩ : Shared).TypeIs (.ref so) "super" := fun _ => ⟨_, hso, rfl⟩
  unfold getMethod
  refine wpAny_bind (wpAny_specialOf (hT _) hlk ?_)
  show wpAny _ _ (if (Manifest.canonical "super.__getattribute__" != "object.__getattribute__") = true then _ else _) _ _ _
  rw [if_pos hcan]
  unfold getAttr getAttrBy
  refine wpAny_bind (wpAny_bind (wpAny_mkText (wpAny_holding (wpAny_bind (wpAny_typeOf (hT _) (wpAny_bind (wpAny_of_eq hlk ?_)))))))
  show wpAny _ _ (getAttrByItsOwn (.ref so) (.str name t) (.type "super") (.builtin "super.__getattribute__") true false) _ _ _
  unfold getAttrByItsOwn hookBefore callGetattribute boundAndCalled
  refine wpAny_bind (wpAny_of_eq (show (if onTheHeap (.type "super") then typeLookup (.type "super") "__getattr__" else pure none) = pure none from rfl) ?_)
  refine wpAny_bind (wpAny_attempt (wpAny_holding ?_))
  show wpAny _ _ (bindSpecial (.builtin "super.__getattribute__") (.ref so) >>= _) _ _ _
  refine wpAny_bind (wpAny_of_eq (F.ks_slot_super_ga.bind _) ?_)
  refine wpAny_mono (Q := fun v s' => v = .ref h.objs.size ∧ s' = ⟨h.push (wrO x), g, d, t + 1, os⟩) (E := fun _ _ => False)
    (wpAny_call_entry F.ks_slot_super_ga (hT _) F.ks_entry_super_ga (sup_ga hso hno hC hl X hf hxC hn hin ⟨_, rfl, rfl, rfl⟩) (F.ks_gaArgs_super _ _)) (fun v s' hv => ?_) fun _ _ z => z.elim
  obtain ⟨rfl, rfl⟩ := hv
  exact wpAny_pure (wpAny_pure hq)
end
section
open PySem.W PySem.Calls
variable {M : Model} {A : Around} {E : Value → Shared → Prop} {s : Shared}
theorem cw_wr {pos : Pos} {u x : Addr} {env : Env} {e : Expr} {Q : Value → Shared → Prop}
    (h : wpAny M A (spliced (backTo pos (starEach [e] env))) (fun vs s₁ => s₁.heap.get? u = some (wrO x) ∧ wpAny M A (call (.ref u) vs) Q E s₁) E s)
    (he : starEach [e] env = (false, eval e env) :: starEach [] env := by rfl) : wpAny M A (callWith pos (.ref u) [] (backTo pos (starEach [e] env)) []) Q E s := by
  have hplain : (backTo pos (starEach [e] env)).any (·.1) = false := by rw [he]; rfl
  have h2 : wpAny M A (evalArgs (.ref u) true (backTo pos (starEach [e] env)) []) (fun a s₁ => s₁.heap.get? u = some (wrO x) ∧ wpAny M A (call (.ref u) ([] ++ a.pos) a.kw) Q E s₁) E s := by
    rw [he] at h ⊢
    exact evalArgs_plain h
  unfold callWith
  refine wpAny_bind (wpAny_holding (wpAny_mono h2 (fun a s₁ h₁ => wpAny_bind (wpAny_standAt ?_)) fun _ _ x => x))
  obtain ⟨ho, hcall⟩ := h₁
  simp only [hplain, List.any_nil, Bool.or_false]
  refine wpAny_bind (m := keeperOf (.ref u)) ?_
  unfold keeperOf
  refine wpAny_bind (wpAny_load ho ?_)
  simp only [wrO, show (Value.type "method-wrapper" != Value.type "method") = true by decide, show (Value.type "method-wrapper" == Value.type "builtin_function_or_method" || Value.type "method-wrapper" == Value.type "method-wrapper") = true by decide, if_true]
  refine wpAny_pure ?_
  exact wpAny_bind (wpAny_mono hcall (fun r s₂ hr => wpAny_bind (wpAny_holding (wpAny_point (wpAny_pure hr)))) fun _ _ x => x)
end
section
variable {prog : Program} {w : World} {A : Around} {E : Value → Shared → Prop} {h : Heap} {g : Array GenState} {d : Drawn} {t : Nat} {os : OsState}
variable {nm q : Str} {C N : Addr} {bs bm : List Value} {hdct : Bool} {sn : List Str} {sub : List Value} {ab : Bool} {col : Option Bool} {dd : Option Addr} {k0 k1 k2 k3 k5 : Option Value}
theorem call_wr {u e t0 : Addr} {rest : List Value} {Q : Value → Shared → Prop}
    (hC : h.get? C = some (excClassObj nm q C N bs bm hdct sn sub ab col dd k0 k1 k2 k3 k5 "ValueError.__new__")) (he : h.get? e = some (HandSPX.excO C t0)) (hu : h.get? u = some (wrO e)) (hrest : rest.length ≤ sizeLine)
    (hq : ∀ h' t1, (∀ b o, b ≠ e → h.get? b = some o → h'.get? b = some o) → h'.get? e = some (HandSPX.excO C t1) → Q .none ⟨h', g, d, t, os⟩) :
    wpAny (model prog w) A (call (.ref u) rest) Q E ⟨h, g, d, t, os⟩ := by
  refine wpAny_call (codeAny_of_tree ?_)
  show wpAny _ A.in1 (callAny (.ref u) ⟨rest, []⟩) _ _ _
  simp only [callAny]
  refine wpAny_bind (wpAny_load hu ?_)
  simp only [wrO, show (Value.type "method-wrapper" == Value.type "method" || Value.type "method-wrapper" == Value.type "builtin_function_or_method" || Value.type "method-wrapper" == Value.type "method-wrapper") = true by decide, if_true]
  refine W.KFB.if_so (by decide) ?_
  refine wpAny_bind (ESX.check_bound F.excBase_ValueError hC he rfl ?_)
  refine wpAny_bind (wpAny_pure (wpAny_pure ?_))
  refine ⟨Code.quiet_builtin _ (by decide +kernel), codeAny_builtin F.excBase_ValueError.initEntry ?_⟩
  rw [Around.under_plainId F.excBase_ValueError.init.plain _]
  wp_walk
  refine hq _ h.objs.size (fun b o hb ho => ?_) ?_
  · rw [Heap.get?_update_other _ _ (Ne.symm hb)]
    exact Heap.get?_push_of_some _ ho
  · rw [Heap.get?_update_self _ (Heap.get?_push_of_some _ he) rfl]
    rfl
end
end VX
namespace VX
open PySem PySem.Spec PyProof.Rows L2
abbrev slScope : Scope := { kind := .function, names := [("self", .local), ("value", .local), ("__class__", .free), ("super", .globalImplicit)], isGenerator := false, isCoroutine := false, more := [] }
/-- the first error class at D: its __init__ at f -/
structure SlF (prog : Program) (K : PySem.W.Frag) (f D : Addr) (fd : FuncData) : Prop where
  ex : ∃ (oc : Value) (od : Option Addr) (osl : Array (Option Value)) (qual : Str) (params : Arguments) (dV kV doc pm : Value) (an : Option Addr) (cda cc : Addr) (ct : Value) (ccl cl : Value) (cdd cld : Option Addr) (ccs csl : Array (Option Value))
    (vs : Array Value) (file : Str) (tf : Tok) (ar : Arg) (p0 p1 p2 p3 p4 p5 p6 p7 p8 p9 : Pos) (cdD : ClassData),
    fd = PySem.W.ksFn "__init__" qual params [.Expr (.Call (.Attribute (.Call (.Name "super" p0) [] [] p1) "__init__" p2) [.Name "value" p3] [] p4) p5, .Assign [.Attribute (.Name "self" p6) "value" p7] (.Name "value" p8) p9] slScope dV kV doc pm an (.ref cda) ct cc ∧
    K.lookup f = some ⟨oc, od, .func fd, osl⟩ ∧ PySem.W.codeIn K (.ref cda) qual = true ∧ K.lookup cda = some ⟨ccl, cdd, .fields vs, ccs⟩ ∧ vs[2]? = some (.str file tf) ∧ ((prog.main.file : Str) == file) = true ∧
    K.lookup cc = some ⟨cl, cld, .cell (some (.ref D)), csl⟩ ∧ PySem.W.clsIn K D = some cdD ∧ (params.posonlyargs ++ params.args).head? = some ar ∧ ar.arg = "self" ∧ (p2.endLine == p4.line) = true
  top : (prog.main.scope.names.lookup ("super" : Str)).isSome = false
  opq : PySem.W.nsIn K cStatics "thirdparty.any" = some none
/-- an error class at C -/
structure SlC (K : PySem.W.Frag) (D C : Addr) : Prop where
  o : OexC K C
  ve : PySem.W.mroIn K C (.type "ValueError") = some true
  sub : PySem.W.mroIn K C (.ref D) = some true
  sup : PySem.W.ks_superIn K C D "__init__" = some (some veI)
  noV : PySem.W.findIn K (.ref C) "value" = some none
/-- its promise -/
def slSp (K : PySem.W.Frag) (D : Addr) : Sp := fun vs H Q _ => ∃ (a C : Addr) (v : V), vs = [.ref a, v] ∧ SlC K D C ∧ H a = some (exo a C none) ∧ ∀ dx, H dx = none → dx ≠ a → Q .non (upd (upd H dx (exd dx [("value", v)])) a (exo a C (some dx)))

theorem ev_sup {p0 p1 p2 p3 p4 : Pos} {env : Env} (hp : (p2.endLine == p4.line) = true) : eval (.Call (.Attribute (.Call (.Name "super" p0) [] [] p1) "__init__" p2) [.Name "value" p3] [] p4) env = (do
    let ov ← attributeBase (.Call (.Name "super" p0) [] [] p1) "__init__" env (eval (.Call (.Name "super" p0) [] [] p1) env)
    standAt p2.atName
    let (f, first) ← holding [ov] (getMethod ov "__init__" (do return (← importBound (.Call (.Name "super" p0) [] [] p1) env).getD true))
    callWith p4 f first (backTo p4 (starEach [.Name "value" p3] env)) []) := by
  have e : ∀ few, methodCallPos few (.Call (.Name "super" p0) [] [] p1) env p2 p4 = pure p4 := fun few => by
    unfold methodCallPos
    rw [hp, Bool.or_true]
    rfl
  show (do
    let ov ← attributeBase (.Call (.Name "super" p0) [] [] p1) "__init__" env (eval (.Call (.Name "super" p0) [] [] p1) env)
    standAt p2.atName
    methodCall (.Call (.Name "super" p0) [] [] p1) "__init__" p2 p4 env ov 1 (backTo p4 (starEach [.Name "value" p3] env)) []) = _
  unfold methodCall
  simp only [e]
  rfl
section
variable {CX : CXT} {P : Program} {w : World} {K : PySem.W.Frag} {mg : Str → Option Value} {base : Heap} {k : Nat}
/-- a frame of which no slot is looked at -/
theorem inv_bare {qual : Str} {sc : Scope} {f : Addr} {cd : Value} {A : Around} {outer : List Env} {s : Shared} {H : Hp} {E : XK} {h₀ : Heap} {m : Str → Option Value} {t : Nat} (hk : sc.kind = .function) (hd : A.handled = none) (e0 : Env0 P w K mg base A outer s H)
    (hn : h₀.Ns s.heap.objs.size m) (keep : ∀ b o, s.heap.get? b = some o → h₀.get? b = some o) : Inv (cxOf CX P w K mg base [] qual { sc with names := [] } f cd A outer s H E) [] [] H { s with heap := h₀, toks := t } := by
  have noA : ∀ b : Addr, b ∉ (cxOf CX P w K mg base [] qual { sc with names := [] } f cd A outer s H E).ex := fun b z => absurd (show b ∈ ([] : List Addr) from z) (by simp)
  have noC : ∀ x c, (cxOf CX P w K mg base [] qual { sc with names := [] } f cd A outer s H E).env.cells.lookup x = some c → False := fun x c e => by
    have e' : ([] : List (Str × Addr)).lookup x = some c := e
    cases e'
  have noK : ∀ y (z : NameKind), (cxOf CX P w K mg base [] qual { sc with names := [] } f cd A outer s H E).env.kindOf y = some z → False := fun y z e => by
    have e' : ([] : List (Str × NameKind)).lookup y = some z := e
    cases e'
  refine ⟨⟨e0.mod, hk, rfl, rfl, Nat.le_refl _, fun y z c h1 _ => (noC y c h1).elim, fun y hy => ?_, fun y c _ h => (noC y c h).elim, fun _ => hd, Around.frames_deeper e0.frames, .inr ⟨rfl, rfl⟩, fun b z => absurd z (noA b), e0.bs, e0.bsz, fun b _ _ => noA b, fun b z => absurd z (noA b), e0.funs, e0.frf⟩,
    rfl, e0.bare, Un.kept keep, ⟨_, hn, fun i y v h1 h2 h3 => ?_⟩, fun y c h => (noC y c h).elim, e0.hok.fresh (Nat.le_refl _), fun y c h => (noC y c h).elim, fun p hp => absurd (show p ∈ ([] : List (Addr × Obj)) from hp) (by simp), e0.hok.kept keep, rfl⟩
  · rcases hy with hy | hy
    · exact (noK _ _ hy).elim
    · exact (noK _ _ hy).elim
  · have h1' : ([] : List Str)[i]? = some y := h1
    simp at h1'
theorem slip_init {f D : Addr} {fd : FuncData} (F : SlF P K f D fd) (hms : mg "super" = none) : FnOk P w K mg base CX (k + 1) f fd ["self", "value"] (slSp K D) := by
  obtain ⟨oc, od, osl, qual, params, dV, kV, doc, pm, an, cda, cc, ct, ccl, cl, cdd, cld, ccs, csl, vs0, file, tf, ar, p0, p1, p2, p3, p4, p5, p6, p7, p8, p9, cdD, rfl, lk, hcd, lc, hvs, hfile, lcc, hD, hhd, har, hpp⟩ := F.ex
  refine ⟨fun vs H Q E ⟨a, C, v, e, _⟩ => by rw [e]; rfl, fun A outer s H args us vs Q E hr e0 hb r hsp => ?_⟩
  obtain ⟨a, C, v, rfl, SC, ea, hq⟩ := hsp
  obtain ⟨ua, uv, rfl, ra, rv⟩ : ∃ ua uv, us = [ua, uv] ∧ RelV (.ref a) ua ∧ RelV v uv := by
    cases r with
    | cons r1 r2 =>
      cases r2 with
      | cons r3 r4 =>
        cases r4
        exact ⟨_, _, rfl, r1, r3⟩
  obtain rfl : ua = Value.ref a := ra
  have KX : K.In s.heap := e0.mod.kin.keeps fun b o e => (e0.bs b o e).1
  have lim : s.heap.NoLimit := e0.mod.nolimit.keeps fun b o e => (e0.bs b o e).1
  refine PySem.ks_codeAny_call_defAt (binds := (["self", "value"] : List Str).zip [Value.ref a, uv]) hr.depth (KX _ _ lk) rfl lim (PySem.W.codeRec_of KX hcd) rfl hb (by show ∀ x ∈ slScope.names, x.2 ≠ .cell; decide) (fun x hx => ?_) (fun h₀ hns keep => ?_) rfl rfl rfl
  · rcases List.mem_cons.mp hx with rfl | hx
    · rfl
    · rcases List.mem_cons.mp hx with rfl | hx
      · rfl
      · cases hx
  have I0 : Inv (cxOf CX P w K mg base [] qual { slScope with names := [] } f (.ref cda) A outer s H E) [] [] H { s with heap := h₀, toks := s.toks + 2 } := inv_bare rfl hr.hd e0 hns keep
  show _root_.PySem.wpAt (model P w) (A.deeper (PySem.W.ksEnv qual slScope s.heap.objs.size f (.ref cda) cc)) (.func _ (PySem.W.ksEnv qual slScope s.heap.objs.size f (.ref cda) cc)) (execs _ (PySem.W.ksEnv qual slScope s.heap.objs.size f (.ref cda) cc)) _ _ { s with heap := h₀, toks := s.toks + 2 }
  have KX0 : K.In h₀ := I0.kIn
  obtain ⟨t1, hoa⟩ := exo_at I0.hok ea
  obtain ⟨nm, q, N, bs, bm, sn, sub, ab, col, dd, k0, k1, k2, k3, k5, hC, hbm⟩ := SC.o.cls
  have hclC : PySem.W.clsIn K C = some { name := nm, bases := bs, mro := .ref C :: bm, ns := N, qualname := q, hasDict := true, slotNames := sn, subclasses := sub, abstract := ab, collection := col, hasDel := false } := by unfold PySem.W.clsIn; rw [hC] <;> rfl
  have haC : a ≠ C := fun z => by
    have z2 := KX0 _ _ hC
    rw [← z, hoa] at z2
    cases z2
  have hs1 : ((["self", "value"] : List Str).zip [Value.ref a, uv]).reverse.lookup ("self" : Str) = some (.ref a) := by
    simp [List.lookup]
    rfl
  have hs2 : ((["self", "value"] : List Str).zip [Value.ref a, uv]).reverse.lookup ("value" : Str) = some uv := by simp [List.lookup]
  obtain ⟨oD, hD1, hD2⟩ : ∃ oD, h₀.get? D = some oD ∧ oD.data = .cls cdD := by
    unfold PySem.W.clsIn at hD
    split at hD
    · rename_i c d cd' sl ho
      cases hD
      exact ⟨_, KX0 _ _ ho, rfl⟩
    · cases hD
  refine ks_wpAt_execs_cons (ks_wpAt_Expr_any (ks_wpAt_MethodCall (pl := do return (← importBound (.Call (.Name "super" p0) [] [] p1) (PySem.W.ksEnv qual slScope s.heap.objs.size f (.ref cda) cc)).getD true) ?_ (ev_sup hpp)))
  refine ks_wpAt_super_base (ar := ar) (env := PySem.W.ksEnv qual slScope s.heap.objs.size f (.ref cda) cc) (by rfl) (by rfl) (by decide) rfl (KX0 _ _ lk) rfl hhd rfl (KX0 _ _ lc) rfl hvs hfile F.top ?_
  obtain ⟨mb, hb1, hb2⟩ := e0.mod.blt
  have bk : ∀ b o, base.get? b = some o → h₀.get? b = some o := I0.bk
  refine PySem.W.ks_loadName_global rfl (by rfl) (Calls.loadGlobal_builtin (env := PySem.W.ksEnv qual slScope s.heap.objs.size f (.ref cda) cc) (e0.mod.glob.keeps bk) hms (hb1.keeps bk) ((hb2 _ (by decide)).trans (by rfl : bootBuiltins ("super" : Str) = some (.type "super"))) ⟨rfl, ?_⟩)
  refine wpAny_loadName_free rfl (by rfl) rfl ⟨_, KX0 _ _ lcc, rfl⟩ ?_
  rw [har]
  refine wpAny_loadName_local rfl (by rfl) hns hs1 ?_
  refine ks_wpAny_isType_cls hD1 hD2 ⟨rfl, ?_⟩
  refine ks_wpAny_call_super hD1 hD2 hoa rfl (fun c e => by cases e) (PySem.W.looks_mroIn KX0 SC.sub) (fun h1 e1 kp1 => ?_)
  have I1 : Inv (cxOf CX P w K mg base [] qual { slScope with names := [] } f (.ref cda) A outer s H E) [] [] H { s with heap := h1, toks := s.toks + 2 } := I0.kept (t' := s.toks + 2) kp1
  have KX1 : K.In h1 := I1.kIn
  have hns1 := hns.keeps kp1
  have lkC : PySem.W.Looks (model P w) h1 (mroOf (.ref C)) (.ref C :: bm) := (PySem.W.looks_clsIn KX1 hclC).andThen .now
  have hin : PySem.W.Looks (model P w) h1 (isInstance (.ref a) (.type "ValueError")) true := PySem.W.Looks.andThen (fun A Q E s k q => wpAny_typeOf_ref (k _ _ (kp1 _ _ hoa)) q) (PySem.W.looks_mroIn KX1 SC.ve)
  have hal : PySem.W.alongIn K "__init__" (((Value.ref C :: bm).dropWhile (· != .ref D)).drop 1) = some (some veI) := by
    have z := SC.sup
    unfold PySem.W.ks_superIn at z
    rw [hclC] at z
    exact z
  refine sup_method e1 (PySem.W.looks_opaque KX1 F.opq) lkC rfl KX1 hal haC (by decide) hin ?_
  have hu : (h1.push (wrO a)).get? h1.objs.size = some (wrO a) := Heap.get?_push_size h1 rfl
  have kp2 : ∀ b o, h1.get? b = some o → (h1.push (wrO a)).get? b = some o := fun b o e => Heap.get?_push_of_some _ e
  have I2 : Inv (cxOf CX P w K mg base [] qual { slScope with names := [] } f (.ref cda) A outer s H E) [] [] H { s with heap := h1.push (wrO a), toks := s.toks + 2 + 1 } := I1.kept (t' := s.toks + 2 + 1) kp2
  have hns2 := hns1.keeps kp2
  refine cw_wr (x := a) ?_ (by rfl)
  refine Calls.spliced_cons (wpAny_Name (wpAny_loadName_local rfl (by rfl) hns2 hs2 ?_) (by decide))
  refine Calls.spliced_nil ⟨hu, ?_⟩
  refine call_wr (t0 := t1) (I2.kIn _ _ hC) (kp2 _ _ (kp1 _ _ hoa)) hu (by show 1 ≤ sizeLine; rw [sizeLine_eq]; omega) fun h3 t3 kp3 e3 => ?_
  have J := I2.write (t' := s.toks + 2 + 1) (x := a) (e := a) (o := exo a C none) (by rw [ea]; exact True.intro) (.inl rfl) kp3 ⟨_, e3⟩ (exo_ok e3)
  have eu : upd H a (exo a C none) = H := by
    funext b
    by_cases hb : b = a
    · rw [hb, upd_same, ea]
    · rw [upd_ne hb]
  rw [eu] at J
  have hns3 : h3.Ns s.heap.objs.size fun y => ((["self", "value"] : List Str).zip [Value.ref a, uv]).reverse.lookup y := by
    obtain ⟨oL, es, ep, hL, rr⟩ := hns2
    refine ⟨oL, es, ep, kp3 _ _ (fun z => ?_) hL, rr⟩
    have z2 : H s.heap.objs.size = none := e0.hok.fresh (Nat.le_refl _)
    rw [z, ea] at z2
    cases z2
  refine ks_wpAt_execs_cons (wpAt_of_wpAny ?_)
  refine plainObj_wpAny_Assign_Attribute (wpAny_Name (wpAny_loadName_local rfl (by rfl) hns3 hs2 (wpAny_Name (wpAny_loadName_local rfl (by rfl) hns3 hs1 ?_) (by decide))) (by decide)) (by rfl)
  refine ost_new (X := cxOf CX P w K mg base [] qual { slScope with names := [] } f (.ref cda) A outer s H E) SC.o J ea SC.noV rv fun dx s4 nd ne J4 => ?_
  refine wpAt_of_wpAny (wpAny_execs_nil ?_)
  exact ⟨.non, _, J4.os, J4.bare, J4.base, J4.hok, rfl, hq dx nd ne⟩
end
end VX
namespace DL
open PySem PySem.Spec PyProof.Rows L2 VX

/-! ### a caught exception, tracked -/
section
variable {X : Cx} {pins : List (Addr × Obj)} {σ : L2.St} {H : Hp} {s : Shared} {a : Addr} {c : Value} {d : Option Addr}
theorem track (I : Inv X pins σ H s) (P : EcP a c d s.heap) (na : H a = none) (n0 : X.s_0.heap.get? a = none) (nL : a ≠ X.env.locals) (nC : ∀ x cc, X.env.cells.lookup x = some cc → cc ≠ a) (nP : ∀ p ∈ X.pn ++ pins, p.1 ≠ a) : Inv X pins σ (upd H a (EcO a c d)) s := by
  have ne0 : ∀ {b : Addr} {o : Obj}, X.s_0.heap.get? b = some o → b ≠ a := fun {b o} e z => by rw [z, n0] at e; cases e
  have neH : ∀ {b : Addr} {u : HO}, H b = some u → b ≠ a := fun {b u} e z => by rw [z, na] at e; cases e
  refine ⟨I.ok, I.os, I.bare, ⟨I.base.keep, I.base.slot, fun b o e n hx => ?_, I.base.there, fun b xs e => ?_, fun b o u e => ?_, fun b ps e => ?_⟩, I.loc, I.cell, ?_, fun x cc e => ?_, fun p hp => ?_, fun b u e => ?_, I.len⟩
  · rw [upd_ne (ne0 e)]
    exact I.base.free b o e n hx
  · have q := I.base.tups b xs e
    rw [upd_ne (neH q)]
    exact q
  · have q := I.base.frzs b o u e
    rw [upd_ne (neH q)]
    exact q
  · obtain ⟨m, q⟩ := I.base.tbls b ps e
    exact ⟨m, by rw [upd_ne (neH q)]; exact q⟩
  · rw [upd_ne (Ne.symm nL)]
    exact I.free
  · rw [upd_ne (nC x cc e)]
    exact I.freeC x cc e
  · obtain ⟨h1, h2, h3⟩ := I.pin p hp
    exact ⟨h1, by rw [upd_ne (nP p hp)]; exact h2, h3⟩
  · by_cases z : b = a
    · subst z
      rw [upd_same] at e
      cases e
      obtain ⟨oe, vs, ho, hr⟩ := P
      exact ⟨⟨oe, vs, ho, hr⟩, ⟨oe, ho⟩, fun h1 h2 ⟨o, vs, q, r⟩ k => ⟨o, vs, k _ q, r⟩⟩
    · rw [upd_ne z] at e
      exact (I.hok b u e).stay (fun c v _ q => q) (fun c q => by rw [upd_ne (neH q)]; exact q) fun c xs q => by rw [upd_ne (neH q)]; exact q
/-- an except suite's context -/
abbrev suiteE (X : Cx) (a : Addr) (pn : List (Addr × Obj)) : Cx := { X with A := X.A.mark (some (.ref a)), calm := false, pn := pn, xe := fun _ _ => False }
theorem suiteE_ok (ok : X.Ok) (pn : List (Addr × Obj)) : (suiteE X a pn).Ok :=
  ⟨ok.mod, ok.kind, ok.glob, ok.blt, ok.above, ok.inj, ok.has, ok.cab, (fun z => absurd (show false = true from z) Bool.false_ne_true), ok.frames, ok.stk, ok.exf, ok.bs, ok.bsz, ok.noex, ok.exfs, ok.funs, ok.frf⟩
theorem suiteE_in (I : Inv X pins σ H s) : Inv (suiteE X a (X.pn ++ pins)) [] σ H s :=
  ⟨suiteE_ok I.ok _, I.os, I.bare, I.base, I.loc, I.cell, I.free, I.freeC, fun p hp => I.pin p (by rw [List.append_nil] at hp; exact hp), I.hok, I.len⟩
theorem suiteE_out {pn' : List (Addr × Obj)} (I : Inv (suiteE X a (X.pn ++ pins)) pn' σ H s) (ok : X.Ok) : Inv X pins σ H s :=
  ⟨ok, I.os, I.bare, I.base, I.loc, I.cell, I.free, I.freeC, fun p hp => I.pin p (List.mem_append_left _ hp), I.hok, I.len⟩
end

/-! ### try -/
abbrev WN : WX := fun _ _ _ _ => False
/-- what the clause wishes of an exception of the body -/
def hCond (m : Value → Option Bool) (i : Nat) (ts : TDS) (D : DEnds) : Ex → SD → Td → Prop := fun ex sd T => ∃ b, m ex.cls = some b ∧
  (b = true → ex.ns ≠ [] ∧ ts { nx := fun s2 T2 => D.nx (s2.set i none) T2, rt := D.rt, bk := fun s2 T2 => D.bk (s2.set i none) T2, ct := fun s2 T2 => D.ct (s2.set i none) T2, xe := fun _ _ _ => False } (sd.set i (some (.exc ex.cls ex.ns ex.xs))) T) ∧
  (b = false → D.xe ex sd T)
def dTry (m : Value → Option Bool) (i : Nat) (tb ts : TDS) : TDS := fun D sd T => tb { D with xe := hCond m i ts D } sd T
section
variable {X : Cx} {x n : Str} {c : Value} {i : Nat} {body suite : List Stmt} {b₀ : Stmt} {np pos pos' : Pos} {tb : TDS} {ts : TDS} {Wout : WX} {m : Value → Option Bool}
theorem ds_try_as (hex : X.ex = []) (hs : X.stack = X.env :: X.outer) (hf : X.env.frame = some X.env.locals) (hN : X.N.Nodup) (hi : X.N[i]? = some n) (hln : X.env.kindOf n = some .local) (hc : Names X x c) (tk : L2.Takes X Wout) (hm : ∀ v b, m v = some b → PySem.W.exmOne X.K v c = some b)
    (hb : ∀ (W : WX) (pn : List (Addr × Obj)) (xe : Value → Shared → Prop), L2.Takes (X.tr pn xe) W → PassesOwn (model X.prog X.w) X.A X.env xe → DSs (X.tr pn xe) W body tb)
    (hsu : ∀ (a : Addr) (pn : List (Addr × Obj)), DSs (suiteE X a pn) WN (b₀ :: suite) ts) :
    DS X Wout (.Try body [.ExceptHandler (some (.Name x np)) (some n) (b₀ :: suite) pos'] [] [] pos) (dTry m i tb ts) := by
  refine DS.mk fun pins s σ H De sd T DD I st ok0 L q => ?_
  have ok := I.ok
  have hfr : X.A.frames = some (X.env :: X.outer) := by rw [ok.frames, hs]
  have hloc : Loc X.env.scope n := .inl hln
  let W0 : WX := fun cls d σ' H' => ∃ ex sd' T', hCond m i ts DD ex sd' T' ∧ XR X.K H' T' ex cls d ∧ StOk X.K H' T' sd' σ' ∧ DOk X.K H' T' ∧ Fr H T H' T'
  have LB : LS X.K W0 De { DD with xe := hCond m i ts DD } H T := ⟨L.nx, L.rt, L.bk, L.ct, fun ex sd' T' c da σ' H' n xr st' o f => ⟨ex, sd', T', n, xr, st', o, f⟩⟩
  refine wpAny_Try_except ?_
  refine wpAny_mono ((hb W0 (X.pn ++ pins) (fun e s₁ => wpAny (model X.prog X.w) X.A (noteFrame e X.env) (fun _ s₂ => wpAny (model X.prog X.w) X.A (setFlight e none) (fun _ s₃ =>
    wpAny (model X.prog X.w) X.A (handleBy e X.env [.ExceptHandler (some (.Name x np)) (some n) (b₀ :: suite) pos']) (SP X pins De) X.xe s₃) X.xe s₂) X.xe s₁) (fun u s' xx => ?_) PassesOwn.looking).run [] s σ H De (I.toTry _) ⟨sd, T, _, st, ok0, LB, q⟩) (fun f s1 hsp => ?_) (fun e s1 he => he)
  · obtain ⟨a, B, sI, pins', σ', H', cls, d, rfl, J', nb, up, sky, na, os, ag, ex, sd', T', ⟨b, hb1, hyes, hno⟩, xr, st', ok', fr'⟩ := xx
    have J : Inv X pins σ' H' sI := J'.ofTry ok
    have sky' : Sky B (X.env :: X.outer) a (Zc cls d) X.env.locals s'.heap := by rw [← hs]; exact sky
    have ecls : cls = ex.cls := xr.1
    show wpAny (model X.prog X.w) X.A (noteFrame (.ref a) X.env) _ _ _
    refine Sky.land Zc.steady hfr hf sky' fun h3 fl3 up3 => ?_
    have J3 : Inv X pins σ' H' { s' with heap := h3 } := J.landed nb fl3.1 (up.trans up3) os ag
    obtain ⟨oe3, vs3, he3, hz3, hd3⟩ := fl3.there
    have notFr : ∀ {h : Heap} {o : Obj} {vs : Array Value}, h.FunFrames B (X.env :: X.outer) → h.get? a = some o → o.data = .fields vs → a ∉ frs (X.env :: X.outer) := fun {h o vs} ff e dd hm => by
      obtain ⟨_, o', e', hnf⟩ := ff.mem hm
      rw [e] at e'; cases e'
      exact hnf _ dd
    have nfr := notFr fl3.2.2.1 he3 hd3
    have nL : a ≠ X.env.locals := fun z => nfr (List.mem_filterMap.mpr ⟨X.env, List.mem_cons_self, by rw [hf, z]⟩)
    have nF : a ∉ X.fs := fun hm => by
      obtain ⟨e, he, q⟩ := List.mem_filterMap.mp hm
      exact nfr (List.mem_filterMap.mpr ⟨e, List.mem_cons_of_mem _ he, q⟩)
    have S3 := J3.suite he3 hd3 na nL nF
    refine wpAny_handleBy_cons (codeAny_handlers_test ?_) (by intro q; cases q)
    have LT : PySem.W.Looks (model X.prog X.w) h3 (typeOf (.ref a)) cls := fun A Q E s k q => wpAny_typeOf_ref (k _ _ he3) (by rw [hz3.1]; exact q)
    have LM := PySem.W.exm_one (M := model X.prog X.w) (J3.kIn) LT (hm cls b (by rw [ecls]; exact hb1))
    have test : ∀ {Q : Value → Shared → Prop} {E : Value → Shared → Prop}, Q c { s' with heap := h3 } → wpAny (model X.prog X.w) (X.A.mark (some (.ref a))) (eval (.Name x np) X.env) Q E { s' with heap := h3 } := fun {Q E} q => by
      obtain ⟨hg, hdbg, hm | ⟨hm, hv, hnn⟩⟩ := hc
      · exact ld_glob (X := X.suite a ((a, oe3) :: (X.pn ++ pins))) S3 hg hm q hdbg
      · exact ld_blt (X := X.suite a ((a, oe3) :: (X.pn ++ pins))) S3 hg hm hv q hnn hdbg
    refine test (LM.here ?_)
    cases b with
    | true =>
      refine codeAny_handlers_suite_as ?_
      refine HandSPX.lands_againZ fl3 fun h4 fl4 up4 => ?_
      have J4 : Inv X pins σ' H' { s' with heap := h4 } := J.landed nb fl4.1 ((up.trans up3).trans up4) os ag
      obtain ⟨oe4, vs4, he4, hz4, hd4⟩ := fl4.there
      obtain ⟨nns, hts⟩ := hyes rfl
      have aB : B.get? a = none := fl4.2.1
      have inB : ∀ {b : Addr} {o : Obj}, sI.heap.get? b = some o → b ∉ frs X.stack → b ≠ a := fun {b o} e nf z => by
        have z2 := nb b o e nf
        rw [z, aB] at z2
        cases z2
      have nfs : a ∉ frs X.stack := by rw [hs]; exact nfr
      have n0 : X.s_0.heap.get? a = none := by
        cases e : X.s_0.heap.get? a with
        | none => rfl
        | some o =>
          obtain ⟨o', e'⟩ := J.base.there a o e (by rw [hex]; exact fun z => nomatch z)
          exact absurd rfl (inB e' nfs)
      have nC : ∀ x cc, X.env.cells.lookup x = some cc → cc ≠ a := fun x cc e z => by
        obtain ⟨v, o, h1, h2⟩ := J4.cell x cc e
        have h1' : h4.get? cc = some o := h1
        rw [z, he4] at h1'
        cases h1'
        rw [hd4] at h2
        cases h2
      have nP : ∀ p ∈ X.pn ++ pins, p.1 ≠ a := fun p hp => by
        obtain ⟨e, _, e2, e3, _⟩ := J.pin p hp
        refine inB e fun z => ?_
        rw [hs] at z
        obtain ⟨y, hy, hq⟩ := List.mem_filterMap.mp z
        rcases List.mem_cons.mp hy with w | w
        · rw [w, hf] at hq
          exact e2 (Option.some.inj hq).symm
        · exact e3 (List.mem_filterMap.mpr ⟨y, w, hq⟩)
      have J5 : Inv X pins σ' (upd H' a (EcO a cls d)) { s' with heap := h4 } := track J4 ⟨oe4, vs4, he4, hz4.1, hz4.2, hd4⟩ na n0 nL nC nP
      have fa : Fr H' T' (upd H' a (EcO a cls d)) T' := Fr.laid na (ok'.fresh na)
      have okA : DOk X.K (upd H' a (EcO a cls d)) T' := ok'.laid na
      have rdA : RD X.K (upd H' a (EcO a cls d)) T' (.exc ex.cls ex.ns ex.xs) (.ref a) := by
        obtain ⟨e1, e2⟩ := xr
        rcases e2 with ⟨_, e2⟩ | ⟨dx, vs, ed, td, hx, hl, rs⟩
        · exact absurd e2 nns
        · exact ⟨a, dx, vs, rfl, ok'.fresh na, td, by rw [← e1, ← ed]; exact upd_same, (fa dx _ hx td).1, hl, RDs.mono fa _ rs⟩
      have F0 : Fr H T (upd H' a (EcO a cls d)) T' := fr'.trans fa
      have LA := L.go F0
      refine store_ok (X := suiteE X a (X.pn ++ pins)) (v := .ref a) (suiteE_in J5) hN hi hloc rfl (fun s5 S5 => ?_) (.inr hln)
      refine wpAny_mono ((hsu a (X.pn ++ pins)).run [] s5 _ (upd H' a (EcO a cls d)) { nx := fun σ' H' => De.nx (σ'.set i none) H', rt := De.rt, bk := fun σ' H' => De.bk (σ'.set i none) H', ct := fun σ' H' => De.ct (σ'.set i none) H' } S5
        ⟨_, T', { nx := fun s2 T2 => DD.nx (s2.set i none) T2, rt := DD.rt, bk := fun s2 T2 => DD.bk (s2.set i none) T2, ct := fun s2 T2 => DD.ct (s2.set i none) T2, xe := fun _ _ _ => False }, (st'.mono fa).set i rdA, okA, ⟨fun s2 T2 σ2 H2 n2 t2 o2 f2 => LA.nx (s2.set i none) T2 (σ2.set i none) H2 n2 (t2.none i) o2 f2, LA.rt, fun s2 T2 σ2 H2 n2 t2 o2 f2 => LA.bk (s2.set i none) T2 (σ2.set i none) H2 n2 (t2.none i) o2 f2, fun s2 T2 σ2 H2 n2 t2 o2 f2 => LA.ct (s2.set i none) T2 (σ2.set i none) H2 n2 (t2.none i) o2 f2, fun _ _ _ _ _ _ _ z => z.elim⟩, hts⟩) (fun f s6 hsp => ?_) (fun _ _ z => False.elim z)
      have end_ : ∀ {σ6 : L2.St} {H6 : Hp} {Q : Shared → Prop}, Inv (suiteE X a (X.pn ++ pins)) [] σ6 H6 s6 → (∀ s7, Inv X pins (σ6.set i none) H6 s7 → Q s7) →
          wpAny (model X.prog X.w) X.A (do bindName X.env n .none; unbindBehindTheSuite X.env n pos') (fun _ s7 => Q s7) X.xe s6 := fun {σ6 H6 Q} S6 hq => gone_ok (suiteE_out S6 ok) hN hi hln hq
      cases f with
      | next =>
        obtain ⟨σ6, H6, S6, q6⟩ := hsp
        exact end_ S6 fun s7 J7 => ⟨_, _, J7, q6⟩
      | brk =>
        obtain ⟨σ6, H6, S6, q6⟩ := hsp
        exact end_ S6 fun s7 J7 => ⟨_, _, J7, q6⟩
      | cont =>
        obtain ⟨σ6, H6, S6, q6⟩ := hsp
        exact end_ S6 fun s7 J7 => ⟨_, _, J7, q6⟩
      | ret u =>
        obtain ⟨v6, σ6, H6, S6, r6, q6⟩ := hsp
        exact end_ S6 fun s7 J7 => ⟨_, _, _, J7, r6, q6⟩
    | false =>
      show wpAny _ X.A (handleBy (.ref a) X.env []) _ _ _
      refine wpAny_handleBy_nil ?_
      obtain ⟨k1, k2, k3, oe, vs, Tr, oT, ts', he, hz, hd, h1, hr⟩ := id fl3
      unfold PySem.passOn
      refine wpAny_bind (wpAny_field he hd h1 ?_)
      rw [if_neg (show ¬ ((Value.ref Tr == Value.none) = true) from by simp)]
      have fin : wpAny (model X.prog X.w) X.A (setFlight (.ref a) X.env.frame) (fun _ s4 => wpAny (model X.prog X.w) X.A (throw (.ref a) : Sem Flow) (SP X pins De) X.xe s4) X.xe { s' with heap := h3 } := by
        rw [hf]
        refine HandSPX.setFlight_upZ fl3 fun h4 hh4 up4 => wpAny_throw (tk _ _ ?_)
        exact ⟨a, B, sI, pins, σ', H', cls, d, rfl, J, nb, (up.trans up3).trans up4, .inr (.inr (by rw [hs]; exact hh4)), na, os, ag, L.xe ex sd' T' cls d σ' H' (hno rfl) xr st' ok' fr'⟩
      first
        | exact wpAny_bind (wpAny_pure (wpAny_bind fin))
        | exact wpAny_bind fin
  · cases f with
    | next =>
      obtain ⟨σ', H', J', q⟩ := hsp
      exact wpAny_execs_nil ⟨σ', H', J'.ofTry ok, q⟩
    | brk =>
      obtain ⟨σ', H', J', q⟩ := hsp
      exact ⟨σ', H', J'.ofTry ok, q⟩
    | cont =>
      obtain ⟨σ', H', J', q⟩ := hsp
      exact ⟨σ', H', J'.ofTry ok, q⟩
    | ret u =>
      obtain ⟨v, σ', H', J', r, q⟩ := hsp
      exact ⟨v, σ', H', J'.ofTry ok, r, q⟩
end

/-! ### raise X(e) -/
def dRaise (c : Value) (te : TDE) : TDS := fun D sd T => te sd T (fun x T1 => D.xe ⟨c, ["value"], [x]⟩ sd T1) (fun ex T1 => D.xe ex sd T1)
section
variable {X : Cx} {W : WX} {e : Expr} {te : TDE} {x : Str} {p pos pos' : Pos} {C D0 fI : Addr} {k : Nat} {fd : FuncData}
theorem ds_raise1 (hc : X.calm = true) (tk : L2.Takes X W) (SC : SlC X.K D0 C) (iC : PySem.W.findIn X.K (.ref C) "__init__" = some (some (.ref fI))) (tI : PySem.W.typeIn X.K (.ref fI) = some (.type "function"))
    (F : FnOk X.prog X.w X.K X.mg X.base (L2.CX X.prog X.w) k fI fd ["self", "value"] (slSp X.K D0)) (hr : Room (k + 1) X.A) (hb : Binds X.K fd ["self", "value"] []) (hg : Gl X x) (hm : X.mg x = some (.ref C)) (ha : DE X W e te)
    (hdb : (x == ("__debug__" : Str)) = false := by decide) (he : starEach [e] X.env = (false, eval e X.env) :: starEach [] X.env := by rfl) : DS X W (.Raise (some (.Call (.Name x p) [e] [] pos)) none pos') (dRaise (.ref C) te) := by
  refine PS.imp (ps_raise hc tk (pmk_oex (ta := liftA X.K W (dCons te dNil)) SC.o iC tI F hr hb .nil (fun _ _ _ _ _ _ _ h => (cx_none h).elim) hg hm (da_cons ha da_nil he) hdb he (by rfl))) ?_
  rintro De σ H ⟨sd, T, DD, st, ok, L, q⟩
  refine ⟨sd, T, fun xs T1 => match xs with | [y] => DD.xe ⟨.ref C, ["value"], [y]⟩ sd T1 | _ => False, fun ex T1 => DD.xe ex sd T1, ⟨st, ok, ?_, L.exok st⟩, q⟩
  · intro xs T1 vs H1 hx rs o f
    match xs, hx, rs with
    | [y], hx, rs =>
    obtain ⟨v, rfl, rv⟩ := rds1 rs
    refine ⟨by show 1 ≤ 1000; decide, fun a na => ⟨a, C, v, rfl, SC, upd_same, fun dx nd ne => ⟨rfl, dx, _, upd_same, by rw [upd_ne ne]; exact upd_same, by rw [upd_ne ne] at nd; exact nd, ?_⟩⟩⟩
    have nd1 : H1 dx = none := by rw [upd_ne ne] at nd; exact nd
    have eH : upd (L2.del (upd (upd (upd H1 a (exo a C none)) dx (exd dx [("value", v)])) a (exo a C (some dx))) a) dx (.xd [("value", v)]) = upd H1 dx (.xd [("value", v)]) := by
      funext b
      by_cases z : b = dx
      · rw [z, upd_same, upd_same]
      · rw [upd_ne z, upd_ne z]
        by_cases w : b = a
        · rw [w, L2.del_same, na]
        · rw [L2.del_ne w, upd_ne w, upd_ne z, upd_ne w]
    rw [eH]
    have fd : Fr H1 T1 (upd H1 dx (.xd [("value", v)])) T1 := Fr.laid nd1 (o.fresh nd1)
    exact L.xe _ sd T1 _ _ σ _ hx ⟨rfl, .inr ⟨dx, [v], rfl, o.fresh nd1, upd_same, rfl, RDs.cons (RD.mono fd y rv) RDs.nil⟩⟩ ((st.mono f).mono fd) (o.laid nd1) (f.trans fd)
end
end DL
namespace DL
open PySem PySem.Spec PyProof.Rows L2 VX

/-! ### exceptions as values -/
/-- what an own error class must have for its instances to be looked at -/
structure ExC (K : PySem.W.Frag) (C : Addr) : Prop where
  f : XfC K C
  cl : (PySem.W.clsIn K C).isSome = true
  ca : PySem.W.findIn K (.ref C) "__class__" = some (some (.builtin "object.__class__"))
  cn : PySem.W.specialIn K (.builtin "object.__class__") "__get__" = some (some (.builtin "getset_descriptor.__get__"))
  ct : PySem.W.takesIn K (.builtin "object.__class__") = some true
  cm : PySem.W.mroIn K C (.type "object") = some true
section
variable {X : Cx} {W : WX} {pins : List (Addr × Obj)} {σ : L2.St} {H : Hp} {s : Shared} {f : Str} {inE : Addr → Bool}
theorem exc_inst {T : Td} {C : Addr} {ns : List Str} {xs : List D} {vx : V} (I : Inv X pins σ H s) (r : RD X.K H T (.exc (.ref C) ns xs) vx) :
    ∃ (a dx : Addr) (vs : List V) (oe od : Obj) (mA : Str → Option Value), vx = .ref a ∧ ns.length = vs.length ∧ RDs X.K H T xs vs ∧ PySem.W.InstAt s.heap a oe C (some od) ∧ (∀ y, PySem.W.lookIn y od = some (mA y)) ∧ ∀ y, RelO ((ns.zip vs).lookup y) (mA y) := by
  obtain ⟨a, dx, vs, e, _, _, ha, hd, hl, rs⟩ := r
  obtain ⟨⟨oe, fv, ho, h1, h2, h3⟩, _, _⟩ := (show ObjOk X.prog X.w H s.heap a (EcO a (.ref C) (some dx)) from I.hok a _ ha)
  obtain ⟨mA, hns, hr⟩ := (show ObjOk X.prog X.w H s.heap dx (.xd (ns.zip vs)) from I.hok dx _ hd)
  obtain ⟨od, hod, hlk⟩ := lookIn_ns hns
  exact ⟨a, dx, vs, oe, od, mA, e, hl, rs, ⟨ho, h1, by unfold PySem.W.notCls; rw [h3] <;> rfl, by rw [h2]; exact hod⟩, hlk, hr⟩
/-- e.f of a caught exception -/
def lookD (f : Str) : List Str → List D → Option D
  | n :: ns, x :: xs => if f = n then some x else lookD f ns xs
  | _, _ => none
theorem lookD_V {K : PySem.W.Frag} {H : Hp} {T : Td} : ∀ {ns : List Str} {xs : List D} {vs : List V} {d : D}, RDs K H T xs vs → lookD f ns xs = some d → ∃ v, (ns.zip vs).lookup f = some v ∧ RD K H T d v
  | [], _, _, _, _, e => by simp [lookD] at e
  | n :: ns, [], _, _, _, e => by simp [lookD] at e
  | n :: ns, x :: xs, _, d, r, e => by
    obtain ⟨v, r1, rfl, h1, h2⟩ := r
    unfold lookD at e
    by_cases z : f = n
    · rw [if_pos z] at e
      cases e
      exact ⟨v, by rw [List.zip_cons_cons, lookup_put, if_pos z], h1⟩
    · rw [if_neg z] at e
      obtain ⟨u, q1, q2⟩ := lookD_V h2 e
      exact ⟨u, by rw [List.zip_cons_cons, lookup_put, if_neg z]; exact q1, q2⟩
def rFld (inE : Addr → Bool) (f : Str) : R1D := fun x T Q _ => match x with
  | .exc (.ref C) ns xs => inE C = true ∧ match lookD f ns xs with
    | some d => Q d T
    | none => False
  | _ => False
theorem ad_fld (h : ∀ C, inE C = true → ExC X.K C ∧ PySem.W.findIn X.K (.ref C) f = some none) : AttrD X W f (rFld inE f) := by
  intro pins s σ H Q sd T QD ED x vx v b I L r1 r2 q
  unfold rFld at q
  split at q
  · rename_i C ns xs
    obtain ⟨hE, q⟩ := q
    split at q
    · rename_i d ed
      obtain ⟨a, dx, vs, oe, od, mA, rfl, hl, rs, J, hlk, hr⟩ := exc_inst I r1
      obtain rfl : v = Value.ref a := r2
      obtain ⟨u, e1, e2⟩ := lookD_V rs ed
      obtain ⟨w, hw, rw'⟩ := RelO.some_of (v := u) (o := mA f) (by rw [← e1]; exact hr f)
      obtain ⟨E, hno⟩ := h C hE
      exact HandSPX.exc_get I.kIn J E.f.ga E.f.gg E.f.exC (PySem.W.findObj_own E.f.hdC hno rfl (by rw [hlk, hw])) (handed_of rw') (L.here (I.tok _) e2 rw' q)
    · exact q.elim
  · exact q.elim

/-! ### classes and functions as values -/
theorem de_glob {x : Str} {a : Addr} {pos : Pos} (hg : Gl X x) (hm : X.mg x = some (.ref a)) (hd : (x == ("__debug__" : Str)) = false := by decide) : DE X W (.Name x pos) (dC (.val (.ref a))) := de_c (pe_glob (v := .ref a) hg hm rfl hd) fun _ _ => rfl
theorem de_bty {x : Str} {n : String} {pos : Pos} (hg : Gl X x) (hm : X.mg x = none) (hv : bootBuiltins x = some (.type n)) (hn : x ≠ "__name__" := by decide) (hd : (x == ("__debug__" : Str)) = false := by decide) : DE X W (.Name x pos) (dC (.val (.ty n))) :=
  de_c (pe_bltn (v := .ty n) hg hm hv rfl hn hd) fun _ _ => rfl

/-! ### isinstance -/
/-- what is asked of a class whose instances have a dict -/
structure OCls (K : PySem.W.Frag) (C : Addr) : Prop where
  cl : Cls K C
  ca : PySem.W.findIn K (.ref C) "__class__" = some (some (.builtin "object.__class__"))
  cn : PySem.W.specialIn K (.builtin "object.__class__") "__get__" = some (some (.builtin "getset_descriptor.__get__"))
  ct : PySem.W.takesIn K (.builtin "object.__class__") = some true
  cm : PySem.W.mroIn K C (.type "object") = some true
/-- the type of a datum -/
def tyD (inS inE inO : Addr → Bool) (T : Td) : D → Option Value
  | .non => some (.type "NoneType")
  | .bl _ => some (.type "bool")
  | .int _ => some (.type "int")
  | .str _ => some (.type "str")
  | .tup _ => some (.type "tuple")
  | .lst _ => some (.type "list")
  | .dct _ _ => some (.type "dict")
  | .slo C _ => if inS C = true then some (.ref C) else none
  | .exc (.ref C) _ _ => if inE C = true then some (.ref C) else none
  | .obj C _ _ => if inO C = true then some (.ref C) else none
  | .ref a => match T a with
    | some (.lst _) => some (.type "list")
    | some (.dct _ _) => some (.type "dict")
    | some (.slo C _) => if inS C = true then some (.ref C) else none
    | some (.ins C _ _) => if inO C = true then some (.ref C) else none
    | _ => none
  | _ => none
/-- c as a class -/
def clsV : D → Option Value
  | .val (.ty n) => some (.type n)
  | .val (.ref C) => some (.ref C)
  | _ => none
/-- inst: what is known of type and class -/
def rIsiD (inS inE inO : Addr → Bool) (inst : Value → Value → Option Bool) : RAD := fun xs T Q _ => match xs with
  | [x, c] => match tyD inS inE inO T x, clsV c with
    | some t, some u => match inst t u with
      | some b => Q (.bl b) T
      | none => False
    | _, _ => False
  | _ => False
theorem kit_D {inS inO : Addr → Bool} {T : Td} {x : D} {vx : V} {v t : Value} (hS : ∀ C, inS C = true → SlX.SCls X.K C ∧ SlX.SIsi X.K C) (hE : ∀ C, inE C = true → ExC X.K C) (hO : ∀ C, inO C = true → OCls X.K C) (I : Inv X pins σ H s) (o : DOk X.K H T) (rd : RD X.K H T x vx) (rv : RelV vx v)
    (ht : tyD inS inE inO T x = some t) : ∃ P : Heap → Prop, PySem.W.KitX X.K v t P ∧ P s.heap ∧ v ≠ .builtin "__main__.__loader__#opaque" := by
  have base : ∀ {ty : Value}, TyX X.K H vx ty → ty = t → ∃ P : Heap → Prop, PySem.W.KitX X.K v t P ∧ P s.heap ∧ v ≠ .builtin "__main__.__loader__#opaque" := fun {ty} h e => by
    rw [← e]
    exact kit_of I rv h
  have slot : ∀ {a C dx : Addr} {vs : List (Option V)}, vx = .ref a → SlX.Slt H a C dx vs → SlX.SCls X.K C ∧ SlX.SIsi X.K C → t = .ref C → ∃ P : Heap → Prop, PySem.W.KitX X.K v t P ∧ P s.heap ∧ v ≠ .builtin "__main__.__loader__#opaque" := fun {a C dx vs} e hsl hc et => by
    subst e et
    obtain rfl : v = Value.ref a := rv
    obtain ⟨sl, od, _, J, _⟩ := SlX.slt_inst I hsl
    exact ⟨_, OwX.kitx_slt hc.1.ic (hc.1.get _) hc.2.ca hc.2.cn hc.2.ct hc.2.cm, J, fun z => nomatch z⟩
  cases x with
  | non => cases ht; have r : vx = _ := rd; subst r; exact base (.base .non) rfl
  | bl b => cases ht; have r : vx = _ := rd; subst r; exact base (.base (.bl b)) rfl
  | int i => cases ht; have r : vx = _ := rd; subst r; exact base (.base (.int i)) rfl
  | str y => cases ht; have r : vx = _ := rd; subst r; exact base (.base (.str y)) rfl
  | tup ds =>
    cases ht
    obtain ⟨a, vs, e, q, _⟩ := rd
    subst e
    rcases q with ⟨_, q | ⟨ob, q⟩⟩ | ⟨ob, its, n, q1, q2, _⟩
    · exact base (.base (.tup q)) rfl
    · exact base (.fTuple q) rfl
    · exact base (.kTuple q1 q2) rfl
  | lst ds =>
    cases ht
    obtain ⟨a, vs, e, q, _⟩ := rd
    subst e
    rcases q with ⟨_, q | ⟨ob, q⟩⟩ | ⟨ob, its, n, q1, q2, _⟩
    · exact base (.base (.lst q)) rfl
    · exact base (.base (.frz q)) rfl
    · exact base (.kList q1 q2) rfl
  | dct ks ds =>
    cases ht
    obtain ⟨a, od, vs, e, _, q, _⟩ := rd
    subst e
    exact base (.fDict q) rfl
  | obj C ns ds =>
    simp only [tyD] at ht
    split at ht
    · rename_i hc
      cases ht
      obtain ⟨a, dx, vs, e, t1, t2, h2, h1, rs⟩ := rd
      subst e
      exact base (.base (.ins h1 (hO C hc).cl (hO C hc).ca (hO C hc).cn (hO C hc).ct (hO C hc).cm)) rfl
    · cases ht
  | slo C ds =>
    simp only [tyD] at ht
    split at ht
    · rename_i hc
      cases ht
      obtain ⟨a, dx, vs, e, t1, t2, h2, h1, rs⟩ := rd
      exact slot e (.inr ⟨h1, h2⟩) (hS C hc) rfl
    · cases ht
  | exc c ns xs =>
    cases c <;> try (cases ht; done)
    rename_i C
    simp only [tyD] at ht
    split at ht
    case isFalse => cases ht
    rename_i hc
    cases ht
    obtain ⟨a, dx, vs, oe, od, mA, rfl, hl, rs, J, hlk, hr⟩ := exc_inst I rd
    obtain rfl : v = Value.ref a := rv
    have E := hE C hc
    exact ⟨_, PySem.W.kitx_exc E.cl E.f.ga E.f.gg E.f.exC E.ca E.cn E.ct E.cm, J, fun z => nomatch z⟩
  | ref a =>
    simp only [tyD] at ht
    have r : vx = .ref a := rd
    subst r
    split at ht
    · rename_i e
      cases ht
      obtain ⟨vs, h, _⟩ := o a _ e
      exact base (.base (.lst h)) rfl
    · rename_i e
      cases ht
      obtain ⟨vs, h, _⟩ := o a _ e
      exact base (.base (.dK h)) rfl
    · rename_i e
      split at ht
      · rename_i hc
        cases ht
        obtain ⟨dx, vs, h1, h2, _⟩ := o a _ e
        exact slot rfl (.inr ⟨h1, h2⟩) (hS _ hc) rfl
      · cases ht
    · rename_i e
      split at ht
      · rename_i hc
        cases ht
        obtain ⟨dx, vs, h1, _⟩ := o a _ e
        exact base (.base (.ins h1 (hO _ hc).cl (hO _ hc).ca (hO _ hc).cn (hO _ hc).ct (hO _ hc).cm)) rfl
      · cases ht
    · cases ht
  | val u => cases ht
  | fn _ _ _ _ _ => cases ht
theorem clsV_V {K : PySem.W.Frag} {T : Td} {c : D} {vc : V} {u w : Value} (e : clsV c = some u) (r : RD K H T c vc) (rv : RelV vc w) : w = u := by
  cases c <;> try (cases e; done)
  rename_i z
  have r' : vc = z := r
  subst r'
  cases vc <;> first | (cases e; done) | (cases e; exact rv)
theorem cd_isi {inS inO : Addr → Bool} {inst : Value → Value → Option Bool} (hS : ∀ C, inS C = true → SlX.SCls X.K C ∧ SlX.SIsi X.K C) (hE : ∀ C, inE C = true → ExC X.K C) (hO : ∀ C, inO C = true → OCls X.K C) (hi : ∀ t u b, inst t u = some b → PySem.W.kitOne X.K t u = some b) :
    CallD X W (.builtin "isinstance") (rIsiD inS inE inO inst) := by
  intro pins s σ H Q sd T QD ED xs vs us I L rs rv q
  match xs, q with
  | [x, c], q =>
    simp only [rIsiD] at q
    obtain ⟨vx, vc, rfl, r1, r2⟩ := rds2 rs
    cases rv with
    | @cons _ u1 _ _ k1 k2 =>
      cases k2 with
      | @cons _ u2 _ _ k3 k4 =>
        cases k4
        split at q
        · rename_i t u et eu
          split at q
          · rename_i b eb
            obtain rfl := clsV_V eu r2 k3
            obtain ⟨P, Z, p, hx⟩ := kit_D hS hE hO I L.ok r1 k1 et
            exact PySem.W.kia_one Z I.kIn p (hi _ _ _ eb) hx fun tk => L.here (x := .bl b) (vx := .bl b) (I.tok tk) rfl rfl q
          · exact q.elim
        · exact q.elim
end
end DL
namespace DL
open PySem PySem.Spec PyProof.Rows L2 VX
theorem tput_tput {T : Td} {a : Addr} {u v : DO} : tput (tput T a u) a v = tput T a v := by
  funext b
  unfold tput
  split <;> rfl
theorem tdel_tput {T : Td} {a : Addr} {u : DO} (h : T a = none) : tdel (tput T a u) a = T := by
  funext b
  unfold tdel tput
  split
  · rename_i z
    rw [z, h]
  · rfl

/-! ### l[i] = v -/
section
variable {X : Cx} {W : WX} {o i e : Expr} {to ti te : TDE} {pos pos' : Pos}
def dSetIx (to ti te : TDE) : TDS := fun D sd T => te sd T (fun v T1 => to sd T1 (fun x T2 => ti sd T2 (fun y T3 => match x, y with
  | .ref a, .int k => match T3 a with
    | some (.lst xs) => match ixN xs.length k with
      | some j => D.nx sd (tput T3 a (.lst (xs.set j v)))
      | none => False
    | _ => False
  | _, _ => False) (fun ex T' => D.xe ex sd T')) (fun ex T' => D.xe ex sd T')) (fun ex T' => D.xe ex sd T')
theorem ds_setIx (ho : DE X W o to) (hi : DE X W i ti) (he : DE X W e te) (hs : swapsWithSole [.Subscript o i pos'] e pos.line X.env = pure false := by rfl) (hw : swappedStores [.Subscript o i pos'] e X.env = pure none := by rfl)
    (h1 : (assignEach [.Subscript o i pos'] X.env).map (·.2) = [assign (.Subscript o i pos') X.env] := by rfl)
    (ha : ∀ v, assign (.Subscript o i pos') X.env v = (do
      let ov ← holding [v] (eval o X.env)
      let iv ← holding [v, ov] (eval i X.env)
      standAt pos'
      holding [v, ov, iv] (setItem ov iv v)
      release [v, ov, iv] []) := by intro _; rfl) : DS X W (.Assign [.Subscript o i pos'] e pos) (dSetIx to ti te) := by
  refine PS.imp (ps_asg he (pg_sub ho hi set_list ha) hs hw h1) fun De σ H ⟨sd, T, DD, st, ok, L, q⟩ => ?_
  refine ⟨sd, T, _, _, ⟨st, ok, fun v T1 vv H1 k r o1 f1 => ?_, L.exok st⟩, q⟩
  refine ⟨sd, T1, _, _, ⟨st.mono f1, o1, fun x T2 vx H2 k2 r2 o2 f2 => ?_, EXok.go (L.exok st) f1⟩, k⟩
  refine ⟨sd, T2, _, _, ⟨(st.mono f1).mono f2, o2, fun y T3 vy H3 k3 r3 o3 f3 => ?_, EXok.go (EXok.go (L.exok st) f1) f2⟩, k2⟩
  cases x <;> cases y <;> try exact k3.elim
  rename_i a n
  simp only at k3
  split at k3
  · rename_i xs ht
    split at k3
    · rename_i j ej
      obtain ⟨vs, hv, rs⟩ := o3 a _ ht
      have r2' : vx = .ref a := r2
      have r3' : vy = .int n := r3
      subst r2' r3'
      refine ⟨a, vs, n, j, rfl, rfl, hv, by rw [← rs.length]; exact ej, ?_⟩
      have fw : Fr H3 T3 (upd H3 a (.lst (vs.set j vv))) (tput T3 a (.lst (xs.set j v))) := Fr.write ht
      have F := ((f1.trans f2).trans f3).trans fw
      exact L.nx sd _ _ _ k3 (st.mono F) (o3.write ht ⟨_, upd_same, (RDs.mono fw xs rs).set j (RD.mono ((f2.trans f3).trans fw) v r)⟩) F
    · exact k3.elim
  · exact k3.elim
end

/-! ### comprehensions -/
theorem wipe_set {σ : L2.St} {i : Nat} {x : Option V} : ∀ {vs : List Nat}, i ∈ vs → wipe (σ.set i x) vs = wipe σ vs
  | [], h => by cases h
  | v :: vs, h => by
    show (wipe (σ.set i x) vs).set v none = (wipe σ vs).set v none
    by_cases hi : i ∈ vs
    · rw [wipe_set hi]
    · have hv : i = v := by
        rcases List.mem_cons.mp h with h | h
        · exact h
        · exact absurd h hi
      subst hv
      refine List.ext_getElem? fun j => ?_
      by_cases hj : i = j
      · subst hj
        have hl : (wipe (σ.set i x) vs).length = (wipe σ vs).length := by rw [wipe_length, wipe_length, List.length_set]
        by_cases hb : i < (wipe σ vs).length
        · rw [List.getElem?_set_self hb, List.getElem?_set_self (by rw [hl]; exact hb)]
        · rw [List.getElem?_eq_none (by rw [List.length_set]; omega), List.getElem?_eq_none (by rw [List.length_set]; omega)]
      · rw [List.getElem?_set_ne hj, List.getElem?_set_ne hj]
        by_cases hm : j ∈ vs
        · have z : ∀ τ : L2.St, τ.length = σ.length → (wipe τ vs)[j]? = if j < σ.length then some none else none := fun τ hτ => by
            rw [wiped hm, hτ]
          rw [z _ (by rw [List.length_set]), z _ rfl]
        · rw [wipe_out hm, wipe_out hm, List.getElem?_set_ne hj]
where
  wiped {τ : L2.St} {j : Nat} : ∀ {vs : List Nat}, j ∈ vs → (wipe τ vs)[j]? = if j < τ.length then some none else none
    | [], h => by cases h
    | v :: vs, h => by
      show ((wipe τ vs).set v none)[j]? = _
      by_cases hv : v = j
      · subst hv
        by_cases hb : v < τ.length
        · rw [if_pos hb, List.getElem?_set_self (by rw [wipe_length]; exact hb)]
        · rw [if_neg hb, List.getElem?_eq_none (by rw [List.length_set, wipe_length]; omega)]
      · rw [List.getElem?_set_ne hv]
        rcases List.mem_cons.mp h with h | h
        · exact absurd h.symm hv
        · exact wiped h
def wipeD (sd : SD) : List Nat → SD
  | [] => sd
  | v :: vs => (wipeD sd vs).set v none
theorem StOk.wipe {K : PySem.W.Frag} {H : Hp} {T : Td} {sd : SD} {σ : L2.St} (h : StOk K H T sd σ) : ∀ vs : List Nat, StOk K H T (wipeD sd vs) (L2.wipe σ vs)
  | [] => h
  | v :: vs => (StOk.wipe h vs).none v
/-- a target of a comprehension: it stores into the slots vs alone -/
def liftGw (K : PySem.W.Frag) (vs : List Nat) (d : TDG) : TG := fun v σ H Q => ∃ x sd T QD, StOk K H T sd σ ∧ DOk K H T ∧ RD K H T x v ∧ (∀ sd' T' σ' H', QD sd' T' → StOk K H' T' sd' σ' → DOk K H' T' → Fr H T H' T' → wipe σ' vs = wipe σ vs → Q σ' H') ∧ d x sd T QD
def liftGws (K : PySem.W.Frag) (vs : List Nat) (d : TDGs) : TGs := fun v σ H Q => ∃ x sd T QD, StOk K H T sd σ ∧ DOk K H T ∧ RDs K H T x v ∧ (∀ sd' T' σ' H', QD sd' T' → StOk K H' T' sd' σ' → DOk K H' T' → Fr H T H' T' → wipe σ' vs = wipe σ vs → Q σ' H') ∧ d x sd T QD
def DGw (X : Cx) (vs : List Nat) (target : Expr) (d : TDG) : Prop := PG X target (liftGw X.K vs d)
def DGws (X : Cx) (vs : List Nat) (targets : List Expr) (d : TDGs) : Prop := PGs X targets (liftGws X.K vs d)
section
variable {X : Cx} {W : WX} {pos : Pos} {vs : List Nat}
theorem dgw_name {i : Nat} {x : Str} (hi : X.N[i]? = some x) (hN : X.N.Nodup) (hx : Loc X.env.scope x) (hv : i ∈ vs) (hf : X.fn x = true ∨ X.env.scope.names.lookup x = some .local := by first | exact .inl rfl | exact .inr rfl | assumption) : DGw X vs (.Name x pos) (dgName i) :=
  PG.imp (pg_name hN hi hx hf) fun v σ H Q ⟨x, sd, T, QD, st, o, r, k, q⟩ => k _ T _ H q (st.set i r) o Fr.refl (wipe_set hv)
theorem dgws_nil : DGws X vs [] dgNil := PGs.imp pgs_nil fun v σ H Q ⟨x, sd, T, QD, st, o, r, k, e, q⟩ => by
  subst e
  have r' : v = [] := r
  exact ⟨r', k sd T σ H q st o Fr.refl rfl⟩
theorem dgws_cons {e : Expr} {es : List Expr} {t : TDG} {u : TDGs} (h1 : DGw X vs e t) (h2 : DGws X vs es u) (hs : (assignEach (e :: es) X.env).map (·.2) = assign e X.env :: (assignEach es X.env).map (·.2) := by rfl) : DGws X vs (e :: es) (dgCons t u) :=
  PGs.imp (pgs_cons h1 h2 hs) fun v σ H Q ⟨xs, sd, T, QD, st, o, r, k, q⟩ => by
    match xs, r, q with
    | x :: xs, r, q =>
      obtain ⟨y, ys, e, r1, r2⟩ := r
      subst e
      exact ⟨y, ys, rfl, x, sd, T, _, st, o, r1, fun sd' T' σ' H' n st' o' f w => ⟨xs, sd', T', QD, st', o', RDs.mono f xs r2, fun a b c d e g h i w2 => k a b c d e g h (f.trans i) (w2.trans w), n⟩, q⟩
theorem dgw_tup {es : List Expr} {k : Nat} {t : TDGs} {n : Nat} (hc : X.calm = true) (h : DGws X vs es t) (hn : (assignEach es X.env).length = n := by rfl) (hst : (assignEach es X.env).findIdx? (·.1) = none := by rfl) : DGw X vs (.Tuple es k pos) (dgTup n t) :=
  PG.imp (pg_tup hc h hn hst) fun v σ H Q ⟨x, sd, T, QD, st, o, r, k, q⟩ => by
    cases x <;> try exact q.elim
    rename_i xs
    obtain ⟨a, vs, e, t, r⟩ := r
    exact ⟨a, vs, e, t.sq, by rw [← r.length]; exact q.1, xs, sd, T, QD, st, o, r, k, q.2⟩
/-- the conditions of a comprehension -/
def DTs (X : Cx) (W : WX) (ifs : List Expr) (d : TDT) : Prop := PTs X ifs (liftT X.K W d)
def dYes : TDT := fun _ T Q _ => Q true T
theorem _root_.L2.PTs.imp {X : Cx} {e : List Expr} {t t' : TT} (h : PTs X e t) (i : ∀ σ H Q, t' σ H Q → t σ H Q) : PTs X e t' := ⟨fun pins s σ H Q I q => h.run pins s σ H Q I (i σ H Q q)⟩
theorem dts_nil : DTs X W [] dYes := PTs.imp pts_nil fun σ H Q ⟨sd, T, QD, ED, L, q⟩ => L.q true T H q L.ok Fr.refl
theorem dts_one {c : Expr} {t : TDT} (h : DT X W c t) : DTs X W [c] t := pts_one h
/-- the walk of a comprehension; P: the new list -/
def dLcL (g : TDG) (tt : TDT) (te : TDE) (gd : Td → Prop) (P : Addr) (k : Td → Prop) (sd : SD) : List D → Td → Prop
  | [], T => gd T ∧ k T
  | x :: xs, T => gd T ∧ g x sd T fun sd2 T2 => tt sd2 T2 (fun b T3 => IfP b (te sd2 T3 (fun y T4 => match T4 P with
      | some (.lst acc) => acc.length < sizeLine ∧ dLcL g tt te gd P k sd xs (tput T4 P (.lst (acc ++ [y])))
      | _ => False) (fun _ _ => False)) (dLcL g tt te gd P k sd xs T3)) (fun _ _ => False)
/-- .. which never changes later -/
def dLc (wi : TDI) (g : TDG) (tt : TDT) (te : TDE) (vs : List Nat) : TDE := fun sd T Q E => wi sd T (fun items gd T1 => ∀ P, T1 P = none → dLcL g tt te gd P (fun T' => match T' P with
  | some (.lst acc) => Q (.lst acc) (tdel T' P)
  | _ => False) (wipeD sd vs) items (tput T1 P (.lst []))) E
/-- .. which may change -/
def dLcM (wi : TDI) (g : TDG) (tt : TDT) (te : TDE) (vs : List Nat) : TDE := fun sd T Q E => wi sd T (fun items gd T1 => ∀ P, T1 P = none → dLcL g tt te gd P (fun T' => (∃ acc, T' P = some (.lst acc)) ∧ Q (.ref P) T') (wipeD sd vs) items (tput T1 P (.lst []))) E
theorem lc_lift {wi : TDI} {g : TDG} {tt : TDT} {te : TDE} {sd : SD} {T : Td} {σ : L2.St} {H : Hp} {Q : VK} {QD : KD} {ED : XD} {kD : Addr → Td → Prop} (L : LE X.K W σ H Q sd T QD ED)
    (hk : ∀ P T' H', kD P T' → DOk X.K H' T' → Fr H T H' T' → Q (.ref P) H')
    (q : wi sd T (fun items gd T1 => ∀ P, T1 P = none → dLcL g tt te gd P (kD P) (wipeD sd vs) items (tput T1 P (.lst []))) ED) :
    tLc (liftI X.K W wi) (liftGw X.K vs g) (liftT X.K WN tt) (liftE X.K WN te) vs σ H Q := by
  refine ⟨sd, T, _, ED, L.st, L.ok, L.x, fun items gd T1 J H1 k it o1 f1 P nP => ?_, q⟩
  have nT := o1.fresh nP
  have fP : Fr H1 T1 (upd H1 P (.lst [])) (tput T1 P (.lst [])) := Fr.laidT nP
  have oP : DOk X.K (upd H1 P (.lst [])) (tput T1 P (.lst [])) := o1.laidT nP ⟨[], upd_same, rfl⟩
  let WW : Nat → Nat → Hp → Prop := fun i m H2 => m = items.length - i ∧ i ≤ items.length ∧ ∃ T2, DOk X.K H2 T2 ∧ Fr H1 T1 H2 T2 ∧ dLcL g tt te gd P (kD P) (wipeD sd vs) (items.drop i) T2
  refine ⟨WW, ⟨_, rfl, Nat.zero_le _, _, oP, fP, k P nT⟩, ?_⟩
  rintro i m H2 ⟨rfl, hi, T2, o2, f2, q2⟩
  by_cases hlt : i < items.length
  · rw [List.drop_eq_getElem_cons hlt] at q2
    obtain ⟨gd2, q2⟩ := q2
    obtain ⟨go, yl⟩ := (it i H2 T2 f2 o2 gd2).1 hlt
    refine .inr ⟨go, fun H3 => ∃ T3, DOk X.K H3 T3 ∧ Fr H1 T1 H3 T3 ∧ dLcL g tt te gd P (kD P) (wipeD sd vs) (items.drop (i + 1)) T3, fun H' w => ⟨items.length - (i + 1), by omega, rfl, hlt, w⟩, fun x H3 y => ?_⟩
    obtain ⟨d, hd, rd, o3, f3⟩ := yl x H3 y
    rw [List.getElem?_eq_getElem hlt] at hd
    cases hd
    have F3 := f2.trans f3
    refine ⟨_, wipeD sd vs, T2, _, (L.st.mono (f1.trans F3)).wipe vs, o3, rd, fun sd4 T4 σ4 H4 n4 s4 o4 f4 w4 => ⟨?_, ?_⟩, q2⟩
    · rw [w4]
      refine List.ext_getElem? fun j => ?_
      by_cases hm : j ∈ vs
      · rw [wipe_set.wiped hm, wipe_set.wiped hm, wipe_length]
      · rw [wipe_out hm, wipe_out hm]
    · have F4 := F3.trans f4
      refine ⟨sd4, T4, _, _, ⟨s4, o4, fun b T5 H5 k5 o5 f5 => ?_, fun _ _ _ _ _ z => z.elim⟩, n4⟩
      by_cases z : b = true
      · rw [if_pos z]
        replace k5 := k5.yes z
        refine ⟨sd4, T5, _, _, ⟨s4.mono f5, o5, fun y T6 vy H6 k6 r6 o6 f6 => ?_, fun _ _ _ _ _ z => z.elim⟩, k5⟩
        split at k6
        · rename_i acc ht
          obtain ⟨av, ha, ra⟩ := o6 P _ ht
          have fw : Fr H6 T6 (upd H6 P (.lst (av ++ [vy]))) (tput T6 P (.lst (acc ++ [y]))) := Fr.write ht
          refine ⟨av, ha, by rw [← ra.length]; exact k6.1, tput T6 P (.lst (acc ++ [y])), o6.write ht (show DObj X.K _ _ P (.lst (acc ++ [y])) from ⟨_, upd_same, (RDs.mono fw acc ra).append (RDs.cons (RD.mono fw y r6) RDs.nil)⟩), ((F4.trans f5).trans f6).trans fw, k6.2⟩
        · exact k6.elim
      · rw [if_neg z]
        replace k5 := k5.no z
        exact ⟨T5, o5, F4.trans f5, k5⟩
  · have e : i = items.length := by omega
    subst e
    rw [List.drop_length] at q2
    exact .inl ⟨(it _ H2 T2 f2 o2 q2.1).2 (Nat.le_refl _), hk P T2 H2 q2.2 o2 (f1.trans f2)⟩
end
section
variable {X : Cx} {W : WX} {elt tg iter : Expr} {ifs : List Expr} {scope : Scope} {own : List (Str × Nat)} {pos : Pos} {wi : TDI} {g : TDG} {tt : TDT} {te : TDE}
theorem de_lc (hc : X.calm = true) (hN : X.N.Nodup) (hi : DI X W tg iter wi) (ok : BlkOk X.N X.env.scope scope own)
    (hg : ∀ (s : Shared) (H : Hp) (C : Addr) (cl : List (Str × Addr)) (fp : List Addr), DGw (X.blk s H scope (compEnvC scope cl C X.env) fp) (own.map (·.2)) tg g) (ht : ∀ (s : Shared) (H : Hp) (C : Addr) (cl : List (Str × Addr)) (fp : List Addr), DTs (X.blk s H scope (compEnvC scope cl C X.env) fp) WN ifs tt)
    (he : ∀ (s : Shared) (H : Hp) (C : Addr) (cl : List (Str × Addr)) (fp : List Addr), DE (X.blk s H scope (compEnvC scope cl C X.env) fp) WN elt te) (hs : ∀ x, foldedSetIterable iter X.env x = pure x := by intro _; rfl) :
    DE X W (.ListComp elt [⟨tg, iter, ifs, 0⟩] scope pos) (dLc wi g tt te (own.map (·.2))) :=
  PE.imp (pe_lc (g := liftGw X.K (own.map (fun x : Str × Nat => x.2)) g) (tt := liftT X.K WN tt) (te := liftE X.K WN te) hc hN hi ok hg ht he hs) fun σ H Q ⟨sd, T, QD, ED, L, q⟩ => lc_lift L (fun P T' H' k o f => by
    split at k
    · rename_i acc ht
      obtain ⟨vs, h, rs⟩ := o P _ ht
      exact L.q (.lst acc) (tdel T' P) _ H' k ⟨P, vs, rfl, .inl ⟨tdel_same, .inl h⟩, RDs.mono Fr.free acc rs⟩ o.free (f.trans Fr.free)
    · exact k.elim) q
theorem de_lcM (hc : X.calm = true) (hN : X.N.Nodup) (hi : DI X W tg iter wi) (ok : BlkOk X.N X.env.scope scope own)
    (hg : ∀ (s : Shared) (H : Hp) (C : Addr) (cl : List (Str × Addr)) (fp : List Addr), DGw (X.blk s H scope (compEnvC scope cl C X.env) fp) (own.map (·.2)) tg g) (ht : ∀ (s : Shared) (H : Hp) (C : Addr) (cl : List (Str × Addr)) (fp : List Addr), DTs (X.blk s H scope (compEnvC scope cl C X.env) fp) WN ifs tt)
    (he : ∀ (s : Shared) (H : Hp) (C : Addr) (cl : List (Str × Addr)) (fp : List Addr), DE (X.blk s H scope (compEnvC scope cl C X.env) fp) WN elt te) (hs : ∀ x, foldedSetIterable iter X.env x = pure x := by intro _; rfl) :
    DE X W (.ListComp elt [⟨tg, iter, ifs, 0⟩] scope pos) (dLcM wi g tt te (own.map (·.2))) :=
  PE.imp (pe_lc (g := liftGw X.K (own.map (fun x : Str × Nat => x.2)) g) (tt := liftT X.K WN tt) (te := liftE X.K WN te) hc hN hi ok hg ht he hs) fun σ H Q ⟨sd, T, QD, ED, L, q⟩ => lc_lift L (fun P T' H' k o f => L.q (.ref P) T' _ H' k.2 rfl o f) q
end
end DL
namespace DL
open PySem PySem.Spec PyProof.Rows L2 VX

/-! ### repr -/
mutual
/-- what can be shown -/
def okR : D → Bool
  | .non => true
  | .bl _ => true
  | .int _ => true
  | .str _ => true
  | .tup xs => okRs xs
  | .lst xs => okRs xs
  | .dct _ xs => okRs xs
  | .slo _ _ => true
  | .obj _ _ _ => true
  | _ => false
def okRs : List D → Bool
  | [] => true
  | x :: xs => okR x && okRs xs
end
mutual
def sizeD : D → Nat
  | .tup xs => sizeDs xs + 1
  | .lst xs => sizeDs xs + 1
  | .dct _ xs => sizeDs xs + 1
  | _ => 0
def sizeDs : List D → Nat
  | [] => 0
  | x :: xs => sizeD x + sizeDs xs + 1
end
theorem size_mem : ∀ {xs : List D} {x : D}, x ∈ xs → sizeD x < sizeDs xs
  | y :: ys, x, h => by
    unfold sizeDs
    rcases List.mem_cons.mp h with rfl | h
    · omega
    · have := size_mem h
      omega
theorem relV_inj {v w : V} {u : Value} (h1 : L2.RelV v u) (h2 : L2.RelV w u) : v = w := by
  cases v <;> cases w <;> simp only [L2.RelV] at h1 h2 <;> first
    | rfl
    | (exfalso; subst h1; cases h2; done)
    | (exfalso; subst h1; obtain ⟨_, h2⟩ := h2; cases h2; done)
    | (exfalso; obtain ⟨_, h1⟩ := h1; subst h1; obtain ⟨_, h2⟩ := h2; cases h2; done)
    | (exfalso; obtain ⟨_, h1⟩ := h1; subst h1; cases h2; done)
    | (obtain ⟨_, h1⟩ := h1; obtain ⟨_, h2⟩ := h2; rw [h1] at h2; cases h2; rfl)
    | (rw [h1] at h2; cases h2; rfl)
theorem vals_inj : ∀ {us ws : List V} {vs : List Value}, Vals us vs → Vals ws vs → us = ws
  | _, _, _, .nil, .nil => rfl
  | _, _, _, .cons r t, .cons r2 t2 => by rw [vals_inj t t2, relV_inj r r2]
section
variable {K : PySem.W.Frag} {H : Hp} {T : Td}
theorem tupAt_eq (hK : ∀ a o, K.lookup a = some o → H a = none) {a : Addr} {xs ys : List V} (h1 : TupAt K H T a xs) (h2 : TupAt K H T a ys) : xs = ys := by
  rcases h1 with ⟨_, h1 | ⟨o, h1⟩⟩ | ⟨o, its, n, l1, c1, d1, _, r1⟩
  · rcases h2 with ⟨_, h2 | ⟨o2, h2⟩⟩ | ⟨o2, its2, n2, l2, _⟩
    · rw [h1] at h2; cases h2; rfl
    · rw [h1] at h2; cases h2
    · rw [hK a _ l2] at h1; cases h1
  · rcases h2 with ⟨_, h2 | ⟨o2, h2⟩⟩ | ⟨o2, its2, n2, l2, _⟩
    · rw [h1] at h2; cases h2
    · rw [h1] at h2; cases h2; rfl
    · rw [hK a _ l2] at h1; cases h1
  · rcases h2 with ⟨_, h2 | ⟨o2, h2⟩⟩ | ⟨o2, its2, n2, l2, c2, d2, _, r2⟩
    · rw [hK a _ l1] at h2; cases h2
    · rw [hK a _ l1] at h2; cases h2
    · rw [l1] at l2
      cases l2
      rw [d1] at d2
      cases d2
      exact vals_inj r1 r2
theorem lstAt_eq (hK : ∀ a o, K.lookup a = some o → H a = none) {a : Addr} {xs ys : List V} (h1 : LstAt K H T a xs) (h2 : LstAt K H T a ys) : xs = ys := by
  rcases h1 with ⟨_, h1 | ⟨o, h1⟩⟩ | ⟨o, its, n, l1, c1, e1, d1, _, r1⟩
  · rcases h2 with ⟨_, h2 | ⟨o2, h2⟩⟩ | ⟨o2, its2, n2, l2, _⟩
    · rw [h1] at h2; cases h2; rfl
    · rw [h1] at h2; cases h2
    · rw [hK a _ l2] at h1; cases h1
  · rcases h2 with ⟨_, h2 | ⟨o2, h2⟩⟩ | ⟨o2, its2, n2, l2, _⟩
    · rw [h1] at h2; cases h2
    · rw [h1] at h2; cases h2; rfl
    · rw [hK a _ l2] at h1; cases h1
  · rcases h2 with ⟨_, h2 | ⟨o2, h2⟩⟩ | ⟨o2, its2, n2, l2, c2, e2, d2, _, r2⟩
    · rw [hK a _ l1] at h2; cases h2
    · rw [hK a _ l1] at h2; cases h2
    · rw [l1] at l2
      cases l2
      rw [d1] at d2
      cases d2
      exact vals_inj r1 r2
def hoK : HO → Option Nat
  | .tup _ => some 0
  | .frz _ (.tup _) => some 0
  | .lst _ => some 1
  | .frz _ (.lst _) => some 1
  | .dK _ => some 2
  | .frz _ (.dK _) => some 2
  | .ins _ _ _ => some 4
  | .ext _ => some 3
  | _ => none
/-- what stands at a: a sign of its kind -/
def kindAt (K : PySem.W.Frag) (H : Hp) (a : Addr) (n : Nat) : Prop := match H a with
  | some o => hoK o = some n
  | none => ∃ o, K.lookup a = some o ∧ ((o.cls = .type "tuple" ∧ n = 0) ∨ (o.cls = .type "list" ∧ n = 1))
theorem kindAt_eq {a : Addr} {m n : Nat} (h1 : kindAt K H a m) (h2 : kindAt K H a n) : m = n := by
  unfold kindAt at h1 h2
  cases e : H a with
  | some o =>
    rw [e] at h1 h2
    exact Option.some.inj (h1.symm.trans h2)
  | none =>
    rw [e] at h1 h2
    obtain ⟨o, l1, c1⟩ := h1
    obtain ⟨o2, l2, c2⟩ := h2
    rw [l1] at l2
    cases l2
    rcases c1 with ⟨c1, z1⟩ | ⟨c1, z1⟩ <;> rcases c2 with ⟨c2, z2⟩ | ⟨c2, z2⟩
    · rw [z1, z2]
    · rw [c1] at c2; exact absurd (Value.type.inj c2) (by decide)
    · rw [c1] at c2; exact absurd (Value.type.inj c2) (by decide)
    · rw [z1, z2]
theorem TupAt.kind (hK : ∀ a o, K.lookup a = some o → H a = none) {a : Addr} {xs : List V} (h : TupAt K H T a xs) : kindAt K H a 0 := by
  unfold kindAt
  rcases h with ⟨_, h | ⟨o, h⟩⟩ | ⟨o, its, n, l, c, _⟩
  · rw [h]; rfl
  · rw [h]; rfl
  · rw [hK a _ l]
    exact ⟨o, l, .inl ⟨c, rfl⟩⟩
theorem LstAt.kind (hK : ∀ a o, K.lookup a = some o → H a = none) {a : Addr} {xs : List V} (h : LstAt K H T a xs) : kindAt K H a 1 := by
  unfold kindAt
  rcases h with ⟨_, h | ⟨o, h⟩⟩ | ⟨o, its, n, l, c, _⟩
  · rw [h]; rfl
  · rw [h]; rfl
  · rw [hK a _ l]
    exact ⟨o, l, .inr ⟨c, rfl⟩⟩
/-- an address of a container, or of a slotted instance -/
def kindD : D → Option Nat
  | .tup _ => some 0
  | .lst _ => some 1
  | .dct _ _ => some 2
  | .slo _ _ => some 3
  | .obj _ _ _ => some 4
  | _ => none
theorem kind_of (hK : ∀ a o, K.lookup a = some o → H a = none) {x : D} {a : Addr} {n : Nat} (r : RD K H T x (.ref a)) (e : kindD x = some n) : kindAt K H a n := by
  cases x <;> simp only [kindD] at e <;> first | (cases e; done) | cases e
  · obtain ⟨b, vs, z, t, _⟩ := r
    cases z
    exact t.kind hK
  · obtain ⟨b, vs, z, t, _⟩ := r
    cases z
    exact t.kind hK
  · obtain ⟨b, od, vs, z, _, h, _⟩ := r
    cases z
    unfold kindAt
    rw [h]
    rfl
  · obtain ⟨b, dx, vs, z, _, _, _, h, _⟩ := r
    cases z
    unfold kindAt
    rw [h]
    rfl
  · obtain ⟨b, dx, vs, z, _, _, _, h, _⟩ := r
    cases z
    unfold kindAt
    rw [h]
    rfl
theorem kind_ref {x : D} {a : Addr} (r : RD K H T x (.ref a)) (ok : okR x = true) : ∃ n, kindD x = some n := by
  cases x <;> first | exact ⟨_, rfl⟩ | (cases ok; done) | (have r' : V.ref a = _ := r; cases r')
mutual
/-- one value, one size -/
theorem size_eq (hK : ∀ a o, K.lookup a = some o → H a = none) : ∀ (x y : D) {v : V}, RD K H T x v → RD K H T y v → okR x = true → okR y = true → sizeD x = sizeD y
  | .tup xs, y, v, r, r2, o1, o2 => by
    obtain ⟨a, vs, z, t, rs⟩ := r
    subst z
    obtain ⟨n, hn⟩ := kind_ref r2 o2
    have hn0 := kindAt_eq (kind_of hK r2 hn) (t.kind hK)
    subst hn0
    cases y <;> simp only [kindD] at hn <;> try (cases hn; done)
    rename_i ys
    obtain ⟨b, ws, z, t2, rs2⟩ := r2
    cases z
    rw [tupAt_eq hK t t2] at rs
    unfold sizeD
    rw [sizes_eq hK xs ys rs rs2 o1 o2]
  | .lst xs, y, v, r, r2, o1, o2 => by
    obtain ⟨a, vs, z, t, rs⟩ := r
    subst z
    obtain ⟨n, hn⟩ := kind_ref r2 o2
    have hn0 := kindAt_eq (kind_of hK r2 hn) (t.kind hK)
    subst hn0
    cases y <;> simp only [kindD] at hn <;> try (cases hn; done)
    rename_i ys
    obtain ⟨b, ws, z, t2, rs2⟩ := r2
    cases z
    rw [lstAt_eq hK t t2] at rs
    unfold sizeD
    rw [sizes_eq hK xs ys rs rs2 o1 o2]
  | .dct ks xs, y, v, r, r2, o1, o2 => by
    have r0 := r
    obtain ⟨a, od, vs, z, t, h, l, rs⟩ := r
    subst z
    obtain ⟨n, hn⟩ := kind_ref r2 o2
    have hn0 := kindAt_eq (kind_of hK r2 hn) (kind_of hK r0 rfl)
    subst hn0
    cases y <;> simp only [kindD] at hn <;> try (cases hn; done)
    rename_i ks2 ys
    obtain ⟨b, od2, ws, z, t2, h2, l2, rs2⟩ := r2
    cases z
    rw [h] at h2
    have e : ks.zip vs = ks2.zip ws := by injection h2 with h2; injection h2 with _ h2; injection h2
    have ev : vs = ws := by
      have e2 := congrArg (fun l => l.map Prod.snd) e
      rw [List.map_snd_zip (by omega), List.map_snd_zip (by omega)] at e2
      exact e2
    rw [ev] at rs
    unfold sizeD
    rw [sizes_eq hK xs ys rs rs2 o1 o2]
  | .slo C xs, y, v, r, r2, o1, o2 => by
    have r0 := r
    obtain ⟨a, dx, vs, z, _⟩ := r
    subst z
    obtain ⟨n, hn⟩ := kind_ref r2 o2
    have hn0 := kindAt_eq (kind_of hK r2 hn) (kind_of hK r0 rfl)
    subst hn0
    cases y <;> simp only [kindD] at hn <;> try (cases hn; done)
    rfl
  | .obj C ns xs, y, v, r, r2, o1, o2 => by
    have r0 := r
    obtain ⟨a, dx, vs, z, _⟩ := r
    subst z
    obtain ⟨n, hn⟩ := kind_ref r2 o2
    have hn0 := kindAt_eq (kind_of hK r2 hn) (kind_of hK r0 rfl)
    subst hn0
    cases y <;> simp only [kindD] at hn <;> try (cases hn; done)
    rfl
  | .non, y, v, r, r2, o1, o2 => by have r' : v = _ := r; subst r'; exact size_leaf r2 o2 (fun a z => nomatch z)
  | .bl b, y, v, r, r2, o1, o2 => by have r' : v = _ := r; subst r'; exact size_leaf r2 o2 (fun a z => nomatch z)
  | .int b, y, v, r, r2, o1, o2 => by have r' : v = _ := r; subst r'; exact size_leaf r2 o2 (fun a z => nomatch z)
  | .str b, y, v, r, r2, o1, o2 => by have r' : v = _ := r; subst r'; exact size_leaf r2 o2 (fun a z => nomatch z)
theorem sizes_eq (hK : ∀ a o, K.lookup a = some o → H a = none) : ∀ (xs ys : List D) {vs : List V}, RDs K H T xs vs → RDs K H T ys vs → okRs xs = true → okRs ys = true → sizeDs xs = sizeDs ys
  | [], ys, vs, r, r2, _, _ => by
    have r' : vs = [] := r
    subst r'
    have := RDs.length r2
    cases ys with
    | nil => rfl
    | cons y ys => simp at this
  | x :: xs, ys, vs, r, r2, o1, o2 => by
    obtain ⟨v, ws, z, h1, h2⟩ := r
    subst z
    cases ys with
    | nil => have r' : (v :: ws) = [] := r2; cases r'
    | cons y ys =>
      obtain ⟨v2, ws2, z, h3, h4⟩ := r2
      cases z
      have o1' := Bool.and_eq_true_iff.mp (show (okR x && okRs xs) = true from o1)
      have o2' := Bool.and_eq_true_iff.mp (show (okR y && okRs ys) = true from o2)
      unfold sizeDs
      rw [size_eq hK x y h1 h3 o1'.1 o2'.1, sizes_eq hK xs ys h2 h4 o1'.2 o2'.2]
theorem size_leaf {y : D} {v : V} (r2 : RD K H T y v) (o2 : okR y = true) (h : ∀ a, v ≠ .ref a) : 0 = sizeD y := by
  cases y <;> first
    | rfl
    | (cases o2; done)
    | (obtain ⟨a, vs, z, _⟩ := r2; exact absurd z (h a))
    | (obtain ⟨a, od, vs, z, _⟩ := r2; exact absurd z (h a))
end
end
end DL
namespace DL
open PySem PySem.Spec PyProof.Rows L2 VX

def keyText : Key → Option Str
  | .inl i => if i.natAbs.log2 < 1920 then some (toString i) else none
  | .inr x => if (reprText x).length ≤ sizeLine then some (reprText x) else none
def leafText : D → Option Str
  | .non => some "None"
  | .bl b => some (if b then "True" else "False")
  | .int i => if i.natAbs.log2 < 1920 then some (toString i) else none
  | .str x => if (reprText x).length ≤ sizeLine then some (reprText x) else none
  | _ => none
/-- the entries of a dict whose values are plain -/
def entTexts : List Key → List D → Option (List Str)
  | [], [] => some []
  | k :: ks, x :: xs => match keyText k, leafText x, entTexts ks xs with
    | some a, some b, some r => some ((a ++ ": " ++ b) :: r)
    | _, _, _ => none
  | _, _ => none
mutual
/-- the text of a datum; own: of a slotted instance by its own __repr__ -/
def reprD (own : Addr → Option (List Str) → List D → Option Str) : D → Option Str
  | .non => some "None"
  | .bl b => some (if b then "True" else "False")
  | .int i => if i.natAbs.log2 < 1920 then some (toString i) else none
  | .str x => if (reprText x).length ≤ sizeLine then some (reprText x) else none
  | .tup xs => match reprDs own xs with
    | some ts => if (tupleText ts).length ≤ sizeLine then some (tupleText ts) else none
    | none => none
  | .lst xs => match reprDs own xs with
    | some ts => if (listText ts).length ≤ sizeLine then some (listText ts) else none
    | none => none
  | .dct ks xs => match entTexts ks xs with
    | some ts => if (dictText ts).length ≤ sizeLine then some (dictText ts) else none
    | none => none
  | .slo C xs => match own C none xs with
    | some t => if t.length ≤ sizeLine then some t else none
    | none => none
  | .obj C ns xs => match own C (some ns) xs with
    | some t => if t.length ≤ sizeLine then some t else none
    | none => none
  | _ => none
def reprDs (own : Addr → Option (List Str) → List D → Option Str) : List D → Option (List Str)
  | [] => some []
  | x :: xs => match reprD own x with
    | some t => match reprDs own xs with
      | some ts => some (t :: ts)
      | none => none
    | none => none
end
theorem ents_ok : ∀ {ks : List Key} {xs : List D} {ts : List Str}, entTexts ks xs = some ts → okRs xs = true
  | [], [], _, _ => rfl
  | [], _ :: _, _, h => by cases h
  | _ :: _, [], _, h => by cases h
  | k :: ks, x :: xs, _, h => by
    unfold entTexts at h
    split at h
    · rename_i a b r e1 e2 e3
      refine Bool.and_eq_true_iff.mpr ⟨?_, ents_ok e3⟩
      cases x <;> first | rfl | (cases e2; done)
    · cases h
mutual
theorem repr_ok {own : Addr → Option (List Str) → List D → Option Str} : ∀ (x : D) {t : Str}, reprD own x = some t → okR x = true
  | .non, _, _ => rfl
  | .bl _, _, _ => rfl
  | .int _, _, _ => rfl
  | .str _, _, _ => rfl
  | .tup xs, _, h => by
    unfold reprD at h
    split at h
    · rename_i ts e; exact reprs_ok xs e
    · cases h
  | .lst xs, _, h => by
    unfold reprD at h
    split at h
    · rename_i ts e; exact reprs_ok xs e
    · cases h
  | .slo _ _, _, _ => rfl
  | .val _, _, h => by cases h
  | .ref _, _, h => by cases h
  | .dct ks xs, _, h => by
    unfold reprD at h
    split at h
    · rename_i ts e; exact ents_ok e
    · cases h
  | .obj _ _ _, _, _ => rfl
  | .exc _ _ _, _, h => by cases h
  | .fn _ _ _ _ _, _, h => by cases h
theorem reprs_ok {own : Addr → Option (List Str) → List D → Option Str} : ∀ (xs : List D) {ts : List Str}, reprDs own xs = some ts → okRs xs = true
  | [], _, _ => rfl
  | x :: xs, _, h => by
    unfold reprDs at h
    split at h
    · rename_i t e
      split at h
      · rename_i ts e2
        exact Bool.and_eq_true_iff.mpr ⟨repr_ok x e, reprs_ok xs e2⟩
      · cases h
    · cases h
end
mutual
def depthD : D → Nat
  | .tup xs => depthDs xs + 2
  | .lst xs => depthDs xs + 2
  | .dct _ _ => 3
  | _ => 0
def depthDs : List D → Nat
  | [] => 0
  | x :: xs => max (depthD x) (depthDs xs)
end
/-- the guards: what is shown at the time is bigger -/
def GC (K : PySem.W.Frag) (H : Hp) (T : Td) (n : Nat) (g : List Code) : Prop := ∀ id u rest kw, Code.builtin id ⟨u :: rest, kw⟩ ∈ g → ∃ b y, u = .ref b ∧ RD K H T y (.ref b) ∧ okR y = true ∧ n < sizeD y
theorem GC.mono {K : PySem.W.Frag} {H H' : Hp} {T T' : Td} {m n : Nat} {g : List Code} (h : GC K H T n g) (f : Fr H T H' T') (le : m ≤ n) : GC K H' T' m g := fun id u rest kw z =>
  let ⟨b, y, e, r, o, l⟩ := h id u rest kw z
  ⟨b, y, e, RD.mono f y r, o, by omega⟩
theorem GC.nil {K : PySem.W.Frag} {H : Hp} {T : Td} {n : Nat} : GC K H T n [] := fun _ _ _ _ z => nomatch z
theorem GC.cons {K : PySem.W.Frag} {H : Hp} {T : Td} {n : Nat} {g : List Code} (h : GC K H T n g) {id : String} {b : Addr} {rest : List Value} {kw : List (Str × Value)} {y : D} (r : RD K H T y (.ref b)) (o : okR y = true) (l : n < sizeD y) :
    GC K H T n (.builtin id ⟨.ref b :: rest, kw⟩ :: g) := fun id' u rest' kw' z => by
  rcases List.mem_cons.mp z with e | z
  · cases e
    exact ⟨b, y, rfl, r, o, l⟩
  · exact h id' u rest' kw' z
theorem GC.clear {K : PySem.W.Frag} {H : Hp} {T : Td} {g : List Code} {x : D} {a : Addr} (hK : ∀ a o, K.lookup a = some o → H a = none) (h : GC K H T (sizeD x) g) (r : RD K H T x (.ref a)) (o : okR x = true) : Clear g a := fun id v rest kw z e => by
  obtain ⟨b, y, e2, r2, o2, l⟩ := h id v rest kw z
  rw [e2] at e
  cases e
  have := size_eq hK x y r r2 o o2
  omega
section
variable {X : Cx}
theorem kfree {pins : List (Addr × Obj)} {σ : L2.St} {H : Hp} {s : Shared} (I : Inv X pins σ H s) : ∀ a o, X.K.lookup a = some o → H a = none := fun a o e => (I.bs a o (I.ok.mod.kin a o e)).2
theorem room_und {k : Nat} {A : Around} {c : Code} (r : Room (k + 1) A) (hd : (A.under c).depth ≤ A.depth + 1) (hu : (A.under c).units ≤ A.units + 1) (hh : (A.under c).handled = A.handled) : Room k (A.under c) :=
  ⟨hh.trans r.hd, by have := r.dp; omega, by have := r.un; omega⟩
theorem env0_A {A : Around} {pins : List (Addr × Obj)} {σ : L2.St} {H : Hp} {s : Shared} (I : Inv X pins σ H s) (h : A.frames = some X.stack) : Env0 X.prog X.w X.K X.mg X.base A X.stack s H :=
  ⟨h, I.env0.mod, I.env0.bs, I.env0.bsz, I.env0.funs, I.env0.frf, I.env0.hok, I.env0.bare⟩
/-- x is shown as t -/
def ReprX (X : Cx) (k : Nat) (x : D) (t : Str) : Prop :=
  ∀ (base : Nat), base + t.length ≤ sizeLine → ∀ (A : Around) (g : List Code) (pins : List (Addr × Obj)) (s : Shared) (σ : L2.St) (H : Hp) (T : Td) (vx : V) (v : Value) (E : Value → Shared → Prop) (Q : Str → Shared → Prop), Room (k + depthD x) A → A.guards = some g → GC X.K H T (sizeD x) g → A.frames = some X.stack →
    Inv X pins σ H s → DOk X.K H T → RD X.K H T x vx → L2.RelV vx v → (∀ s' H', Inv X pins σ H' s' → DOk X.K H' T → Fr H T H' T → Q t s') → wpAny (model X.prog X.w) A (pyReprUnder base v) Q E s
def ReprXs (X : Cx) (k : Nat) : List D → List Str → Prop
  | [], ts => ts = []
  | x :: xs, ts => ∃ t r, ts = t :: r ∧ ReprX X k x t ∧ ReprXs X k xs r
theorem ReprXs.len {k : Nat} : ∀ {xs : List D} {ts : List Str}, ReprXs X k xs ts → ts.length = xs.length
  | [], _, h => by have h' : _ = [] := h; rw [h'] <;> rfl
  | x :: xs, _, h => by obtain ⟨t, r, e, _, h2⟩ := h; rw [e, List.length_cons, List.length_cons, h2.len]
theorem ReprXs.get {k : Nat} : ∀ {xs : List D} {ts : List Str} {i : Nat} {x : D}, ReprXs X k xs ts → xs[i]? = some x → ∃ t, ts[i]? = some t ∧ ReprX X k x t
  | [], _, _, _, _, e => by simp at e
  | x :: xs, _, 0, y, h, e => by
    obtain ⟨t, r, rfl, h1, h2⟩ := h
    simp at e
    subst e
    exact ⟨t, rfl, h1⟩
  | x :: xs, _, i + 1, y, h, e => by
    obtain ⟨t, r, rfl, h1, h2⟩ := h
    obtain ⟨u, q1, q2⟩ := ReprXs.get (i := i) h2 (by simpa using e)
    exact ⟨u, by simpa using q1, q2⟩
theorem reprX_leaf {k : Nat} {x : D} {t : Str} (h : ∀ (vx : V) (v : Value) H T, RD X.K H T x vx → L2.RelV vx v → ReprIs X.prog X.w v t) : ReprX X k x t :=
  fun base hb A g pins s σ H T vx v E Q hr hg hc hf I o rd rv q => h vx v H T rd rv base hb A E s Q fun tk => q _ H (I.tok tk) o Fr.refl
theorem depth_mem : ∀ {xs : List D} {x : D}, x ∈ xs → depthD x ≤ depthDs xs
  | y :: ys, x, h => by
    unfold depthDs
    rcases List.mem_cons.mp h with rfl | h
    · exact Nat.le_max_left _ _
    · exact Nat.le_trans (depth_mem h) (Nat.le_max_right _ _)

/-! tuples -/
theorem foldX {A : Around} {g : List Code} {k n0 d0 : Nat} {T : Td} {E : Value → Shared → Prop} {pins : List (Addr × Obj)} {σ : L2.St} (hr : Room (k + d0) A) (hg : A.guards = some g) (hf : A.frames = some X.stack) :
    ∀ (ds : List D) (l : List Value) (vs : List V) (ts : List Str) (acc : Array Str) (n : Nat) (s : Shared) (H : Hp) (Q : (Array Str × Nat) → Shared → Prop), (∀ x ∈ ds, depthD x ≤ d0 ∧ sizeD x ≤ n0) → GC X.K H T n0 g → Inv X pins σ H s → DOk X.K H T → RDs X.K H T ds vs → Vals vs l → ReprXs X k ds ts → n + piled ts ≤ sizeLine →
      (∀ s' H', Inv X pins σ H' s' → DOk X.K H' T → Fr H T H' T → Q ⟨acc ++ ts.toArray, n + piled ts⟩ s') → wpAny (model X.prog X.w) A (forIn l (⟨acc, n⟩ : (Array Str × Nat)) tupBody) Q E s
  | [], l, vs, ts, acc, n, s, H, Q, hd, hc, I, o, rs, rv, hx, hn, h => by
    have hx' : ts = [] := hx
    have rs' : vs = [] := rs
    subst hx' rs'
    cases rv
    have h0 := h s H I o Fr.refl
    simp only [List.forIn_nil]
    exact wpAny_pure (by simpa [piled] using h0)
  | x :: ds, l, vs, ts, acc, n, s, H, Q, hd, hc, I, o, rs, rv, hx, hn, h => by
    obtain ⟨t, ts', rfl, hx1, hx2⟩ := hx
    obtain ⟨v, vs', rfl, r1, r2⟩ := rs
    cases rv with
    | @cons _ u _ us k1 k2 =>
      rw [piled_cons] at hn
      rw [List.forIn_cons]
      obtain ⟨d1, d2⟩ := hd x List.mem_cons_self
      refine wpAny_bind (wpAny_bind (hx1 (n + 1) (by omega) A g pins s σ H T v u E _ (hr.mono (by omega)) hg (hc.mono Fr.refl d2) hf I o r1 k1 fun s' H' I' o' f' => wpAny_pure ?_))
      refine foldX hr hg hf ds us vs' ts' (acc.push t) (n + (t.length + 2)) s' H' Q (fun y hy => hd y (List.mem_cons_of_mem _ hy)) (hc.mono f' (Nat.le_refl _)) I' o' (RDs.mono f' ds r2) k2 hx2 (by omega) fun s'' H'' I'' o'' f'' => ?_
      have h1 := h s'' H'' I'' o'' (f'.trans f'')
      have e : n + piled (t :: ts') = n + (t.length + 2) + piled ts' := by rw [piled_cons]; omega
      rw [e] at h1
      simpa using h1
theorem tup_obj {pins : List (Addr × Obj)} {σ : L2.St} {H : Hp} {s : Shared} {T : Td} {a : Addr} {vs : List V} (I : Inv X pins σ H s) (t : TupAt X.K H T a vs) : ∃ (o : Obj) (its : Array Value) (n : Nat), s.heap.get? a = some o ∧ o.cls = .type "tuple" ∧ o.data = .seq its n ∧ Vals vs its.toList := by
  rcases t with ⟨_, q⟩ | ⟨o, its, n, l, c, d, _, r⟩
  · obtain ⟨_, its, rv, o, h1, h2, n, h3⟩ := q.ok I.hok
    exact ⟨o, its.toArray, n, h1, h2, h3, by simpa using rv⟩
  · exact ⟨o, its, n, I.kIn a o l, c, d, r⟩
theorem tup_core {A : Around} {g : List Code} {k : Nat} {T : Td} {pins : List (Addr × Obj)} {σ : L2.St} {H : Hp} {s : Shared} {xs : List D} {ts : List Str} {a : Addr} {base : Nat} {id : String} {rest : List Value} {R : Result → Shared → Prop} (hcg : (Code.builtin id ⟨.ref a :: rest, []⟩).isGuard = true)
    (hr : Room (k + depthDs xs + 1) A) (hg : A.guards = some g) (hc : GC X.K H T (sizeD (.tup xs)) g) (hf : A.frames = some X.stack) (I : Inv X pins σ H s) (o : DOk X.K H T) (rd : RD X.K H T (.tup xs) (.ref a)) (ok : okR (.tup xs) = true) (hx : ReprXs X k xs ts)
    (hU : (A.under (.builtin id ⟨.ref a :: rest, []⟩)).depth ≤ A.depth + 1 ∧ (A.under (.builtin id ⟨.ref a :: rest, []⟩)).units ≤ A.units + 1 ∧ (A.under (.builtin id ⟨.ref a :: rest, []⟩)).handled = A.handled ∧ (A.under (.builtin id ⟨.ref a :: rest, []⟩)).frames = A.frames)
    (hsz : base + (tupleText ts).length ≤ sizeLine) (hR : ∀ s' H' u, Inv X pins σ H' s' → DOk X.K H' T → Fr H T H' T → R (.ok (.ret (.str (tupleText ts) u))) s') :
    wpOwn (model X.prog X.w) A (.builtin id ⟨.ref a :: rest, []⟩) (Builtin.tupleReprAt base ⟨[.ref a], []⟩) (fun fin s' => match fin with | .done f => R (.ok f) s' | .again c' => c'.quiet = true ∧ codeAny (model X.prog X.w) A c' R s') (fun e s' => R (.error e) s') s := by
  have hca : Clear g a := hc.clear (kfree I) rd ok
  have rd0 := rd
  obtain ⟨a', vs, z, t, rs⟩ := rd0
  cases z
  obtain ⟨ob, its, n, ha, hcl, hdt, rv⟩ := tup_obj I t
  have hlen : ts.length = its.size := by rw [hx.len, rs.length, rv.length]; simp
  have hp := piled_le_tupleText ts
  have hsz0 : (tupleText ts).length ≤ sizeLine := by omega
  rw [tuple_repr_tree, tupleReprUnderWay_eq]
  refine wpOwn_bind (wpOwn_stackTailAny hg (tupGuardF_off _) (tupGuardF_pos _) ?_)
  have hn : (g.any fun c => tupGuardF (.ref a) (c, default)) = false := by
    rw [List.any_eq_false]
    intro c hcm
    rw [tupGuardF_of_clear hca c hcm]
    exact Bool.false_ne_true
  rw [hn]
  refine wpOwn_of_wpAny ?_
  show wpAny _ _ (tupleReprRest base (.ref a)) _ _ s
  unfold tupleReprRest Builtin.Tuple.tupleItemsOf
  refine wpAny_bind (wpAny_bind (wpAny_seqItems ha hdt (wpAny_pure ?_)))
  rw [← Array.forIn_toList]
  have sz : ∀ x ∈ xs, sizeD x < sizeD (.tup xs) := fun x hx => by
    have := size_mem hx
    show _ < sizeDs xs + 1
    omega
  refine wpAny_bind (foldX (k := k) (d0 := depthDs xs) (n0 := sizeDs xs) (room_und hr hU.1 hU.2.1 hU.2.2.1) (guards_under_guard hcg hg) (hU.2.2.2.trans hf) xs its.toList vs ts _ _ s H _ (fun x hx => ⟨depth_mem hx, Nat.le_of_lt (size_mem hx)⟩)
    ((hc.mono Fr.refl (by show sizeDs xs ≤ sizeDs xs + 1; omega)).cons rd ok (by show sizeDs xs < sizeDs xs + 1; omega)) I o rs rv hx (by omega) fun s' H' I' o' f' => ?_)
  refine wpAny_bind (wpAny_mkStr (wpAny_pure ?_) (by simpa [tupleText, hlen] using hsz0))
  have h1 := hR { s' with toks := s'.toks + 1 } H' s'.toks (I'.tok _) o' f'
  simpa [tupleText, hlen] using h1
end
end DL
namespace DL
open PySem PySem.Spec PyProof.Rows L2 VX
section
variable {X : Cx}
theorem strs_of : ∀ {ts : List Str} {its : List Value}, Vals (ts.map V.str) its → ∃ done : List (Str × Tok), its = strValues done ∧ done.map (·.1) = ts
  | [], _, h => by
    cases h
    exact ⟨[], rfl, rfl⟩
  | t :: ts, _, h => by
    cases h with
    | cons r q =>
      obtain ⟨u, rfl⟩ := (show ∃ u, _ = Value.str t u from r)
      obtain ⟨done, e1, e2⟩ := strs_of q
      exact ⟨(t, u) :: done, by rw [e1]; rfl, by rw [List.map_cons, e2]⟩
theorem lst_obj {pins : List (Addr × Obj)} {σ : L2.St} {H : Hp} {s : Shared} {T : Td} {a : Addr} {vs : List V} (I : Inv X pins σ H s) (t : LstAt X.K H T a vs) : ∃ (o : Obj) (its : Array Value) (n : Nat), s.heap.get? a = some o ∧ o.cls = .type "list" ∧ o.data = .seq its n ∧ Vals vs its.toList := by
  rcases t with ⟨_, q⟩ | ⟨o, its, n, l, c, _, d, _, r⟩
  · obtain ⟨_, its, n, rv, h1⟩ := q.ok I.hok
    exact ⟨_, its.toArray, n, h1, rfl, rfl, by simpa using rv⟩
  · exact ⟨o, its, n, I.kIn a o l, c, d, r⟩
theorem und_loop (A : Around) (args : Args) : (A.under (.builtin "list.__repr__.loop" args)).depth ≤ A.depth + 1 ∧ (A.under (.builtin "list.__repr__.loop" args)).units ≤ A.units + 1 ∧ (A.under (.builtin "list.__repr__.loop" args)).handled = A.handled ∧ (A.under (.builtin "list.__repr__.loop" args)).frames = A.frames := by
  refine ⟨?_, Nat.le_of_eq (units_under_list_loop A args), ?_, ?_⟩
  · show A.depth + (Code.builtin "list.__repr__.loop" args).weight ≤ A.depth + 1
    have : (Code.builtin "list.__repr__.loop" args).weight ≤ 1 := by
      have h1 := isGuard_list_loop args
      unfold Code.weight
      rw [h1]
      have h2 : (Code.builtin "list.__repr__.loop" args).isCreation = false := by
        first | rfl | (simp [Code.isCreation]; done) | (obtain ⟨p, k⟩ := args; cases p <;> rfl)
      have h3 : (Code.builtin "list.__repr__.loop" args).isCaller = false := by
        first | rfl | (simp [Code.isCaller]; done) | (obtain ⟨p, k⟩ := args; cases p <;> rfl)
      rw [h2, h3]
      show (Code.builtin "list.__repr__.loop" args).frames + 0 + 1 + 0 ≤ 1
      have h4 : (Code.builtin "list.__repr__.loop" args).frames = 0 := by first | rfl | simp [Code.frames, Code.isFrame]
      omega
    omega
  · first | rfl | simp [Around.under]
  · first | rfl | simp [Around.under, Code.envs, Code.isFrame, pushEnvs] | (unfold Around.under; cases A.frames <;> simp [Code.envs, Code.env?, Code.isFrame, pushEnvs])
theorem strs_RD {K : PySem.W.Frag} {H : Hp} {T : Td} : ∀ l : List Str, RDs K H T (l.map D.str) (l.map V.str)
  | [] => rfl
  | x :: l => RDs.cons rfl (strs_RD l)
theorem strs_eq {K : PySem.W.Frag} {H : Hp} {T : Td} : ∀ {l : List Str} {vs : List V}, RDs K H T (l.map D.str) vs → vs = l.map V.str
  | [], _, h => h
  | x :: l, _, h => by
    obtain ⟨v, r, e, h1, h2⟩ := h
    have h1' : v = .str x := h1
    rw [e, h1', strs_eq h2]
    rfl
theorem str_lst {K : PySem.W.Frag} {H : Hp} {T : Td} {P : Addr} {l : List Str} (o : DOk K H (tput T P (.lst (l.map D.str)))) : H P = some (.lst (l.map V.str)) := by
  obtain ⟨vs, h, r⟩ := o P _ tput_same
  rw [h, strs_eq r]
theorem lst_loop {A : Around} {g : List Code} {k : Nat} {T : Td} {pins : List (Addr × Obj)} {σ : L2.St} {H0 : Hp} {xs : List D} {ts : List Str} {a P : Addr} {vs : List V} {base : Nat} {R : Result → Shared → Prop}
    (hr : Room (k + depthDs xs + 1) A) (hg : A.guards = some g) (hf : A.frames = some X.stack) (nP : H0 P = none) (nT : T P = none) (hc : GC X.K H0 T (sizeD (.lst xs)) g) (t0 : LstAt X.K H0 T a vs) (rs0 : RDs X.K H0 T xs vs) (ok : okR (.lst xs) = true) (hx : ReprXs X k xs ts)
    (hsz : base + (listText ts).length ≤ sizeLine) (hR : ∀ s' H' u, Inv X pins σ H' s' → DOk X.K H' T → Fr H0 T H' T → R (.ok (.ret (.str (listText ts) u))) s') :
    ∀ (m i : Nat) (s : Shared) (H : Hp), xs.length - i = m → i ≤ xs.length → Inv X pins σ H s → DOk X.K H (tput T P (.lst ((ts.take i).map D.str))) → Fr H0 T H (tput T P (.lst ((ts.take i).map D.str))) →
      codeAny (model X.prog X.w) A (.builtin "list.__repr__.loop" ⟨[.ref a, rawInt i, .ref P, rawInt ((base + piled (ts.take i) : Nat) : Int)], []⟩) R s := by
  have hX : (listText ts).length = (textFrom 0 "[" ts).length + 1 := by
    show (textFrom 0 "[" ts ++ "]").length = _
    rw [strLen_append]; rfl
  have hL := textFrom_len ts 0 "["
  have hlen := hx.len
  have hsz1 : ts.length ≤ sizeLine := by
    have h1 := hL.1
    rw [if_neg (Nat.lt_irrefl 0)] at h1
    omega
  have hsz2 : ∀ t ∈ ts, t.length ≤ sizeLine := fun t ht => by
    have h2 := hL.2.1 t ht
    omega
  have hsz3 : (listText ts).length ≤ sizeLine := by omega
  have hp3 := piled_le_listText ts
  intro m
  induction m with
  | zero =>
    intro i s H hk hi I o f
    have hP := str_lst o
    have hin : i = xs.length := by omega
    obtain ⟨ob, its, n, ha, hcl, hdt, rv⟩ := lst_obj I (t0.mono f)
    have hil : its.size = xs.length := by
      have e1 := rv.length
      have e2 := rs0.length
      simp at e1
      omega
    obtain ⟨pits, pn, prv, hPo, _⟩ := I.lst hP
    obtain ⟨done, ed, ed2⟩ := strs_of prv
    refine codeAny_builtin F.entry_list_repr_loop ?_
    show wpAny _ _ (Builtin.«list.__repr__.loop» ⟨[.ref a, .int i 0, .ref P, .int ((base + piled (ts.take i) : Nat) : Int) 0], []⟩) _ _ s
    rw [repr_loop_tree]
    refine wpAny_bind (wpAny_listItems ha hdt ?_)
    have hnone : its[(i : Int).toNat]? = none := by simp [hin, hil]
    simp only [hnone]
    unfold reprEnd
    refine wpAny_bind (wpAny_listItems hPo rfl ?_)
    rw [List.toList_toArray, ed, repr_fold]
    refine wpAny_bind (wpAny_pure ?_)
    have hall : done.map (·.1) = ts := by rw [ed2, hin, ← hlen, List.take_length]
    rw [hall]
    exact wpAny_bind (wpAny_mkStr (wpAny_pure (hR _ H _ (I.tok _) (by have q := o.free (p := P); rw [tdel_tput nT] at q; exact q) (by have q := f.trans (Fr.free (p := P)); rw [tdel_tput nT] at q; exact q))) hsz3)
  | succ m ih =>
    intro i s H hk hi I o f
    have hP := str_lst o
    have hlt : i < xs.length := by omega
    obtain ⟨t, ht, hrep⟩ := hx.get (List.getElem?_eq_getElem hlt)
    obtain ⟨ob, its, n, ha, hcl, hdt, rv⟩ := lst_obj I (t0.mono f)
    have rs := RDs.mono f xs rs0
    obtain ⟨v, hv, rd⟩ := rs.get (List.getElem?_eq_getElem hlt)
    obtain ⟨u, hu, ru⟩ := rv.get hv
    have hu2 : its[i]? = some u := by simpa using hu
    obtain ⟨pits, pn, prv, hPo, _⟩ := I.lst hP
    have hp1 := piled_take_succ ht
    have hp2 := piled_take_le ts (i + 1)
    have hx0 : xs[i] ∈ xs := List.getElem_mem hlt
    refine codeAny_builtin F.entry_list_repr_loop ?_
    show wpAny _ _ (Builtin.«list.__repr__.loop» ⟨[.ref a, .int i 0, .ref P, .int ((base + piled (ts.take i) : Nat) : Int) 0], []⟩) _ _ s
    rw [repr_loop_tree]
    refine wpAny_bind (wpAny_listItems ha hdt ?_)
    have hsome : its[(i : Int).toNat]? = some u := by rw [Int.toNat_natCast]; exact hu2
    simp only [hsome]
    rw [Int.toNat_natCast]
    have hU := und_loop A ⟨[.ref a, .int i 0, .ref P, .int ((base + piled (ts.take i) : Nat) : Int) 0], []⟩
    have dm := depth_mem hx0
    have sm := size_mem hx0
    have rdl : RD X.K H (tput T P (.lst ((ts.take i).map D.str))) (.lst xs) (.ref a) := ⟨a, vs, rfl, t0.mono f, rs⟩
    refine wpAny_bind (wpAny_holding (hrep (base + piled (ts.take i) + 1) (by omega) _ _ pins s σ H (tput T P (.lst ((ts.take i).map D.str))) v u _ _ ((room_und hr hU.1 hU.2.1 hU.2.2.1).mono (by omega)) (guards_under_guard (isGuard_list_loop _) hg)
      ((hc.mono f (by show sizeD xs[i] ≤ sizeDs xs + 1; omega)).cons rdl ok (by show sizeD xs[i] < sizeDs xs + 1; omega)) (hU.2.2.2.trans hf) I o rd ru fun s' H' I' o' f' => ?_))
    refine wpAny_bind (wpAny_mkStr ?_ (hsz2 t (List.mem_of_getElem? ht)))
    refine wpAny_bind ?_
    show wpAny _ _ (updateSeq P _) _ _ _
    have hP' := str_lst o'
    obtain ⟨qits, qn, qrv, hQo, qz⟩ := I'.lst hP'
    have hql : qits.length ≤ sizeLine := by rw [← qrv.length]; exact qz
    have htake : (ts.take (i + 1)).map V.str = (ts.take i).map V.str ++ [.str t] := by
      rw [List.take_add_one, ht]
      simp
    have hz' : ((ts.take (i + 1)).map V.str).length ≤ sizeLine := by
      rw [List.length_map, List.length_take]
      omega
    have I2 := (I'.tok (s'.toks + 1)).lset (its' := qits ++ [.str t s'.toks]) (ys := (ts.take (i + 1)).map V.str) (f := fun xs => xs.push (.str t s'.toks)) (t' := s'.toks + 1) hP' hQo (by simp) (by rw [htake]; exact qrv.append (.cons ⟨_, rfl⟩ .nil)) hz'
    refine wpAny_updateSeq hQo rfl (wpAny_pure ⟨F.quiet_list_repr_loop _, ?_⟩) (by simpa using hql)
    have e1 : ((i : Int) + 1) = ((i + 1 : Nat) : Int) := by omega
    have e2 : base + piled (ts.take i) + (t.length + 2) = base + piled (ts.take (i + 1)) := by omega
    rw [e1, e2]
    have ht : tput T P (.lst ((ts.take i).map D.str)) P = some (.lst ((ts.take i).map D.str)) := tput_same
    have fw : Fr H' (tput T P (.lst ((ts.take i).map D.str))) (upd H' P (.lst ((ts.take (i + 1)).map V.str))) (tput (tput T P (.lst ((ts.take i).map D.str))) P (.lst ((ts.take (i + 1)).map D.str))) := Fr.write ht
    have ow := o'.write (o := .lst ((ts.take (i + 1)).map V.str)) (u := .lst ((ts.take (i + 1)).map D.str)) ht ⟨_, upd_same, strs_RD _⟩
    rw [tput_tput] at fw ow
    exact ih (i + 1) _ _ (by omega) hlt I2 ow ((f.trans f').trans fw)
end
end DL
namespace DL
open PySem PySem.Spec PyProof.Rows L2 VX
/-- the own __repr__ of slotted instances -/
def ownD (C : Addr) (n : Option (List Str)) (xs : List D) : D := match n with
  | none => .slo C xs
  | some ns => .obj C ns xs
structure OwnR (X : Cx) (k : Nat) (own : Addr → Option (List Str) → List D → Option Str) : Prop where
  ex : ∀ C n xs t, own C n xs = some t → ∃ f, PySem.W.findIn X.K (.ref C) "__repr__" = some (some (.ref f)) ∧ PySem.W.isFn X.K (.ref f) = true ∧
    FnR X.prog X.w X.K X.mg X.base (L2.CX X.prog X.w) k f (liftSp X.K fun ds T Q _ => ds = [ownD C n xs] ∧ Q (.str t) T)
section
variable {X : Cx} {own : Addr → Option (List Str) → List D → Option Str} {k : Nat}
theorem leaf_is {x : D} {t : Str} {K : PySem.W.Frag} {H : Hp} {T : Td} {P : Program} {w : World} {vx : V} {v : Value} (e : leafText x = some t) (rd : RD K H T x vx) (rv : L2.RelV vx v) : ReprIs P w v t := by
  cases x <;> simp only [leafText] at e <;> first | (cases e; done) | skip
  · cases e
    have r : vx = _ := rd
    subst r
    cases (show v = Value.none from rv)
    exact ReprIs.none
  · rename_i b
    cases e
    have r : vx = _ := rd
    subst r
    cases (show v = Value.bool b from rv)
    exact ReprIs.bool b
  · rename_i i
    split at e
    · rename_i hz
      cases e
      have r : vx = _ := rd
      subst r
      obtain ⟨u, rfl⟩ := (show ∃ u, v = Value.int i u from rv)
      exact ReprIs.int u hz
    · cases e
  · rename_i y
    split at e
    · rename_i hz
      cases e
      have r : vx = _ := rd
      subst r
      obtain ⟨u, rfl⟩ := (show ∃ u, v = Value.str y u from rv)
      exact ReprIs.str y u hz
    · cases e
theorem key_is {P : Program} {w : World} {q : Key} {t : Str} {v : Value} (e : keyText q = some t) (h : keyIs q v = true) : ReprIs P w v t := by
  rcases keyIs_shape h with ⟨i, u, rfl, rfl⟩ | ⟨x, u, rfl, rfl⟩
  · simp only [keyText] at e
    split at e
    · rename_i hz
      cases e
      exact ReprIs.int u hz
    · cases e
  · simp only [keyText] at e
    split at e
    · rename_i hz
      cases e
      exact ReprIs.str x u hz
    · cases e
theorem ents_K {P : Program} {w : World} {K : PySem.W.Frag} {H : Hp} {T : Td} {as : List Addr} {h : Heap} {d : Nat} : ∀ {ks : List Key} {xs : List D} {ts : List Str} {vs : List V} {kvs : List (Key × Value)} {es : List DictEntry}, entTexts ks xs = some ts → RDs K H T xs vs → ks.length = vs.length →
    KV (ks.zip vs) kvs → Pairs (mixKind P w) es kvs → ReprEntriesK P w as h d es ts
  | [], [], _, _, _, _, e, rs, _, rk, hP => by
    cases e
    have rs' : _ = [] := rs
    subst rs'
    cases rk
    cases hP
    exact .nil
  | [], _ :: _, _, _, _, _, e, _, _, _, _ => by cases e
  | _ :: _, [], _, _, _, _, e, _, _, _, _ => by cases e
  | q :: ks, x :: xs, _, _, _, _, e, rs, hl, rk, hP => by
    unfold entTexts at e
    split at e
    · rename_i a b r e1 e2 e3
      cases e
      obtain ⟨v, ws, rfl, r1, r2⟩ := rs
      rw [List.zip_cons_cons] at rk
      cases rk with
      | @cons _ kv _ kvs rr rt =>
        obtain ⟨k0, v0⟩ := kv
        obtain ⟨rr1, rr2⟩ := rr
        have rr1' : q = k0 := rr1
        subst rr1'
        cases hP with
        | cons p1 p2 p3 => exact .cons (ReprK.of_is (key_is e1 p1) _ _ _) (ReprK.of_is (leaf_is e2 r1 (by first | (rw [p2]; exact rr2) | (rw [← p2]; exact rr2))) _ _ _) (ents_K e3 r2 (by simpa using hl) rt p3)
    · cases e
/-- an own instance -/
theorem inst_of {C : Addr} {n : Option (List Str)} {xs : List D} {H : Hp} {T : Td} {a : Addr} {pins : List (Addr × Obj)} {σ : L2.St} {s : Shared} (I : Inv X pins σ H s) (rd : RD X.K H T (ownD C n xs) (.ref a)) : ∃ ox od, PySem.W.InstAt s.heap a ox C (some od) := by
  cases n with
  | none =>
    obtain ⟨b, dx, vs, z, _, _, h2, h1, _⟩ := rd
    cases z
    obtain ⟨sl, od, _, J, _⟩ := SlX.slt_inst I (.inr ⟨h1, h2⟩ : SlX.Slt H a C dx (vs.map some))
    exact ⟨_, od, J⟩
  | some ns =>
    obtain ⟨b, dx, vs, z, _, _, h2, h1, _⟩ := rd
    cases z
    obtain ⟨mA, O, _⟩ := ins_get I.hok h1
    obtain ⟨od, J, _⟩ := O.look
    exact ⟨_, _, J⟩
theorem own_call (O : OwnR X k own) {C : Addr} {n : Option (List Str)} {xs : List D} {t : Str} (e : own C n xs = some t) {A : Around} {pins : List (Addr × Obj)} {σ : L2.St} {H : Hp} {s : Shared} {T : Td} {a : Addr} {E : Value → Shared → Prop} {Q : Value → Shared → Prop} (hr : Room k A) (hf : A.frames = some X.stack) (I : Inv X pins σ H s) (o : DOk X.K H T)
    (rd : RD X.K H T (ownD C n xs) (.ref a)) (q : ∀ s' H' u, Inv X pins σ H' s' → DOk X.K H' T → Fr H T H' T → Q (.str t u) s') :
    ∃ f, PySem.W.findIn X.K (.ref C) "__repr__" = some (some (.ref f)) ∧ PySem.W.isFn X.K (.ref f) = true ∧ wpAny (model X.prog X.w) A (call (.ref f) [.ref a]) Q E s := by
  obtain ⟨f, h1, h2, F⟩ := O.ex C n xs t e
  refine ⟨f, h1, h2, wpAny_call (codeAny_mono (F A X.stack s H [.ref a] [.ref a] (fun v H' => v = .str t ∧ DOk X.K H' T ∧ Fr H T H' T) (fun _ _ _ => False) hr (env0_A I hf) (.cons rfl .nil)
    ⟨[ownD C n xs], T, fun x T' => x = .str t ∧ T' = T, fun _ _ => False, RDs.cons rd RDs.nil, o, ⟨rfl, rfl, rfl⟩, fun x T' v H' hx r o' f' => by
      obtain ⟨rfl, rfl⟩ := hx
      exact ⟨r, o', f'⟩, fun _ _ _ _ _ z => z.elim⟩) fun r s' hq => ?_)⟩
  cases r with
  | error er => exact (cx_none hq).elim
  | ok fl =>
    cases fl with
    | ret u =>
      obtain ⟨v, H', I2, rv, ev, o', f'⟩ := I.after hq
      subst ev
      obtain ⟨tk, rfl⟩ := (show ∃ tk, u = Value.str t tk from rv)
      exact q s' H' tk I2 o' f'
    | next => exact False.elim hq
    | brk => exact False.elim hq
    | cont => exact False.elim hq
theorem under_own {M : Model} {A : Around} {E : Value → Shared → Prop} {s : Shared} {K : PySem.W.Frag} {x C f : Addr} {ox : Obj} {od : Option Obj} {base : Nat} {Q : Value → Shared → Prop} (hu : A.units < cLine) (Xk : K.In s.heap) (I : PySem.W.InstAt s.heap x ox C od) (hs : PySem.W.findIn K (.ref C) "__repr__" = some (some (.ref f))) (hf : PySem.W.isFn K (.ref f) = true)
    (h : wpAny M A (call (.ref f) [.ref x]) (fun v s' => (∃ y u, v = .str y u) ∧ Q v s') E s) : wpAny M A (pyReprObjUnder base (.ref x)) Q E s := by
  unfold pyReprObjUnder pyReprObjBy
  refine wpAny_bind (wpAny_cRoomFor hu ?_)
  refine wpAny_bind (wpAny_bind (I.type.here ((PySem.W.looks_findIn Xk hs).here ?_)))
  show wpAny _ _ (if (some (Value.ref f)).isNone = true then _ else _) _ _ _
  rw [if_neg (by simp)]
  refine wpAny_bind ?_
  simp only [callSpecialIfBoundBy?, bindSpecialIfBound?]
  refine wpAny_holding (wpAny_bind (wpAny_bind (wpAny_bind (I.type.here ((PySem.W.looks_findIn Xk hs).here ?_)))))
  refine wpAny_bind (wpAny_askSetting (wpAny_ite ?_))
  have fin : wpAny M A (call (.ref f) ([.ref x] ++ []) >>= fun v => pure (some v)) (fun r s' => wpAny M A (match r with
      | some r => do if ← isInstance r (.type "str") then pure r else raiseError "TypeError" s!"__repr__ returned non-string (type {← typeNameOf r})"
      | none => unsupported "repr:special-get-raises") Q E s') E s := wpAny_bind (wpAny_mono h (fun v s' h' => wpAny_pure (by
        obtain ⟨⟨y, u, rfl⟩, q⟩ := h'
        refine wpAny_bind (wpAny_isInstance (T := "str") (b := true) (typeIs_str _ _ _) isSubtype_str_str ?_)
        first
          | exact wpAny_pure q
          | (rw [if_pos rfl]; exact wpAny_pure q))) fun _ _ h' => h')
  split
  · exact wpAny_bind ((PySem.W.bind_fn Xk _ (beq_iff_eq.mp hf)).here (wpAny_pure (by exact fin)))
  · exact wpAny_tryCatch (wpAny_bind ((PySem.W.bind_fn Xk _ (beq_iff_eq.mp hf)).here (wpAny_pure (by exact fin))))
def UndP (A : Around) (c : Code) : Prop := (A.under c).depth ≤ A.depth + 1 ∧ (A.under c).units ≤ A.units + 1 ∧ (A.under c).handled = A.handled ∧ (A.under c).frames = A.frames
theorem und_gen (A : Around) (id : String) (args : Args) (h1 : (Code.builtin id args).isGuard = true) (h2 : (Code.builtin id args).isCreation = false) (h3 : (Code.builtin id args).isCaller = false) (h4 : (Code.builtin id args).frames = 0) (hu : (A.under (.builtin id args)).units = A.units + 1) :
    UndP A (.builtin id args) := by
  refine ⟨?_, Nat.le_of_eq hu, ?_, ?_⟩
  · show A.depth + (Code.builtin id args).weight ≤ A.depth + 1
    have : (Code.builtin id args).weight ≤ 1 := by
      unfold Code.weight
      rw [h1, h2, h3, h4]
      decide
    omega
  · first | rfl | simp [Around.under]
  · first | rfl | simp [Around.under, Code.envs, Code.isFrame, pushEnvs] | (unfold Around.under; cases A.frames <;> simp [Code.envs, Code.env?, Code.isFrame, pushEnvs])
theorem und_tup (A : Around) (args : Args) : UndP A (.builtin "tuple.__repr__" args) := und_gen A "tuple.__repr__" args (isGuard_tuple_repr args) (by first | rfl | (simp [Code.isCreation]; done) | (obtain ⟨p, k⟩ := args; cases p <;> rfl)) (by first | rfl | (simp [Code.isCaller]; done)) (by first | rfl | (simp [Code.frames, Code.isFrame]; done)) (units_under_tuple_repr A args)
theorem und_tupU (A : Around) (args : Args) : UndP A (.builtin "tuple.__repr__.under" args) := und_gen A "tuple.__repr__.under" args (by show guardIds.contains "tuple.__repr__.under" = true; decide +kernel) (by first | rfl | (simp [Code.isCreation]; done) | (obtain ⟨p, k⟩ := args; cases p <;> rfl)) (by first | rfl | (simp [Code.isCaller]; done)) (by first | rfl | (simp [Code.frames, Code.isFrame]; done)) (by first | rfl | simp [Around.under, Code.cUnits, Code.frames, Code.isFrame])
/-- a list, at the root or below -/
theorem lst_core {A : Around} {g : List Code} {T : Td} {pins : List (Addr × Obj)} {σ : L2.St} {H : Hp} {s : Shared} {xs : List D} {ts : List Str} {a : Addr} {base : Nat} {R : Result → Shared → Prop}
    (hr : Room (k + depthDs xs + 1) A) (hg : A.guards = some g) (hc : GC X.K H T (sizeD (.lst xs)) g) (hf : A.frames = some X.stack) (I : Inv X pins σ H s) (o : DOk X.K H T) (rd : RD X.K H T (.lst xs) (.ref a)) (ok : okR (.lst xs) = true) (hx : ReprXs X k xs ts)
    (hsz : base + (listText ts).length ≤ sizeLine) (hR : ∀ s' H' u, Inv X pins σ H' s' → DOk X.K H' T → Fr H T H' T → R (.ok (.ret (.str (listText ts) u))) s') :
    wpAny (model X.prog X.w) A.in1 (Builtin.listReprAt base ⟨[.ref a], []⟩) (fun fin s' => match fin with | .done f => R (.ok f) s' | .again c' => c'.quiet = true ∧ codeAny (model X.prog X.w) A c' R s') (fun e s' => R (.error e) s') s := by
  have hca : Clear g a := hc.clear (kfree I) rd ok
  have rd0 := rd
  obtain ⟨a', vs, z, t, rs⟩ := rd0
  cases z
  obtain ⟨ob, its, n, ha, hcl, hdt, rv⟩ := lst_obj I t
  have hlen := hx.len
  have hsz0 : (listText ts).length ≤ sizeLine := by omega
  obtain ⟨l⟩ := its
  cases l with
  | nil =>
    have e0 : vs = [] := by cases rv; rfl
    have e1 : ts = [] := by
      have := rs.length
      rw [e0] at this
      cases ts with
      | nil => rfl
      | cons t ts => rw [← hlen] at this; simp at this
    subst e1
    refine wpAny_list_repr_empty ha hdt ?_
    have q := hR { s with toks := s.toks + 1 } H s.toks (I.tok _) o Fr.refl
    rw [listText_nil] at q
    exact q
  | cons x l =>
    refine wpAny_list_repr_head (A := A.in1) hg (fun v rest kw hm => listSameRef_of_ne (hca _ _ _ _ hm)) ha hdt ?_
    refine wpAny_bind (m := newList []) (wpAny_newObj_type ?_)
    refine wpAny_pure ⟨F.quiet_list_repr_loop _, ?_⟩
    have nP : H s.heap.objs.size = none := I.hok.fresh (Nat.le_refl _)
    have nT := o.fresh nP
    have I2 := I.lnew (ys := []) (its := []) (t' := s.toks) .nil (Nat.zero_le _)
    have o2 : DOk X.K (upd H s.heap.objs.size (.lst [])) (tput T s.heap.objs.size (.lst (([] : List Str).map D.str))) := o.laidT nP ⟨[], upd_same, rfl⟩
    have q := lst_loop (R := R) (base := base) hr hg hf nP nT hc t rs ok hx hsz hR _ 0 _ _ rfl (Nat.zero_le _) I2 (by rw [List.take_zero]; exact o2) (by rw [List.take_zero]; exact Fr.laidT nP)
    exact q
mutual
/-- THE TEXT of a datum -/
theorem reprX_all (O : OwnR X k own) : ∀ (x : D) {t : Str}, reprD own x = some t → ReprX X k x t
  | .non, t, e => reprX_leaf fun vx v H T rd rv => leaf_is (x := .non) e rd rv
  | .bl b, t, e => reprX_leaf fun vx v H T rd rv => leaf_is (x := .bl b) e rd rv
  | .int i, t, e => reprX_leaf fun vx v H T rd rv => leaf_is (x := .int i) e rd rv
  | .str y, t, e => reprX_leaf fun vx v H T rd rv => leaf_is (x := .str y) e rd rv
  | .tup xs, t, e => by
    have ok := repr_ok (.tup xs) e
    unfold reprD at e
    split at e
    · rename_i ts es
      split at e
      · cases e
        have hx := reprXs_all O xs es
        intro base hb A g pins s σ H T vx v E Q hr hg hc hf I o rd rv q
        have rd0 := rd
        obtain ⟨a, vs, z, tt, rs⟩ := rd0
        subst z
        obtain rfl : v = Value.ref a := rv
        obtain ⟨ob, its, n, ha, hcl, hdt, _⟩ := tup_obj I tt
        have hr' : Room (k + depthDs xs + 1) A := hr.mono (by show k + depthDs xs + 1 ≤ k + (depthDs xs + 2); omega)
        refine wpAny_pyReprUnder_ref (by omega) (wpAny_pyReprObjUnder_twin (twin := "tuple.__repr__.under") ⟨ob, ha, hcl⟩ F.slot_tuple_repr rfl (by have := hr.un; omega) ?_)
        exact call_twin_own (F.quiet_tuple_repr_under _) F.entry_tuple_repr_under F.check_tuple_repr_under ⟨ob, ha, hcl⟩ F.slot_tuple_repr (F.args_tuple_repr_1 _)
          (tup_core (R := callEnd _ E) (by show guardIds.contains "tuple.__repr__.under" = true; decide +kernel) hr' hg hc hf I o rd ok hx (und_tupU A _) hb fun s' H' u I' o' f' => ⟨⟨_, _, rfl⟩, _, _, rfl, q s' H' I' o' f'⟩)
      · cases e
    · cases e
  | .lst xs, t, e => by
    have ok := repr_ok (.lst xs) e
    unfold reprD at e
    split at e
    · rename_i ts es
      split at e
      · cases e
        have hx := reprXs_all O xs es
        intro base hb A g pins s σ H T vx v E Q hr hg hc hf I o rd rv q
        have rd0 := rd
        obtain ⟨a, vs, z, tt, rs⟩ := rd0
        subst z
        obtain rfl : v = Value.ref a := rv
        obtain ⟨ob, its, n, ha, hcl, hdt, _⟩ := lst_obj I tt
        have hr' : Room (k + depthDs xs + 1) A := hr.mono (by show k + depthDs xs + 1 ≤ k + (depthDs xs + 2); omega)
        refine wpAny_pyReprUnder_ref (by omega) (wpAny_pyReprObjUnder_twin (twin := "list.__repr__.under") ⟨ob, ha, hcl⟩ F.slot_list_repr.toG rfl (by have := hr.un; omega) ?_)
        exact call_twin_plain F.plain_list_repr_under F.entry_list_repr_under F.check_list_repr_under ⟨ob, ha, hcl⟩ F.slot_list_repr.toG (F.args_list_repr_1 _)
          (lst_core (R := callEnd _ E) hr' hg hc hf I o rd ok hx hb fun s' H' u I' o' f' => ⟨⟨_, _, rfl⟩, _, _, rfl, q s' H' I' o' f'⟩)
      · cases e
    · cases e
  | .dct ks xs, t, e => by
    have ok := repr_ok (.dct ks xs) e
    unfold reprD at e
    split at e
    · rename_i ts es
      split at e
      · cases e
        intro base hb A g pins s σ H T vx v E Q hr hg hc hf I o rd rv q
        have rd0 := rd
        obtain ⟨a, od0, vs, z, tt, hh, hl, rs⟩ := rd0
        subst z
        obtain rfl : v = Value.ref a := rv
        obtain ⟨_, hsys, kvs, rk, ob, es0, ep, ha, hE, hdt, _, hP, _⟩ := (show ObjOk X.prog X.w H s.heap a (.frz od0 (.dK (ks.zip vs))) from I.hok a _ hh).2
        have hca : Clear g a := hc.clear (kfree I) rd ok
        exact (ReprK.dict (as := []) (h₀ := s.heap) (d := 0) ha hE.1 hdt hsys (by simp) (ents_K es rs hl rk hP)) base hb A g E s Q hg (fun b hb => by
          have hb' : b = a := by simpa using hb
          rw [hb']
          exact hca) (by have := hr.un; omega) (fun _ _ z => z) fun h' tk kp => q _ H (I.kept kp) o Fr.refl
      · cases e
    · cases e
  | .slo C xs, t, e => by
    unfold reprD at e
    split at e
    · rename_i t' et
      split at e
      · cases e
        intro base hb A g pins s σ H T vx v E Q hr hg hc hf I o rd rv q
        have rd0 := rd
        obtain ⟨a, dx, vs, z, _⟩ := rd0
        subst z
        obtain rfl : v = Value.ref a := rv
        obtain ⟨ox, od, J⟩ := inst_of (n := none) I rd
        obtain ⟨f, h1, h2, hcall⟩ := own_call (E := E) (Q := fun v s' => (∃ y u, v = .str y u) ∧ ∃ y u, v = .str y u ∧ Q y s') O et (hr.mono (Nat.le_add_right _ _)) hf I o rd fun s' H' u I' o' f' => ⟨⟨_, _, rfl⟩, _, _, rfl, q s' H' I' o' f'⟩
        exact wpAny_pyReprUnder_ref (by omega) (under_own (by have := hr.un; omega) I.kIn J h1 h2 hcall)
      · cases e
    · cases e
  | .obj C ns xs, t, e => by
    unfold reprD at e
    split at e
    · rename_i t' et
      split at e
      · cases e
        intro base hb A g pins s σ H T vx v E Q hr hg hc hf I o rd rv q
        have rd0 := rd
        obtain ⟨a, dx, vs, z, _⟩ := rd0
        subst z
        obtain rfl : v = Value.ref a := rv
        obtain ⟨ox, od, J⟩ := inst_of (n := some ns) I rd
        obtain ⟨f, h1, h2, hcall⟩ := own_call (E := E) (Q := fun v s' => (∃ y u, v = .str y u) ∧ ∃ y u, v = .str y u ∧ Q y s') O et (hr.mono (Nat.le_add_right _ _)) hf I o rd fun s' H' u I' o' f' => ⟨⟨_, _, rfl⟩, _, _, rfl, q s' H' I' o' f'⟩
        exact wpAny_pyReprUnder_ref (by omega) (under_own (by have := hr.un; omega) I.kIn J h1 h2 hcall)
      · cases e
    · cases e
  | .val _, t, e => by cases e
  | .ref _, t, e => by cases e
  | .exc _ _ _, t, e => by cases e
  | .fn _ _ _ _ _, t, e => by cases e
theorem reprXs_all (O : OwnR X k own) : ∀ (xs : List D) {ts : List Str}, reprDs own xs = some ts → ReprXs X k xs ts
  | [], ts, e => by cases e; rfl
  | x :: xs, ts, e => by
    unfold reprDs at e
    split at e
    · rename_i t et
      split at e
      · rename_i r er
        cases e
        exact ⟨t, r, rfl, reprX_all O x et, reprXs_all O xs er⟩
      · cases e
    · cases e
end
end
end DL
namespace DL
open PySem PySem.Spec PyProof.Rows L2 VX
/-- repr(x), x of a depth of at most n -/
def rRepr (own : Addr → Option (List Str) → List D → Option Str) (n : Nat) : RAD := fun xs T Q _ => match xs with
  | [x] => depthD x ≤ n ∧ match reprD own x with
    | some t => Q (.str t) T
    | none => False
  | _ => False
section
variable {X : Cx} {W : WX} {own : Addr → Option (List Str) → List D → Option Str} {k n : Nat}
theorem cd_repr (b : Bd (k + n + 4) X W) (O : OwnR X k own) : CallD X W (.builtin "repr") (rRepr own n) := by
  intro pins s σ H Q sd T QD ED xs vs us I L rs rv q
  match xs, q, rs with
  | [x], q, rs =>
  obtain ⟨vx, rfl, rd⟩ := rds1 rs
  cases rv with
  | @cons _ v _ _ k1 k2 =>
  cases k2
  obtain ⟨hd, q⟩ := q
  split at q
  case h_2 => exact q.elim
  rename_i t e
  have fin : ∀ (u : Tok), EP X pins σ Q (.str t u) { s with toks := s.toks + 1 } := fun u => L.here (x := .str t) (vx := .str t) (I.tok _) rfl ⟨u, rfl⟩ q
  have fin2 : ∀ s' H' u, Inv X pins σ H' s' → DOk X.K H' T → Fr H T H' T → EP X pins σ Q (.str t u) s' := fun s' H' u I' o' f' => L.ep (x := .str t) (vx := .str t) I' rfl ⟨u, rfl⟩ o' f' q
  cases x with
  | non =>
    cases e
    have r : vx = _ := rd
    subst r
    cases (show v = Value.none from k1)
    exact PySem.P.repr_of_none (fin _)
  | bl y =>
    cases e
    have r : vx = _ := rd
    subst r
    cases (show v = Value.bool y from k1)
    exact PySem.P.repr_of_bool (fin _)
  | int i =>
    unfold reprD at e
    split at e
    · rename_i hz
      cases e
      have r : vx = _ := rd
      subst r
      obtain ⟨u, rfl⟩ := (show ∃ u, v = Value.int i u from k1)
      exact PySem.P.repr_of_int hz (fin _)
    · cases e
  | str y =>
    unfold reprD at e
    split at e
    · rename_i hz
      cases e
      have r : vx = _ := rd
      subst r
      obtain ⟨u, rfl⟩ := (show ∃ u, v = Value.str y u from k1)
      exact PySem.P.repr_of_str (fin _) hz
    · cases e
  | tup xs =>
    have ok := repr_ok (.tup xs) e
    unfold reprD at e
    split at e
    · rename_i ts es
      split at e
      · rename_i hz
        cases e
        have hx := reprXs_all O xs es
        have rd0 := rd
        obtain ⟨a, vs, z, tt, rs⟩ := rd0
        subst z
        obtain rfl : v = Value.ref a := k1
        obtain ⟨ob, its, m, ha, hcl, hdt, _⟩ := tup_obj I tt
        have hr' : Room (k + depthDs xs + 1) X.A.in1 := (Room.in1 (b.hr.mono (by have : depthDs xs + 2 ≤ n := hd; omega) : Room (k + depthDs xs + 1 + 1) X.A))
        refine call_repr_slot (by have := b.hr.un; omega) ⟨ob, ha, hcl⟩ F.slot_tuple_repr (wpAny_call (codeAny_call_builtin_own (Code.quiet_builtin _ (by decide +kernel)) F.entry_tuple_repr (F.slot_tuple_repr.check _ _ _ _ _ _ _ _ ⟨ob, ha, hcl⟩ (F.args_tuple_repr_1 _)
          (tup_core (base := 0) (R := callEnd (fun r s₁ => ∃ x t, r = .str x t ∧ EP X pins σ Q r s₁) X.xe) (isGuard_tuple_repr _) hr' (show X.A.guards = some [] from b.hg) GC.nil I.ok.frames I L.ok rd ok hx (und_tup _ _) (by omega) fun s' H' u I' o' f' => ⟨_, _, rfl, fin2 s' H' u I' o' f'⟩))))
      · cases e
    · cases e
  | lst xs =>
    have ok := repr_ok (.lst xs) e
    unfold reprD at e
    split at e
    · rename_i ts es
      split at e
      · rename_i hz
        cases e
        have hx := reprXs_all O xs es
        have rd0 := rd
        obtain ⟨a, vs, z, tt, rs⟩ := rd0
        subst z
        obtain rfl : v = Value.ref a := k1
        obtain ⟨ob, its, m, ha, hcl, hdt, _⟩ := lst_obj I tt
        have hr' : Room (k + depthDs xs + 1) X.A.in1 := (Room.in1 (b.hr.mono (by have : depthDs xs + 2 ≤ n := hd; omega) : Room (k + depthDs xs + 1 + 1) X.A))
        refine call_repr_slot (by have := b.hr.un; omega) ⟨ob, ha, hcl⟩ F.slot_list_repr.toG (wpAny_call (codeAny_call_builtin F.slot_list_repr.plain F.entry_list_repr (F.slot_list_repr.check _ _ _ _ _ _ _ _ ⟨ob, ha, hcl⟩ (F.args_list_repr_1 _)
          (lst_core (base := 0) (R := callEnd (fun r s₁ => ∃ x t, r = .str x t ∧ EP X pins σ Q r s₁) X.xe) hr' (show X.A.guards = some [] from b.hg) GC.nil I.ok.frames I L.ok rd ok hx (by omega) fun s' H' u I' o' f' => ⟨_, _, rfl, fin2 s' H' u I' o' f'⟩))))
      · cases e
    · cases e
  | dct ks xs =>
    unfold reprD at e
    split at e
    · rename_i ts es
      split at e
      · rename_i hz
        cases e
        have rd0 := rd
        obtain ⟨a, od0, vs, z, tt, hh, hl, rs2⟩ := rd0
        subst z
        obtain rfl : v = Value.ref a := k1
        obtain ⟨_, hsys, kvs, rk, ob, es0, ep, ha, hE, hdt, _, hP, _⟩ := (show ObjOk X.prog X.w H s.heap a (.frz od0 (.dK (ks.zip vs))) from I.hok a _ hh).2
        exact call_repr_slot (by have := b.hr.un; omega) ⟨ob, ha, hE.1⟩ F.slot_dict_repr (call_dict_reprK (as := []) (d := 0) ha hE.1 hdt hsys (by simp) (ents_K es rs2 hl rk hP) (show X.A.guards = some [] from b.hg) (fun b _ => Clear.nil b) (by have := b.hr.un; show X.A.units + 1 + (0 + 1) < cLine; omega) (fun _ _ z => z)
          (fun h' u tk kp => ⟨_, _, rfl, fin2 _ H u (I.kept kp) L.ok Fr.refl⟩) hz)
      · cases e
    · cases e
  | slo C xs =>
    unfold reprD at e
    split at e
    · rename_i t' et
      split at e
      · cases e
        have rd0 := rd
        obtain ⟨a, dx, vs, z, _⟩ := rd0
        subst z
        obtain rfl : v = Value.ref a := k1
        obtain ⟨ox, od, J⟩ := inst_of (n := none) I rd
        obtain ⟨f, h1, h2, hcall⟩ := own_call (E := X.xe) (Q := PySem.W.StrBack (EP X pins σ Q)) (A := X.A.in1) O et (Room.in1 (b.hr.mono (by omega))) I.ok.frames I L.ok rd fun s' H' u I' o' f' => fin2 s' H' u I' o' f'
        obtain ⟨m, Fm⟩ := I.fr
        exact PySem.W.repr_K (by have := b.hr.un; show X.A.units + 1 < cLine; omega) Fm I.ok.mod.kin J h1 h2 hcall
      · cases e
    · cases e
  | obj C ns xs =>
    unfold reprD at e
    split at e
    · rename_i t' et
      split at e
      · cases e
        have rd0 := rd
        obtain ⟨a, dx, vs, z, _⟩ := rd0
        subst z
        obtain rfl : v = Value.ref a := k1
        obtain ⟨ox, od, J⟩ := inst_of (n := some ns) I rd
        obtain ⟨f, h1, h2, hcall⟩ := own_call (E := X.xe) (Q := PySem.W.StrBack (EP X pins σ Q)) (A := X.A.in1) O et (Room.in1 (b.hr.mono (by omega))) I.ok.frames I L.ok rd fun s' H' u I' o' f' => fin2 s' H' u I' o' f'
        obtain ⟨m, Fm⟩ := I.fr
        exact PySem.W.repr_K (by have := b.hr.un; show X.A.units + 1 < cLine; omega) Fm I.ok.mod.kin J h1 h2 hcall
      · cases e
    · cases e
  | val _ => cases e
  | ref _ => cases e
  | exc _ _ _ => cases e
  | fn _ _ _ _ _ => cases e
end
end DL
namespace DL
open PySem PySem.Spec PyProof.Rows L2 VX
/-- what is tracked at the start: the script (unless it is the module's own), the tables -/
def H0 (K : PySem.W.Frag) (a : Addr) (o : Obj) (xs : List V) (ts : List Addr) : Hp := fun b => if b = a then (if (K.lookup a).isSome then none else some (.frz o (.lst xs))) else if b ∈ ts then some (.tbl #[]) else none
def T0 (cs : List (Addr × Addr × Str)) : Td := fun b => (cs.find? fun p => p.2.1 == b).map fun p => .tbl p.2.2
/-- a law's end: the promise of its def at the head's heap -/
theorem law_end {P : Program} {w : World} {K : PySem.W.Frag} {mg mb : Str → Option Value} {k : Nat} {fa a : Addr} {cs : List (Addr × Addr × Str)} {sp : SpD} {s₁ : Shared} {vs : List Value} {ns : List Int}
    (KX : K.In s₁.heap) (hns : s₁.heap.Ns mainGlobals mg) (hb : s₁.heap.Ns builtinsNs mb) (hbb : ∀ x : Str, x ≠ "__name__" → mb x = bootBuiltins x) (hlim : s₁.heap.NoLimit) (hg : s₁.gens = #[])
    (hT : ∀ p ∈ cs, s₁.heap.get? p.2.1 = some { cls := .none, data := .fields #[] }) (nT : ∀ p ∈ cs, K.lookup p.2.1 = none) (C : ∀ p ∈ cs, PySem.W.CodeHd s₁.heap p.1 p.2.1)
    (hbm : ∃ (bm : Addr) (ob : Obj), mg "__builtins__" = some (.ref bm) ∧ bm ≠ builtinsNs ∧ s₁.heap.get? bm = some ob ∧ ob.cls = .type "module" ∧ ob.dict = some builtinsNs ∧ ob.data = .plain)
    (ha : s₁.heap.get? a = some { cls := .type "list", data := .seq vs.toArray }) (hi : IntsAre vs ns) (hl : ns.length ≤ sizeLine) (hr : Room k callerA)
    (F : ∀ base : Heap, K.In base → base.Ns mainGlobals mg → (∀ p ∈ cs, LamX.TabB base mg p.1 p.2.1) → GR P w K mg base fa k sp)
    (hsp : sp [.lst (ns.map D.int)] (T0 cs) (fun x _ => x = .bl true) fun _ _ => False) :
    codeAny (model P w) callerA (.call (.ref fa) ⟨[.ref a], []⟩) (fun r s' => r = .ok (.ret (.bool true)) ∧ OldK s₁.heap s'.heap ∧ s'.os = s₁.os ∧ AllBare s'.gens) s₁ := by
  have rv := vals_ints hi
  have lenV := hi.length
  obtain ⟨ts, ets⟩ : ∃ ts, ts = cs.map fun p => p.2.1 := ⟨_, rfl⟩
  have isT : ∀ b : Addr, b ∈ ts → s₁.heap.get? b = some { cls := .none, data := .fields #[] } := fun b hb => by
    rw [ets] at hb
    obtain ⟨p, hp, e⟩ := List.mem_map.mp hb
    rw [← e]
    exact hT p hp
  have noT : ∀ b : Addr, b ∈ ts → K.lookup b = none := fun b hb => by
    rw [ets] at hb
    obtain ⟨p, hp, e⟩ := List.mem_map.mp hb
    rw [← e]
    exact nT p hp
  have aT : a ∉ ts := fun z => by
    have q := isT a z
    rw [ha] at q
    have z' : Data.seq vs.toArray _ = Data.fields #[] := congrArg Obj.data (Option.some.inj q)
    cases z'
  have memT : ∀ p ∈ cs, p.2.1 ∈ ts := fun p hp => by rw [ets]; exact List.mem_map.mpr ⟨p, hp, rfl⟩
  obtain ⟨H, eH⟩ : ∃ H, H = H0 K a { cls := .type "list", data := .seq vs.toArray } (ns.map V.int) ts := ⟨_, rfl⟩
  have h_tab : ∀ b ∈ ts, H b = some (.tbl #[]) := fun b hb => by
    rw [eH]
    unfold H0
    rw [if_neg (fun z => aT (by rw [← z]; exact hb)), if_pos hb]
  have h_a : H a = if (K.lookup a).isSome then none else some (.frz { cls := .type "list", data := .seq vs.toArray } (.lst (ns.map V.int))) := by
    rw [eH]
    unfold H0
    rw [if_pos rfl]
  have h_no : ∀ b, b ≠ a → b ∉ ts → H b = none := fun b h1 h2 => by
    rw [eH]
    unfold H0
    rw [if_neg h1, if_neg h2]
  have hok : HOk P w H s₁.heap := fun b u z => by
    by_cases h1 : b = a
    · subst h1
      rw [h_a] at z
      split at z
      · cases z
      · cases z
        exact ⟨ha, by rw [List.length_map]; exact hl, vs, _, rv, ha⟩
    · by_cases h2 : b ∈ ts
      · rw [h_tab b h2] at z
        cases z
        exact isT b h2
      · rw [h_no b h1 h2] at z
        cases z
  have free : ∀ {b : Addr} {o : Obj}, s₁.heap.get? b = some o → (∀ vs n, o.data ≠ .seq vs n) → o.data ≠ .fields #[] → H b = none := fun {b o} e h1 h2 => by
    refine h_no b (fun z => ?_) fun z => ?_
    · rw [z, ha] at e
      cases e
      exact (h1 _ _ rfl).elim
    · rw [isT b z] at e
      cases e
      exact (h2 rfl).elim
  have freeD : ∀ {b : Addr} {o : Obj} {es : Array DictEntry} {ep : Nat}, s₁.heap.get? b = some o → o.data = .dict es ep → H b = none := fun {b o es ep} e d =>
    free e (fun vs n z => by rw [d] at z; cases z) fun z => by rw [d] at z; cases z
  have nsK : ∀ {b : Addr} {m : Str → Option Value}, s₁.heap.Ns b m → (hidT s₁.heap H).Ns b m := fun {b m} ⟨o, es, ep, e, d, r⟩ => ⟨o, es, ep, hidT_get e (freeD e d), d, r⟩
  have hKb : K.In (hidT s₁.heap H) := fun b o e => hidT_get (KX b o e) (by
    by_cases h1 : b = a
    · subst h1
      rw [h_a, if_pos (by rw [e]; rfl)]
    · by_cases h2 : b ∈ ts
      · rw [noT b h2] at e
        cases e
      · exact h_no b h1 h2)
  have hM : L2.Mod K mg (hidT s₁.heap H) := ⟨hKb, nsK hns, ⟨mb, nsK hb, hbb⟩, let ⟨mc, h1, h2⟩ := hlim; ⟨mc, nsK h1, h2⟩⟩
  have TB : ∀ p ∈ cs, LamX.TabB (hidT s₁.heap H) mg p.1 p.2.1 := fun p hp => by
    refine ⟨?_, ?_, fun z => ?_⟩
    · obtain ⟨o, us, file, tf, flags, tg, inF, text, tt, e1, r1, r2, r3, r4, r5, r6, r7, r8, hne⟩ := C p hp
      refine ⟨o, us, file, tf, flags, tg, inF, text, tt, hidT_get e1 (free e1 (fun vs n z => by rw [r2] at z; cases z) fun z => ?_), r1, r2, r3, r4, r5, r6, r7, r8, hne⟩
      rw [r2] at z
      cases z
      simp at r3
    · obtain ⟨bm, ob, b1, b2, b3, b4, b5, b6⟩ := hbm
      have nG : bm ≠ mainGlobals := fun q => by
        obtain ⟨o, es, ep, e, hd, _⟩ := hns
        rw [q, e] at b3
        cases b3
        rw [hd] at b6
        cases b6
      have nP : bm ≠ p.2.1 := fun q => by
        rw [q, hT p hp] at b3
        cases b3
        cases b6
      exact ⟨bm, ob, b1, b2, nG, nP, hidT_get b3 (free b3 (fun vs n z => by rw [b6] at z; cases z) fun z => by rw [b6] at z; cases z), b4, b5, b6⟩
    · obtain ⟨o, es, ep, e, hd, _⟩ := hns
      rw [z, hT p hp] at e
      cases e
      cases hd
  have e0 : Env0 P w K mg (hidT s₁.heap H) callerA [] s₁ H := ⟨rfl, hM, fun b o e => of_hidT e, Nat.le_of_eq (hidT_size _ _), trivial, fun b hb => absurd (show b ∈ ([] : List Addr) from hb) (by simp), hok, .of_eq hg⟩
  have t_a : T0 cs a = none := by
    unfold T0
    rw [List.find?_eq_none.mpr fun p hp => ?_]
    · rfl
    · intro z
      have z' : p.2.1 = a := by simpa using z
      exact aT (by rw [← z']; exact memT p hp)
  have rdA : RD K H (T0 cs) (.lst (ns.map D.int)) (.ref a) := by
    refine ⟨a, ns.map V.int, rfl, ?_, ints_RD ns⟩
    cases hk : K.lookup a with
    | some o =>
      have e := KX a o hk
      rw [ha] at e
      cases e
      exact .inr ⟨_, vs.toArray, _, hk, rfl, rfl, rfl, by rw [List.size_toArray, lenV]; exact hl, by simpa using rv⟩
    | none => exact .inl ⟨t_a, .inr ⟨_, by rw [h_a, hk]; rfl⟩⟩
  have dok : DOk K H (T0 cs) := fun b u e => by
    unfold T0 at e
    cases q : cs.find? fun p => p.2.1 == b with
    | none => rw [q] at e; cases e
    | some p =>
      rw [q] at e
      cases e
      have hp := List.mem_of_find?_eq_some q
      have hb : p.2.1 = b := by simpa using List.find?_some q
      refine ⟨#[], h_tab b (by rw [← hb]; exact memT p hp), True.intro, fun pos cv hc => ?_⟩
      have z : codeAmong pos [] = some cv := hc
      simp [codeAmong] at z
  refine codeAny_mono (F _ hKb (nsK hns) TB callerA [] s₁ H [.ref a] [.ref a] (fun v _ => v = .bl true) (fun _ _ _ => False) hr rfl e0 (.cons rfl .nil) ⟨_, _, _, _, RDs.cons rdA RDs.nil, dok, hsp, fun x T' v H' hx r _ _ => by
    rw [hx] at r
    exact r, fun _ _ _ _ _ z => z.elim⟩) fun r s' h => ?_
  cases r with
  | error e => exact (cx_none h).elim
  | ok fl =>
    cases fl with
    | next => exact False.elim h
    | brk => exact False.elim h
    | cont => exact False.elim h
    | ret u =>
      obtain ⟨v, H', os, bare, un, hok', r', q⟩ := h
      subst q
      obtain rfl : u = Value.bool true := r'
      have nil : ∀ b : Addr, b ∉ ([] : List Addr) := fun b z => nomatch z
      have key : ∀ b o, b ∉ ts → s₁.heap.get? b = some o → s'.heap.get? b = some o := fun b o nb e => by
        by_cases h1 : b = a
        · subst h1
          cases hk : (K.lookup b).isSome with
          | true => exact un.keep b o e (by rw [h_a, hk]; rfl) (nil b) (nil b)
          | false =>
            have z : H b = some (.frz { cls := .type "list", data := .seq vs.toArray } (.lst (ns.map V.int))) := by rw [h_a, hk]; rfl
            obtain ⟨e2, _⟩ := hok' b _ (un.frzs b _ _ z)
            rw [ha] at e
            cases e
            exact e2
        · exact un.keep b o e (h_no b h1 nb) (nil b) (nil b)
      have grown : ∀ p ∈ cs, ∃ more : Array Value, s'.heap.get? p.2.1 = some { cls := .none, data := .fields more } := fun p hp => by
        obtain ⟨more, z⟩ := un.tbls p.2.1 #[] (h_tab _ (memT p hp))
        exact ⟨_, hok' _ _ z⟩
      have tabOf : ∀ b, b ∈ ts → ∃ p ∈ cs, p.2.1 = b := fun b hb => by
        rw [ets] at hb
        exact List.mem_map.mp hb
      refine ⟨rfl, ⟨fun b o e => ?_, fun b o e => ?_⟩, os, bare⟩
      · by_cases hb : b ∈ ts
        · obtain ⟨p, hp, ep⟩ := tabOf b hb
          obtain ⟨more, hm⟩ := grown p hp
          rw [← ep] at e ⊢
          rw [hT p hp] at e
          cases e
          exact .inr (.inl ⟨((C p hp).tab (hT p hp)).isCodeTable, rfl, #[], more, rfl, by rw [Array.empty_append]; exact hm⟩)
        · exact .inl (key b o hb e)
      · by_cases hb : b ∈ ts
        · obtain ⟨p, hp, ep⟩ := tabOf b hb
          obtain ⟨more, hm⟩ := grown p hp
          rw [← ep]
          exact ⟨_, hm⟩
        · exact ⟨o, key b o hb e⟩
where
  ints_RD {K : PySem.W.Frag} {H : Hp} {T : Td} : ∀ l : List Int, RDs K H T (l.map D.int) (l.map V.int)
    | [] => rfl
    | x :: l => RDs.cons rfl (ints_RD l)
/-- THE GOAL that a law's head leaves -/
theorem walk_end {l : PySem.W.OpenLaw} {n k : Nat} {q : Program} {loose : List Str} {XP : (Str → Option Value) → Heap → Prop} {YP : World → Heap → Prop} {d : DefRec} {K : Params → PySem.W.Frag}
    (hn : l.most = some n) (hn2 : n ≤ sizeLine) (hdf : d.params.defaults = []) (hr : Room k callerA) (hY : ∀ (w : World) (h : Heap), YP w h → (K w.params).In h)
    (F : ∀ (w : World) (mg : Str → Option Value) (fa : Addr) (h : Heap), YP w h → (K w.params).In h → h.Ns mainGlobals mg → mg d.name = some (.ref fa) →
      (∀ d x c P, (recsOf q).find? (fun e => e.name == x) = some d → PySem.W.tabIn (K w.params) x = some (c, P) → PySem.W.CodeHd h c P ∧ h.get? P = some { cls := .none, data := .fields #[] }) →
      ∃ (cs : List (Addr × Addr × Str)) (sp : SpD), (∀ p ∈ cs, h.get? p.2.1 = some { cls := .none, data := .fields #[] }) ∧ (∀ p ∈ cs, (K w.params).lookup p.2.1 = none) ∧ (∀ p ∈ cs, PySem.W.CodeHd h p.1 p.2.1) ∧
        (∀ base : Heap, (K w.params).In base → base.Ns mainGlobals mg → (∀ p ∈ cs, LamX.TabB base mg p.1 p.2.1) → GR l.prog w (K w.params) mg base fa k sp) ∧
        ∀ ns : List Int, ns.length ≤ n → (∀ z ∈ ns, Builtin.Int.intBits z ≤ 1048576) → sp [.lst (ns.map D.int)] (T0 cs) (fun x _ => x = .bl true) fun _ _ => False) :
    PySem.W.WalkO q loose XP YP l.row.toRowW d [] (fun f vs => PySem.call f vs) := by
  refine Att.attach_callB hn hdf fun w s₀ s₁ mg mb fa o pm cd doc a vs ns G Y ho hd hcd hmg hobj hints hlen hbits hg => ?_
  have KX := hY w _ Y
  obtain ⟨cs, sp, hT, nT, C, hF, hsp⟩ := F w mg fa _ Y KX G.T.g hmg fun d x c P hr ht => PySem.W.tab_of G.T KX hr ht
  exact law_end KX G.T.g G.T.b G.T.builtins G.T.nolimit hg hT nT C G.T.bmain hobj hints (Nat.le_trans hlen hn2) hr hF (hsp ns hlen hbits)
end DL
namespace DL
open PySem PySem.Spec PyProof.Rows L2 VX LamX

/-! ### a lambda without parameters handed to a def -/
section
variable {X : Cx} {pins : List (Addr × Obj)} {σ : L2.St} {H : Hp} {s : Shared} {T : Td}
theorem lam_makeD {q : Str} {c P : Addr} {params : Arguments} {body : Expr} {scope : Scope} {pos : Pos} {E : Value → Shared → Prop} {Q : Value → Shared → Prop} (I : Inv X pins σ H s) (TB : TabB X.base X.mg c P) (hcode : X.env.code = .ref c) (eq : X.env.qual ++ "<lambda>" = q)
    (o : DOk X.K H T) (ht : T P = some (.tbl q)) (hdef : defaultsOf params X.env = ([], [])) (hfree : ∀ y ∈ scope.names, y.2 = .free → ∃ c, X.env.cells.lookup y.1 = some c)
    (h : ∀ (f c' : Addr) (pm ctv : Value) (H1 : Hp) (s' : Shared), Inv X pins σ H1 s' → DOk X.K H1 T → Fr H T H1 T →
      s'.heap.get? f = some (PySem.W.kla_obj "<lambda>" (X.env.qual ++ "<lambda>") params body scope (cloFrom X.env.cells scope.names []) pm c' ctv) → H1 f = none → f ∉ frs X.stack → H1 c' = some (CodeO c' q) → T c' = none → Q (.ref f) s') :
    wpAny (model X.prog X.w) X.A (eval (.Lambda params body scope pos) X.env) Q E s := by
  subst eq
  obtain ⟨ps, hP, tr, ha⟩ := o P _ ht
  refine PySem.W.kla_eval hdef ?_
  have bP : s.heap.BuiltinsAt X.mg P := TB.bm.keeps I.bk
  have hP' : s.heap.get? P = some { cls := .none, data := .fields ps } := I.hok P _ hP
  have nofr : ∀ f, s.heap.objs.size ≤ f → f ∉ frs X.stack := fun f hf z => by
    rcases List.mem_cons.mp (I.stkSub _ z) with e | e
    · have h1 := I.lt
      rw [← e] at h1
      exact Nat.lt_irrefl _ (Nat.lt_of_lt_of_le h1 hf)
    · exact I.nofs hf e
  cases hc : codeAmong pos ps.toList with
  | none =>
    refine PySem.W.kla_makeFunction (mg := X.mg) (c := c) (P := P) (ps := ps) (closure_ok hfree) I.ok.glob (I.mod.glob.keeps I.bk) hcode (TB.code.keeps I.bk) hP' tr hc TB.gP bP fun c' ctv h' tk hx hge hlt hrec htb => ?_
    obtain ⟨c2, oc, vs, t, e2, hoc, hd, hv⟩ := hrec
    cases e2
    have hsz : s.heap.objs.size ≤ h'.objs.size := Nat.le_trans hge (Nat.le_of_lt hlt)
    have nC : H c' = none := I.hok.fresh hge
    have tC : T c' = none := o.fresh nC
    have I1 := inv_table (t' := tk) (more := #[rawInt pos.line, rawInt pos.col, .ref c']) (h' := h'.push (PySem.W.kla_obj "<lambda>" (X.env.qual ++ "<lambda>") params body scope (cloFrom X.env.cells scope.names []) ((X.mg "__name__").getD .none) c' ctv)) I hP
      (fun b o hb e => Heap.get?_push_of_some _ (hx b o hb e)) (Heap.get?_push_of_some _ htb) hge ⟨oc, vs, t, Heap.get?_push_of_some _ hoc, hd, hv⟩
    have eL : (ps ++ #[rawInt pos.line, rawInt pos.col, .ref c']).toList = ps.toList ++ [rawInt pos.line, rawInt pos.col, .ref c'] := by simp
    have cP : c' ≠ P := fun z => by rw [z, hP] at nC; cases nC
    have fr : Fr H T (upd (upd H P (.tbl (ps ++ #[rawInt pos.line, rawInt pos.col, .ref c']))) c' (CodeO c' (X.env.qual ++ "<lambda>"))) T := fun b u e n => by
      refine ⟨?_, n⟩
      rw [upd_ne (ne_of_none e nC), upd_ne (fun z => by rw [z, ht] at n; cases n)]
      exact e
    have o1 : DOk X.K (upd (upd H P (.tbl (ps ++ #[rawInt pos.line, rawInt pos.col, .ref c']))) c' (CodeO c' (X.env.qual ++ "<lambda>"))) T := fun b u e => by
      by_cases hb : b = P
      · subst hb
        rw [ht] at e
        cases e
        refine ⟨_, by rw [upd_ne (Ne.symm cP), upd_same], by rw [eL]; exact PySem.TriplesOk_snoc _ _ _ _ tr, fun p' cv hcv => ?_⟩
        rw [eL] at hcv
        rcases among_app _ tr hcv with z | z
        · obtain ⟨c0, e1, e2, e3⟩ := ha p' cv z
          exact ⟨c0, e1, fr c0 _ e2 e3⟩
        · exact ⟨c', z, upd_same, tC⟩
      · have hbc : b ≠ c' := fun z => by rw [z, tC] at e; cases e
        exact (o b u e).mono fr (by rw [upd_ne hbc, upd_ne hb])
    refine h h'.objs.size c' ((X.mg "__name__").getD .none) ctv _ _ I1 o1 fr (Heap.get?_push_size _ rfl) ?_ (nofr _ hsz) upd_same tC
    have n1 : h'.objs.size ≠ c' := Nat.ne_of_gt hlt
    have n2 : h'.objs.size ≠ P := Nat.ne_of_gt (Nat.lt_of_lt_of_le (Heap.lt_size hP') hsz)
    rw [upd_ne n1, upd_ne n2]
    exact I.hok.fresh hsz
  | some cv =>
    obtain ⟨c', e, hco, tC⟩ := ha pos cv hc
    subst e
    refine PySem.W.kla_makeFunctionHit (mg := X.mg) (c := c) (P := P) (ps := ps) (closure_ok hfree) I.ok.glob (I.mod.glob.keeps I.bk) hcode (TB.code.keeps I.bk) hP' tr hc bP fun ctv h' tk hx hsz => ?_
    have I1 : Inv X pins σ H { s with heap := h'.push (PySem.W.kla_obj "<lambda>" (X.env.qual ++ "<lambda>") params body scope (cloFrom X.env.cells scope.names []) ((X.mg "__name__").getD .none) c' ctv), toks := tk } := I.kept fun b o e => Heap.get?_push_of_some _ (hx b o e)
    exact h h'.objs.size c' ((X.mg "__name__").getD .none) ctv H _ I1 o Fr.refl (Heap.get?_push_size _ rfl) (I.hok.fresh hsz) (nofr _ hsz) hco tC
end

/-- a def runs, by its body at this very state -/
theorem run_def {P : Program} {w : World} {K : PySem.W.Frag} {mg : Str → Option Value} {base : Heap} {k : Nat} {f : Addr} {name qual : Str} {params : Arguments} {body : List Stmt} {scope : Scope} {dV kV doc pm cdv ct oc : Value} {an od : Option Addr} {osl : Array (Option Value)} {N ps : List Str} {d : TDS}
    {A : Around} {outer : List Env} {s : Shared} {H : Hp} {T : Td} {args : Args} {us : List Value} {vs : List V} {ds : List D} {Q : VK} {E : XK} {QD : KD} {ED : XD} (lk : K.lookup f = some ⟨oc, od, .func (PySem.W.fnOf name qual params body scope dV kV doc pm an cdv ct), osl⟩) (hcd : PySem.W.codeIn K cdv qual = true) (S : FnScope N ps scope)
    (hr : Room (k + 1) A) (hgd : A.guards = some []) (e0 : Env0 P w K mg base A outer s H) (hb : BindsTo s (PySem.W.fnOf name qual params body scope dV kV doc pm an cdv ct) args (ps.zip us)) (r : Vals vs us) (rd : RDs K H T ds vs) (o : DOk K H T) (hl : vs.length = ps.length)
    (hq : ∀ x T' v H', QD x T' → RD K H' T' x v → DOk K H' T' → Fr H T H' T' → Q v H') (hx : ∀ ex T' c da H', ED ex T' → XR K H' T' ex c da → DOk K H' T' → Fr H T H' T' → E c da H')
    (hbody : Bd k (cxOf (L2.CX P w) P w K mg base N qual scope f cdv A outer s H E) (WE0 E) → DSs (cxOf (L2.CX P w) P w K mg base N qual scope f cdv A outer s H E) (WE0 E) body d) (hp : d (endsD QD ED) (startD N ds) T) :
    codeAny (model P w) A (.call (.ref f) args) (CR (L2.CX P w) outer P w H s Q E) s := by
  have KX : K.In s.heap := e0.mod.kin.keeps fun b o e => (e0.bs b o e).1
  have lim : s.heap.NoLimit := e0.mod.nolimit.keeps fun b o e => (e0.bs b o e).1
  have hkind : ∀ y ∈ ps.zip us, scope.names.lookup y.1 = some .local ∨ (scope.names.lookup y.1 = some .cell ∧ ((cellsFrom (s.heap.objs.size + 1) scope.names []).lookup y.1).isSome = true) := fun ⟨n, v⟩ hy => by
    rcases S.par n (List.of_mem_zip hy).1 with q | q
    · exact .inl q
    · exact .inr ⟨q, PySem.W.cellsFrom_some _ _ _ (.inl q)⟩
  refine codeAny_call_function hr.depth (KX _ _ lk) rfl S.co S.gen rfl (PySem.W.codeRec_of KX hcd) (hb _ _ _ _ ?_)
  refine wpAny_newFunctionEnv_cells S.kind hkind fun env he s1 x => ?_
  subst he
  refine ⟨lim.keeps x.toInCall.keep, codeAny_func ?_⟩
  have I : Inv (cxOf (L2.CX P w) P w K mg base N qual scope f cdv A outer s H E) [] (L2.start N vs) H s1 := inv_start S hr.hd e0 hl r x
  refine wpAny_mono ((hbody ⟨L2.takes_of rfl rfl rfl rfl, hr.deeper _, hgd⟩).run [] s1 (L2.start N vs) H { nx := fun _ H' => Q .non H', rt := Q } I ⟨startD N ds, T, endsD QD ED, startD_ok rd, o, ⟨fun sd' T' σ' H' n st o f => hq .non T' .non H' n rfl o f, fun x T' v H' n r o f => hq x T' v H' n r o f, fun sd' T' σ' H' n => n.elim, fun sd' T' σ' H' n => n.elim,
    fun ex sd' T' c da σ' H' n xr st o f => hx ex T' c da H' n xr o f⟩, hp⟩) (fun fl s' hs => ?_) fun e s' hs => hs
  have fin : ∀ {σ' : L2.St} {H' : Hp} {v : V} {u : Value}, Inv (cxOf (L2.CX P w) P w K mg base N qual scope f cdv A outer s H E) [] σ' H' s' → L2.RelV v u → Q v H' → CE outer P w H s Q u s' :=
    fun {σ' H' v u} J rv q => ⟨v, H', J.os, J.bare, J.base, J.hok, rv, q⟩
  cases fl with
  | ret u =>
    obtain ⟨v, σ', H', J, rv, q⟩ := hs
    exact fin J rv q
  | next =>
    obtain ⟨σ', H', J, q⟩ := hs
    exact fin (v := V.non) (u := Value.none) J rfl q
  | brk =>
    obtain ⟨_, _, _, q⟩ := hs
    exact False.elim q
  | cont =>
    obtain ⟨_, _, _, q⟩ := hs
    exact False.elim q

/-- the slots that a lambda sees -/
def capSd (n : Nat) : List Nat → List D → SD
  | i :: is, d :: ds => (capSd n is ds).set i (some d)
  | _, _ => List.replicate n none
/-- what stands in them -/
def capD (sd : SD) : List Nat → Option (List D)
  | [] => some []
  | i :: is => match sd[i]? with
    | some (some d) => (capD sd is).map (d :: ·)
    | _ => none
def capV (σ : L2.St) : List Nat → Option (List V)
  | [] => some []
  | i :: is => match σ[i]? with
    | some (some d) => (capV σ is).map (d :: ·)
    | _ => none
theorem cap_V {K : PySem.W.Frag} {H : Hp} {T : Td} {sd : SD} {σ : L2.St} (st : StOk K H T sd σ) : ∀ {is : List Nat} {ds : List D}, capD sd is = some ds → ∃ vs, capV σ is = some vs ∧ RDs K H T ds vs
  | [], ds, e => by
    cases e
    exact ⟨[], rfl, rfl⟩
  | i :: is, ds, e => by
    unfold capD at e
    split at e
    · rename_i d hd
      cases q : capD sd is with
      | none => rw [q] at e; cases e
      | some r =>
        rw [q] at e
        cases e
        obtain ⟨vs, e1, e2⟩ := cap_V st q
        obtain ⟨v, e3, e4⟩ := st.at_ i d hd
        exact ⟨v :: vs, by unfold capV; rw [e3, e1]; rfl, RDs.cons e4 e2⟩
    · cases e
theorem cap_St {K : PySem.W.Frag} {H : Hp} {T : Td} {σ : L2.St} {n : Nat} (hn : σ.length = n) : ∀ {is : List Nat} {ds : List D} {vs : List V}, capV σ is = some vs → RDs K H T ds vs → StOk K H T (capSd n is ds) σ
  | [], ds, vs, e, r => by
    refine ⟨?_, fun i d q => ?_⟩
    · cases ds <;> (unfold capSd; rw [List.length_replicate, hn])
    · have q' : (List.replicate n (none : Option D))[i]? = some (some d) := by cases ds <;> exact q
      rw [List.getElem?_replicate] at q'
      split at q' <;> cases q'
  | i :: is, ds, vs, e, r => by
    unfold capV at e
    split at e
    · rename_i v hv
      cases q : capV σ is with
      | none => rw [q] at e; cases e
      | some r2 =>
        rw [q] at e
        cases e
        cases ds with
        | nil =>
          have r' : (v :: r2) = [] := r
          cases r'
        | cons d ds =>
          obtain ⟨u, us, e2, h1, h2⟩ := r
          cases e2
          have S := cap_St hn q h2
          refine ⟨by show ((capSd n is ds).set i (some d)).length = _; rw [List.length_set, S.len], fun j x hx => ?_⟩
          have hx' : ((capSd n is ds).set i (some d))[j]? = some (some x) := hx
          by_cases hj : j = i
          · subst hj
            by_cases hl : j < (capSd n is ds).length
            · rw [List.getElem?_set_self hl] at hx'
              cases hx'
              exact ⟨v, hv, h1⟩
            · rw [List.getElem?_eq_none (by rw [List.length_set]; omega)] at hx'
              cases hx'
          · rw [List.getElem?_set_ne (Ne.symm hj)] at hx'
            exact S.at_ j x hx'
    · cases e
/-- a(): the lambda's body at the slots that it sees -/
def dAct (i : Nat) (x : D) (sd0 : SD) (tb : TDE) : TDE := fun sd T Q E => (match sd[i]? with
  | some (some (.fn f c q vs ds)) => x = .fn f c q vs ds
  | _ => False) ∧ tb sd0 T Q E
/-- x(lambda: body) -/
def dLam (P : Addr) (q : Str) (n : Nat) (is : List Nat) (Ng : List Str) (tb : TDE) (dg : TDE → TDS) : TDE := fun sd T Q E => T P = some (.tbl q) ∧ match capD sd is with
  | some ds => ∀ f c vs, dg (dAct 0 (.fn f c q vs ds) (capSd n is ds) tb) (endsD Q E) (startD Ng [.fn f c q vs ds]) T
  | none => False
section
variable {X : Cx} {W : WX}
theorem de_lamcall {x a q : Str} {g c P : Addr} {k n : Nat} {pg : Arguments} {bg : List Stmt} {sg : Scope} {dV kV doc pm cdv ct oc : Value} {an od : Option Addr} {osl : Array (Option Value)} {Ng : List Str} {is : List Nat} {tb : TDE} {dg : TDE → TDS}
    {params : Arguments} {body : Expr} {scope : Scope} {p lpos pos : Pos} (b : Bd (k + 2) X W) (hg : Gl X x) (hm : X.mg x = some (.ref g)) (hk : PySem.W.keepIn X.K (.ref g) = true)
    (lk : X.K.lookup g = some ⟨oc, od, .func (PySem.W.fnOf x x pg bg sg dV kV doc pm an cdv ct), osl⟩) (hcg : PySem.W.codeIn X.K cdv x = true) (hb : L2.Binds X.K (PySem.W.fnOf x x pg bg sg dV kV doc pm an cdv ct) [a] []) (Sg : FnScope Ng [a] sg) (hNg : Ng[0]? = some a) (hva : Vis sg a)
    (TB : TabB X.base X.mg c P) (hcode : X.env.code = .ref c) (eq : X.env.qual ++ "<lambda>" = q) (hn : X.N.length = n) (L : LamS X.env.scope scope) (hdef : defaultsOf params X.env = ([], []))
    (hbind : ∀ (q : Str) (cl : List (Str × Addr)) (pm cv ctv : Value), bindArgs (PySem.W.kla_fn "<lambda>" q params body scope cl pm cv ctv) ⟨[], []⟩ = pure [])
    (hbody : ∀ (A : Around) (outer : List Env) (s : Shared) (H : Hp) (E : XK) (f c' : Addr), Bd k (lamCx X A outer s H E scope f c') (WE0 E) → DE (lamCx X A outer s H E scope f c') (WE0 E) body tb)
    (hG : ∀ (s : Shared) (H : Hp) (E : XK) (act : TDE), Bd (k + 1) (cxOf (L2.CX X.prog X.w) X.prog X.w X.K X.mg X.base Ng x sg g cdv X.A X.stack s H E) (WE0 E) →
      (∀ (W' : WX) (pn : List (Addr × Obj)) (xe : Value → Shared → Prop) (p1 p2 : Pos), L2.Takes ((cxOf (L2.CX X.prog X.w) X.prog X.w X.K X.mg X.base Ng x sg g cdv X.A X.stack s H E).tr pn xe) W' → DE ((cxOf (L2.CX X.prog X.w) X.prog X.w X.K X.mg X.base Ng x sg g cdv X.A X.stack s H E).tr pn xe) W' (.Call (.Name a p1) [] [] p2) act) →
      DSs (cxOf (L2.CX X.prog X.w) X.prog X.w X.K X.mg X.base Ng x sg g cdv X.A X.stack s H E) (WE0 E) bg (dg act))
    (hdb : (x == ("__debug__" : Str)) = false := by decide) (hd : (a == ("__debug__" : Str)) = false := by decide) (hcd : (a == ("__classdict__" : Str)) = false := by decide) :
    DE X W (.Call (.Name x p) [.Lambda params body scope lpos] [] pos) (dLam P q n is Ng tb dg) := by
  refine DE.mk fun pins s σ H Q sd T QD ED I LE0 h => ?_
  obtain ⟨ht, h⟩ := h
  split at h
  case h_2 => exact h.elim
  rename_i ds hcap
  refine wpAny_Call_Name_kw (ld_glob I hg hm ?_ hdb)
  refine PySem.W.callWith_K (h₀ := X.base) I.ok.mod.kin hk ?_ (by rfl) (by rfl)
  show wpAny _ _ (spliced ((false, eval (.Lambda params body scope lpos) X.env) :: backTo pos (starEach [] X.env))) _ _ s
  refine Calls.spliced_cons (lam_makeD I TB hcode eq LE0.ok ht hdef (L.has I.ok) fun f c' pm' ctv H1 s' I1 o1 f1 hf hfn hfr hco tco => ?_)
  refine Calls.spliced_nil ⟨I1.kIn, ?_⟩
  have L1 := LE0.go o1 f1
  obtain ⟨vs, hcv, hrd⟩ := cap_V L1.st hcap
  have rdf : RDs X.K H1 T [.fn f c' q vs ds] [.ref f] := RDs.cons ⟨rfl, tco, hco, hrd⟩ RDs.nil
  have rc : codeAny (model X.prog X.w) X.A (.call (.ref g) ⟨[.ref f], []⟩) (CR (L2.CX X.prog X.w) X.stack X.prog X.w H1 s' Q (WE W σ)) s' := by
    refine run_def (N := Ng) (ps := [a]) (us := [.ref f]) (vs := [.ref f]) lk hcg Sg b.hr b.hg I1.env0 (hb s' [.ref f] I1.kIn rfl) (.cons rfl .nil) rdf o1 rfl L1.q L1.x (fun bz => hG s' H1 (WE W σ) _ bz fun W' pn xe p1 p2 tkZ => ?_) (h f c' vs)
    refine DE.mk fun pinsZ sZ σZ HZ QZ sdZ TZ QDZ EDZ IZ LZ hz => ?_
    obtain ⟨hs, hbz⟩ := hz
    split at hs
    case h_2 => exact hs.elim
    rename_i f2 c2 q2 vs2 ds2 es
    cases hs
    obtain ⟨v0, hv0, rf⟩ := LZ.st.at_ 0 _ es
    obtain ⟨ef, tcz, hcz, rdz⟩ := rf
    subst ef
    refine wpAny_Call_Name_kw (thn ((pe_var (X := (cxOf (L2.CX X.prog X.w) X.prog X.w X.K X.mg X.base Ng x sg g cdv X.A X.stack s' H1 (WE W σ)).tr pn xe) (pos := p1) (i := 0) hNg hva hd hcd).run pinsZ sZ σZ HZ (fun v H1 => v = .ref f ∧ H1 = HZ) IZ ⟨.ref f, hv0, rfl, rfl⟩) fun u s1 ⟨v, H2, I2, r1, q1⟩ => ?_)
    obtain ⟨ev, eH⟩ := q1
    subst ev
    rw [eH] at I2
    obtain rfl : u = Value.ref f := r1
    have of1 : s1.heap.get? f = some (PySem.W.kla_obj "<lambda>" (X.env.qual ++ "<lambda>") params body scope (cloFrom X.env.cells scope.names []) pm' c' ctv) := I2.base.keep f _ hf hfn hfr (fun z => nomatch (show f ∈ ([] : List Addr) from z))
    refine PySem.W.callWith_F0 ⟨_, _, _, _, of1⟩ ?_
    have un : Un (frs X.stack) [] H1 HZ s'.heap s1.heap := I2.base
    obtain ⟨⟨oc2, vs3, t3, hoc, hdc, hvc⟩, _, _⟩ := I2.hok c' _ hcz
    have hrz : Room (k + 1) (X.A.deeper (envOfC x sg s'.heap.objs.size g cdv)) := bz.hr
    have rc2 : codeAny (model X.prog X.w) (X.A.deeper (envOfC x sg s'.heap.objs.size g cdv)) (.call (.ref f) ⟨[], []⟩) (CR (L2.CX X.prog X.w) (envOfC x sg s'.heap.objs.size g cdv :: X.stack) X.prog X.w HZ s1 QZ (WE W' σZ)) s1 := by
      refine PySem.W.kla_callFunE hrz.depth of1 rfl L.co L.gen rfl ⟨c', oc2, vs3, t3, rfl, hoc, hdc, by rw [eq]; exact hvc⟩ ?_
      rw [hbind]
      refine wpAny_pure (wpAny_newFunctionEnv (fun y hy => (L.own y hy).2) (fun y hy => absurd hy (by simp)) (fun h₁ hns hsb => ⟨I2.nolimit.fresh _ hsb, ?_⟩) L.kind)
      show codeAny _ _ (.expr body (lamEnv X scope s1.heap.objs.size f c')) _ _
      have kp : ∀ b o, s1.heap.get? b = some o → h₁.get? b = some o := fun b o e => hsb.extBut b o (Nat.ne_of_lt (Heap.lt_size e)) (Heap.get?_push_of_some _ e)
      have J : Inv (lamCx X (X.A.deeper (envOfC x sg s'.heap.objs.size g cdv)) (envOfC x sg s'.heap.objs.size g cdv :: X.stack) s1 HZ (WE W' σZ) scope f c') [] σ HZ { s1 with heap := h₁, toks := s1.toks + ([] : List (Str × Value)).length } :=
        lam_start2 I1 L I2.env0 hrz.hd un hns kp
      refine PySem.W.kla_codeExpr (wpAny_mono ((hbody _ _ s1 HZ (WE W' σZ) f c' ⟨L2.takes_of rfl rfl rfl rfl, hrz.deeper _, b.hg⟩).run [] _ _ HZ QZ J ⟨capSd n is ds, TZ, QDZ, EDZ, ⟨cap_St (by rw [← hn]; exact I1.len) hcv rdz, LZ.ok, LZ.q, LZ.x⟩, hbz⟩) (fun v s'' hq => ?_) fun e s'' hq => hq)
      obtain ⟨w', H', J', rv, qq⟩ := hq
      exact ⟨w', H', J'.os, J'.bare, J'.base, J'.hok, rv, qq⟩
    refine wpAny_call (codeAny_mono rc2 fun r s'' hq => ?_)
    cases r with
    | error e => exact passAt tkZ σZ pinsZ HZ s1 e s'' I2 hq
    | ok fl =>
      cases fl with
      | ret u => exact I2.after hq
      | next => exact False.elim hq
      | brk => exact False.elim hq
      | cont => exact False.elim hq
  refine wpAny_call (codeAny_mono rc fun r s2 hq => ?_)
  cases r with
  | error e => exact passAt b.tk σ pins H1 s' e s2 I1 hq
  | ok fl =>
    cases fl with
    | ret u => exact I1.after hq
    | next => exact False.elim hq
    | brk => exact False.elim hq
    | cont => exact False.elim hq
end
end DL
namespace DL
open PySem PySem.Spec PyProof.Rows L2 VX

/-! ### == and != of slotted instances with an own __eq__ -/
section
variable {prog : Program} {w : World} {A : Around} {E : Value → Shared → Prop} {s : Shared} {K : PySem.W.Frag} {x y C f : Addr} {ox : Obj} {od : Option Obj}
theorem ne_own {Q : Value → Shared → Prop} (hu : A.units + 1 < cLine) (Xk : K.In s.heap) (I : PySem.W.InstAt s.heap x ox C od) (hb : PySem.W.Looks (model prog w) s.heap (typeOf (.ref y)) (.ref C)) (hn : PySem.W.findIn K (.ref C) "__ne__" = some (some (.builtin "object.__ne__")))
    (hm : PySem.W.mroIn K C (.type "object") = some true) (he : PySem.W.findIn K (.ref C) "__eq__" = some (some (.ref f))) (hf : PySem.W.isFn K (.ref f) = true)
    (h : wpAny (model prog w) A.in1 (call (.ref f) [.ref x, .ref y]) (fun v s' => ∃ b, v = .bool b ∧ Q (.bool (!b)) s') E s) : wpAny (model prog w) A (richCompare .NotEq (.ref x) (.ref y)) Q E s := by
  have body : wpAny (model prog w) A.in1 (Builtin.«object.__ne__» ⟨[.ref x, .ref y], []⟩) (fun fin s' => ∃ b, fin = .done (.ret (.bool (!b))) ∧ Q (.bool (!b)) s') E s := by
    unfold Builtin.«object.__ne__»
    refine wpAny_bind (m := slotArgs "__ne__" 1 _) (wpAny_pure ?_)
    refine wpAny_bind (m := cRoomFor _ _) (wpAny_cRoomFor (by show A.units + 1 < cLine; exact hu) ?_)
    refine wpAny_bind (m := callSpecialIfBound? (.ref x) (Str.ofString "__eq__") [.ref y]) (PySem.W.ifBound_K Xk I he hf (wpAny_mono h (fun r s' hr => ?_) fun _ _ e => e))
    obtain ⟨b, rfl, hq⟩ := hr
    exact wpAny_bind (wpAny_truthy_bool (wpAny_pure ⟨b, rfl, hq⟩))
  have one : wpAny (model prog w) A (tryCompare (.ref x) "__ne__" (.ref y)) (fun r s' => ∃ v, r = some v ∧ Q v s') E s := by
    unfold tryCompare
    refine wpAny_bind ?_
    simp only [callSpecialIfBound?, bindSpecialIfBound?]
    have fin : ∀ {P : Option Value → Shared → Prop}, (∀ b s', Q (.bool b) s' → P (some (.bool b)) s') → wpAny (model prog w) A (call (.builtin "object.__ne__") ([.ref x] ++ [.ref y]) >>= fun v => pure (some v)) P E s := fun {P} hP => by
      refine wpAny_bind (wpAny_call (codeAny_call_builtin F.slot_object_ne.plain F.cmpEntry_ne (PySem.W.check_slot F.cmpKind_ne F.cmpSplit_ne (I.type.andThen (PySem.W.looks_mroIn Xk hm)) (F.cmpArgs_ne _ _) (wpAny_mono body (fun fin s' hf => ?_) fun _ _ e => e))))
      obtain ⟨b, rfl, hq⟩ := hf
      exact wpAny_pure (hP _ _ hq)
    refine wpAny_holding (wpAny_bind (wpAny_bind (wpAny_bind (I.type.here ((PySem.W.looks_findIn Xk hn).here ?_)))))
    refine wpAny_bind (wpAny_askSetting (wpAny_ite ?_))
    split
    · exact wpAny_bind (wpAny_of_eq (F.slot_object_ne.bind _) (wpAny_pure (by exact fin fun b s' q => wpAny_pure ⟨_, rfl, q⟩)))
    · exact wpAny_tryCatch (wpAny_bind (wpAny_of_eq (F.slot_object_ne.bind _) (wpAny_pure (by exact fin fun b s' q => wpAny_pure ⟨_, rfl, q⟩))))
  unfold richCompare
  simp only [oneThing_ref]
  refine wpAny_holding (wpAny_bind (wpAny_cRoomFor (by omega) ?_))
  rw [cmpInfo_NotEq]
  dsimp only
  refine wpAny_bind (I.type.here (wpAny_bind (hb.here ?_)))
  rw [show (Value.ref C != Value.ref C) = false from by simp]
  simp only [Bool.false_eq_true, if_false]
  refine wpAny_bind (wpAny_pure ?_)
  simp only [Bool.false_eq_true, if_false]
  refine wpAny_bind (wpAny_mono one (fun r s' z => ?_) fun _ _ e => e)
  obtain ⟨v, rfl, hq⟩ := z
  exact wpAny_pure hq
end
section
variable {X : Cx} {W : WX} {C f : Addr} {k : Nat} {sp : SpD}
/-- both instances of C -/
def rEqO (C : Addr) (sp : SpD) (g : Bool → Bool) : R2D := fun x y T Q E => (slotsD C T x).isSome = true ∧ (slotsD C T y).isSome = true ∧ sp [x, y] T (fun r T1 => match r with
  | .bl b => Q (.bl (g b)) T1
  | _ => False) E
theorem slo_inst {pins : List (Addr × Obj)} {σ : L2.St} {H : Hp} {s : Shared} {T : Td} {x : D} {vx : V} (I : Inv X pins σ H s) (o : DOk X.K H T) (r : RD X.K H T x vx) (h : (slotsD C T x).isSome = true) : ∃ a ox od, vx = .ref a ∧ PySem.W.InstAt s.heap a ox C (some od) := by
  cases e : slotsD C T x with
  | none => rw [e] at h; cases h
  | some ds =>
    obtain ⟨a, dx, vs, rfl, hs, _⟩ := slotsD_V o r e
    obtain ⟨sl, od, _, J, _⟩ := SlX.slt_inst I hs
    exact ⟨a, _, od, rfl, J⟩
theorem eq_run (b : Bd (k + 1) X W) (F : GR X.prog X.w X.K X.mg X.base f k sp) {g : Bool → Bool} {A : Around} (hA : A = X.A ∨ A = X.A.in1) {pins : List (Addr × Obj)} {σ : L2.St} {H : Hp} {s : Shared} {Q : VK} {sd : SD} {T : Td} {QD : KD} {ED : XD} {x y : D} {a c : Addr} (I : Inv X pins σ H s) (L : LE X.K W σ H Q sd T QD ED) (r1 : RD X.K H T x (.ref a)) (r2 : RD X.K H T y (.ref c))
    (q : sp [x, y] T (fun r T1 => match r with
      | .bl b => QD (.bl (g b)) T1
      | _ => False) ED) : wpAny (model X.prog X.w) A (call (.ref f) [.ref a, .ref c]) (fun v s' => ∃ b, v = .bool b ∧ EP X pins σ Q (.bool (g b)) s') X.xe s := by
  have hr : Room k A := by
    rcases hA with rfl | rfl
    · exact b.hr.mono (Nat.le_succ _)
    · exact b.hr.in1
  have hg : A.guards = some [] := by
    rcases hA with rfl | rfl
    · exact b.hg
    · exact b.hg
  have e0 : Env0 X.prog X.w X.K X.mg X.base A X.stack s H := by
    rcases hA with rfl | rfl
    · exact I.env0
    · exact I.env0.in1
  have L2 : LE X.K W σ H (fun v H' => ∃ b, v = .bl b ∧ Q (.bl (g b)) H') sd T (fun r T1 => match r with
      | .bl b => QD (.bl (g b)) T1
      | _ => False) ED := ⟨L.st, L.ok, fun r T' v H' hr rd o' f' => by
    cases r <;> try exact hr.elim
    rename_i b
    have rd' : v = .bl b := rd
    exact ⟨b, rd', L.q _ _ _ _ hr rfl o' f'⟩, L.x⟩
  refine wpAny_call (codeAny_mono (run_at (us := [.ref a, .ref c]) b.tk F hr hg e0 I L2 (RDs.cons r1 (RDs.cons r2 RDs.nil)) (.cons rfl (.cons rfl .nil)) q) fun r s' h => ?_)
  cases r with
  | error e => exact h
  | ok fl =>
    cases fl with
    | ret u =>
      obtain ⟨v, H', I', rv, bb, ev, hq⟩ := h
      subst ev
      obtain rfl : u = Value.bool bb := rv
      exact ⟨bb, rfl, .bl (g bb), H', I', rfl, hq⟩
    | next => exact False.elim h
    | brk => exact False.elim h
    | cont => exact False.elim h
theorem od_eqO (b : Bd (k + 1) X W) (F : GR X.prog X.w X.K X.mg X.base f k sp) (he : PySem.W.findIn X.K (.ref C) "__eq__" = some (some (.ref f))) (hf : PySem.W.isFn X.K (.ref f) = true) : OpD X W (compareOp .Eq) (rEqO C sp id) := by
  intro pins s σ H Q sd T QD ED x y vx vy v u I L r1 k1 r2 k2 ⟨hx, hy, q⟩
  obtain ⟨a, ox, od, rfl, J⟩ := slo_inst I L.ok r1 hx
  obtain ⟨c, oy, od', rfl, J'⟩ := slo_inst I L.ok r2 hy
  cases (show v = Value.ref a from k1)
  cases (show u = Value.ref c from k2)
  obtain ⟨m, hF⟩ := I.fr
  show wpAny _ _ (richCompare .Eq (.ref a) (.ref c)) _ _ _
  refine PySem.W.cmp_K (op := .Eq) (tb := .ref C) b.hr.units0 hF I.ok.mod.kin J J'.type (by unfold PySem.W.notFirst; simp) he hf ?_
  refine wpAny_mono (eq_run (g := id) b F (.inl rfl) I L r1 r2 q) (fun w s' z => ?_) fun _ _ e => e
  obtain ⟨bb, rfl, hq⟩ := z
  exact hq
theorem od_neO (b : Bd (k + 1) X W) (F : GR X.prog X.w X.K X.mg X.base f k sp) (he : PySem.W.findIn X.K (.ref C) "__eq__" = some (some (.ref f))) (hf : PySem.W.isFn X.K (.ref f) = true) (hn : PySem.W.findIn X.K (.ref C) "__ne__" = some (some (.builtin "object.__ne__"))) (hm : PySem.W.mroIn X.K C (.type "object") = some true) :
    OpD X W (compareOp .NotEq) (rEqO C sp (!·)) := by
  intro pins s σ H Q sd T QD ED x y vx vy v u I L r1 k1 r2 k2 ⟨hx, hy, q⟩
  obtain ⟨a, ox, od, rfl, J⟩ := slo_inst I L.ok r1 hx
  obtain ⟨c, oy, od', rfl, J'⟩ := slo_inst I L.ok r2 hy
  cases (show v = Value.ref a from k1)
  cases (show u = Value.ref c from k2)
  show wpAny _ _ (richCompare .NotEq (.ref a) (.ref c)) _ _ _
  exact ne_own (by have := b.hr.un; omega) I.kIn J J'.type hn hm he hf (eq_run b F (.inr rfl) I L r1 r2 q)
end

/-! ### a < b < c -/
section
variable {X : Cx} {W : WX} {a b c : Expr} {ta tb tc : TDE} {pos : Pos} {r r' : R2D}
theorem de_chain {op op' : CmpOp} (ho : OpD X W (compareOp op) r) (ho' : OpD X W (compareOp op') r') (ha : DE X W a ta) (hb : DE X W b tb) (hc : DE X W c tc) (hm : lastMarks [op, op'] [b, c] = false := by with_unfolding_all rfl) :
    DE X W (.Compare a [op, op'] [b, c] pos) (dChain r r' ta tb tc) :=
  DE.mk fun pins s σ H Q sd T QD ED I L h => by
    refine Compare_chain (thn (ha.one I L.st L.ok L.x h) fun v s1 ⟨x, vx, H1, T1, B⟩ => chain_link (thn (hb.one B.I (L.st.mono B.fr) B.ok (EXok.go L.x B.fr) B.k) fun u s2 ⟨y, vy, H2, T2, C⟩ => ?_)) hm
    have L2 := L.go C.ok (B.fr.trans C.fr)
    refine thn (ho pins s2 σ H2 (fun vz H3 => ∃ z T3, RD X.K H3 T3 z vz ∧ DOk X.K H3 T3 ∧ Fr H2 T2 H3 T3 ∧ (match z with
      | .bl true => tc sd T3 (fun w T4 => O2 r' y w T4 QD ED) ED
      | .bl false => QD (.bl false) T3
      | _ => False)) sd T2 (fun z T3 => match z with
      | .bl true => tc sd T3 (fun w T4 => O2 r' y w T4 QD ED) ED
      | .bl false => QD (.bl false) T3
      | _ => False) ED x y vx vy v u C.I ⟨L2.st, L2.ok, fun z T3 vz H3 k r o f => ⟨z, T3, r, o, f, k⟩, L2.x⟩ (RD.mono C.fr x B.rd) B.rv C.rd C.rv C.k.h) fun d s3 ⟨vz, H3, I3, r3, z, T3, rz, oz, fz, kz⟩ => ?_
    cases z <;> try exact kz.elim
    rename_i b
    have rz' : vz = .bl b := rz
    subst rz'
    obtain rfl : d = Value.bool b := r3
    refine wpAny_truthy_bool ?_
    have L3 := L2.go oz fz
    cases b with
    | false => exact ite_ff (L3.here (x := .bl false) (vx := .bl false) I3 rfl rfl kz)
    | true =>
      refine ite_tt (chain_last (thn (hc.one I3 L3.st L3.ok L3.x kz) fun w' s4 ⟨w, vw, H4, T4, D⟩ => ?_))
      exact ho' pins s4 σ H4 Q sd T4 QD ED y w vy vw u w' D.I (L3.go D.ok D.fr) (RD.mono (fz.trans D.fr) y C.rd) C.rv D.rd D.rv D.k.h
end

/-! ### all, any of a list of bools -/
def blsD : List D → Option (List Bool)
  | [] => some []
  | .bl b :: xs => (blsD xs).map (b :: ·)
  | _ => none
def isTupD : D → Bool
  | .tup _ => true
  | _ => false
def rAllD (f : List Bool → Bool) : RAD := fun xs T Q _ => match xs with
  | [x] => match itemsD T x with
    | some ds => isTupD x = false ∧ match blsD ds with
      | some bs => Q (.bl (f bs)) T
      | none => False
    | none => False
  | _ => False
theorem bls_V {K : PySem.W.Frag} {H : Hp} {T : Td} : ∀ {ds : List D} {bs : List Bool} {vs : List V}, blsD ds = some bs → RDs K H T ds vs → vs = bs.map V.bl
  | [], _, _, e, r => by
    cases e
    exact r
  | d :: ds, _, _, e, r => by
    cases d <;> simp only [blsD] at e <;> try (cases e; done)
    rename_i b
    cases q : blsD ds with
    | none => rw [q] at e; cases e
    | some bs =>
      rw [q] at e
      cases e
      obtain ⟨v, ws, rfl, h1, h2⟩ := r
      have h1' : v = .bl b := h1
      rw [h1', bls_V q h2]
      rfl
section
variable {X : Cx} {W : WX}
theorem items_SqL {H : Hp} {T : Td} {x : D} {vx : V} {ds : List D} (o : DOk X.K H T) (r : RD X.K H T x vx) (e : itemsD T x = some ds) (n : isTupD x = false) : ∃ a vs, vx = .ref a ∧ SqL X.K H a vs ∧ RDs X.K H T ds vs := by
  cases x <;> simp only [itemsD] at e <;> try (cases e; done)
  · rename_i a
    split at e
    · rename_i xs ht
      cases e
      obtain ⟨vs, h, rs⟩ := o a _ ht
      exact ⟨a, vs, r, SqL.of h, rs⟩
    · cases e
  · cases n
  · cases e
    obtain ⟨a, vs, e, t, rs⟩ := r
    exact ⟨a, vs, e, t.sq, rs⟩
theorem cd_all (hc : X.calm = true) : CallD X W (.builtin "all") (rAllD (·.all id)) := CallD.of (cr_all hc) fun σ H Q sd T QD ED xs vs L rs h => by
  match xs, h, rs with
  | [x], h, rs =>
  simp only [rAllD] at h
  split at h
  · rename_i ds e
    obtain ⟨hn, h⟩ := h
    split at h
    · rename_i bs eb
      obtain ⟨v, rfl, r⟩ := rds1 rs
      obtain ⟨a, ws, rfl, hs, rws⟩ := items_SqL L.ok r e hn
      exact ⟨a, bs, rfl, by rw [← bls_V eb rws]; exact hs, L.q _ T _ H h rfl L.ok Fr.refl⟩
    · exact h.elim
  · exact h.elim
theorem cd_any (hc : X.calm = true) : CallD X W (.builtin "any") (rAllD (·.any id)) := CallD.of (cr_any hc) fun σ H Q sd T QD ED xs vs L rs h => by
  match xs, h, rs with
  | [x], h, rs =>
  simp only [rAllD] at h
  split at h
  · rename_i ds e
    obtain ⟨hn, h⟩ := h
    split at h
    · rename_i bs eb
      obtain ⟨v, rfl, r⟩ := rds1 rs
      obtain ⟨a, ws, rfl, hs, rws⟩ := items_SqL L.ok r e hn
      exact ⟨a, bs, rfl, by rw [← bls_V eb rws]; exact hs, L.q _ T _ H h rfl L.ok Fr.refl⟩
    · exact h.elim
  · exact h.elim
end
end DL
namespace DL
open PySem PySem.Spec PyProof.Rows L2 VX
/-! ### f-strings, str -/
section
variable {X : Cx} {W : WX} {e : Expr} {te : TDE} {pos : Pos}
def dFmt (te : TDE) : TDE := fun sd T Q E => te sd T (fun x T1 => match x with
  | .str y => y.length ≤ sizeLine ∧ Q (.str y) T1
  | .int i => i.natAbs.log2 < 1920 ∧ Q (.str (toString i)) T1
  | _ => False) E
theorem de_fmt (he : DE X W e te) : DE X W (.FormattedValue e (-1) none pos) (dFmt te) :=
  PE.imp (pe_fmt he) fun σ H Q ⟨sd, T, QD, ED, L, q⟩ => ⟨sd, T, _, ED, ⟨L.st, L.ok, fun x T1 v H1 k r o f => by
    cases x <;> try exact k.elim
    · have r' : v = _ := r
      subst r'
      exact .inr ⟨_, rfl, k.1, L.q _ T1 _ H1 k.2 rfl o f⟩
    · have r' : v = _ := r
      subst r'
      exact .inl ⟨_, rfl, k.1, L.q _ T1 _ H1 k.2 rfl o f⟩, L.x⟩, q⟩
/-- the parts -/
inductive DJ (X : Cx) (W : WX) : List Expr → List TDE → Prop where
  | nil : DJ X W [] []
  | cons {e : Expr} {t : TDE} {es : List Expr} {ts : List TDE} (h : DE X W e t) (r : DJ X W es ts) : DJ X W (e :: es) (t :: ts)
theorem DJ.pj {es : List Expr} {ts : List TDE} (h : DJ X W es ts) : PJ X es (ts.map (liftE X.K W)) := by
  induction h with
  | nil => exact .nil
  | cons h r ih => exact .cons h ih
def dJs (sd : SD) : List TDE → Str → Td → (Str → Td → Prop) → XD → Prop
  | [], acc, T, Q, _ => Q acc T
  | t :: ts, acc, T, Q, E => t sd T (fun x T1 => match x with
    | .str y => (acc ++ y).length ≤ sizeLine ∧ dJs sd ts (acc ++ y) T1 Q E
    | _ => False) E
def dJoin (ts : List TDE) : TDE := fun sd T Q E => dJs sd ts Str.empty T (fun out T1 => Q (.str out) T1) E
theorem tjs_of {σ : L2.St} : ∀ (ts : List TDE) (acc : Str) (H : Hp) (sd : SD) (T : Td) (Q : Str → Hp → Prop) (QD : Str → Td → Prop) (ED : XD), StOk X.K H T sd σ → DOk X.K H T → (∀ out T' H', QD out T' → DOk X.K H' T' → Fr H T H' T' → Q out H') → (∀ ex T' c da H', ED ex T' → XR X.K H' T' ex c da → DOk X.K H' T' → Fr H T H' T' → W c da σ H') → dJs sd ts acc T QD ED →
    tJs (ts.map (liftE X.K W)) acc σ H Q
  | [], acc, H, sd, T, Q, QD, ED, st, o, hq, hx, h => hq acc T H h o Fr.refl
  | t :: ts, acc, H, sd, T, Q, QD, ED, st, o, hq, hx, h => ⟨sd, T, _, ED, ⟨st, o, fun x T1 v H1 k r o1 f1 => by
      cases x <;> try exact k.elim
      rename_i y
      have r' : v = .str y := r
      exact ⟨y, r', k.1, tjs_of ts (acc ++ y) H1 sd T1 Q QD ED (st.mono f1) o1 (fun out T' H' a b c => hq out T' H' a b (f1.trans c)) (fun ex T' c da H' a b o f => hx ex T' c da H' a b o (f1.trans f)) k.2⟩, hx⟩, h⟩
theorem de_joined {v1 v2 : Expr} {rest : List Expr} {ts : List TDE} (h : DJ X W (v1 :: v2 :: rest) ts) : DE X W (.JoinedStr (v1 :: v2 :: rest) pos) (dJoin ts) :=
  PE.imp (pe_joined h.pj) fun σ H Q ⟨sd, T, QD, ED, L, q⟩ => tjs_of ts Str.empty H sd T _ _ ED L.st L.ok (fun out T' H' a b c => L.q (.str out) T' (.str out) H' a rfl b c) L.x q
def rStr : RAD := fun xs T Q _ => match xs with
  | [.int i] => i.natAbs.log2 < 1920 ∧ Q (.str (toString i)) T
  | [.str y] => Q (.str y) T
  | _ => False
theorem cd_str : CallD X W (.type "str") rStr := by
  refine fun pins s σ H Q sd T QD ED xs vs us I L rs rv q => ?_
  unfold rStr at q
  split at q
  · rename_i i
    obtain ⟨v, rfl, r⟩ := rds1 rs
    have r' : v = .int i := r
    exact call_str_int pins s σ H _ us Q I rv ⟨i, by rw [r'], q.1, L.q _ T _ H q.2 rfl L.ok Fr.refl⟩
  · rename_i y
    obtain ⟨v, rfl, r⟩ := rds1 rs
    have r' : v = .str y := r
    exact SkE.call_str_str pins s σ H _ us Q I rv ⟨y, by rw [r'], L.q _ T _ H q rfl L.ok Fr.refl⟩
  · exact q.elim
/-- a < b < c, as a test -/
theorem dt_chain {a b c : Expr} {ta tb tc : TDE} {r r' : R2D} {op op' : CmpOp} (ho : OpD X W (compareOp op) r) (ho' : OpD X W (compareOp op') r') (ha : DE X W a ta) (hb : DE X W b tb) (hc : DE X W c tc) (hm : lastMarks [op, op'] [b, c] = false := by with_unfolding_all rfl) :
    DT X W (.Compare a [op, op'] [b, c] pos) (dTst (dChain r r' ta tb tc)) :=
  DT.mk fun pins s σ H Q sd T QD ED I L h => by
    have fin : ∀ (x : D) (v : Value) (vx : V) H1 T1 s1, Inv X pins σ H1 s1 → RD X.K H1 T1 x vx → L2.RelV vx v → DOk X.K H1 T1 → Fr H T H1 T1 → (match x with | .bl b => QD b T1 | _ => False) → wpAny (model X.prog X.w) X.A (truthy v) (TP X pins σ Q) X.xe s1 := by
      intro x v vx H1 T1 s1 I1 rd rv ok fr k
      cases x <;> try exact k.elim
      rename_i b
      have rd' : vx = .bl b := rd
      subst rd'
      obtain rfl : v = Value.bool b := rv
      exact wpAny_truthy_bool (L.tp I1 ok fr k)
    refine isTrue_chain (thn (ha.one I L.st L.ok L.x h) fun v s1 ⟨x, vx, H1, T1, B⟩ => test_link (thn (hb.one B.I (L.st.mono B.fr) B.ok (EXok.go L.x B.fr) B.k) fun u s2 ⟨y, vy, H2, T2, C⟩ => ?_)) hm
    have F2 := B.fr.trans C.fr
    refine thn (ho pins s2 σ H2 (fun vz H3 => ∃ z T3, RD X.K H3 T3 z vz ∧ DOk X.K H3 T3 ∧ Fr H2 T2 H3 T3 ∧ (match z with
      | .bl true => tc sd T3 (fun w T4 => O2 r' y w T4 (fun x T5 => match x with | .bl b => QD b T5 | _ => False) ED) ED
      | .bl false => QD false T3
      | _ => False)) sd T2 (fun z T3 => match z with
      | .bl true => tc sd T3 (fun w T4 => O2 r' y w T4 (fun x T5 => match x with | .bl b => QD b T5 | _ => False) ED) ED
      | .bl false => QD false T3
      | _ => False) ED x y vx vy v u C.I ⟨L.st.mono F2, C.ok, fun z T3 vz H3 k r o f => ⟨z, T3, r, o, f, k⟩, EXok.go L.x F2⟩ (RD.mono C.fr x B.rd) B.rv C.rd C.rv C.k.h) fun d s3 ⟨vz, H3, I3, r3, z, T3, rz, oz, fz, kz⟩ => ?_
    cases z <;> try exact kz.elim
    rename_i b
    have rz' : vz = .bl b := rz
    subst rz'
    obtain rfl : d = Value.bool b := r3
    refine wpAny_truthy_bool ?_
    have F3 := F2.trans fz
    cases b with
    | false => exact ite_ff (L.tp I3 oz F3 kz)
    | true =>
      refine ite_tt (test_last (thn (hc.one I3 (L.st.mono F3) oz (EXok.go L.x F3) kz) fun w' s4 ⟨w, vw, H4, T4, D⟩ => ?_))
      refine thn (ho' pins s4 σ H4 (fun vz H5 => ∃ z T5, RD X.K H5 T5 z vz ∧ DOk X.K H5 T5 ∧ Fr H4 T4 H5 T5 ∧ (match z with | .bl b => QD b T5 | _ => False)) sd T4 (fun x T5 => match x with | .bl b => QD b T5 | _ => False) ED y w vy vw u w' D.I ⟨L.st.mono (F3.trans D.fr), D.ok, fun z T5 vz H5 k r o f => ⟨z, T5, r, o, f, k⟩, EXok.go L.x (F3.trans D.fr)⟩ (RD.mono (fz.trans D.fr) y C.rd) C.rv D.rd D.rv D.k.h) fun d2 s5 ⟨vz, H5, I5, r5, z, T5, rz5, oz5, fz5, kz5⟩ => ?_
      exact fin z d2 vz H5 T5 s5 I5 rz5 r5 oz5 ((F3.trans D.fr).trans fz5) kz5
end
end DL
namespace DL
open PySem PySem.Spec PyProof.Rows L2 VX
/-! ### short words for printed walks -/
section
variable {X : Cx} {W : WX}
theorem dv (i : Nat) {x : Str} {pos : Pos} (hN : X.N[i]? = some x := by rfl) (hv : Vis X.env.scope x := by first | exact Or.inl rfl | exact Or.inr (Or.inl rfl) | exact Or.inr (Or.inr rfl)) (hd : (x == ("__debug__" : Str)) = false := by decide)
    (hcd : (x == ("__classdict__" : Str)) = false := by decide) : DE X W (.Name x pos) (dVar i) := de_var hN hv hd hcd
theorem Bd.blk {k : Nat} (b : Bd k X W) (s : Shared) (H : Hp) (scope : Scope) (cenv : Env) (fp : List Addr) : Bd k (X.blk s H scope cenv fp) WN := ⟨LamX.takes0, b.hr, b.hg⟩
theorem Bd.tr {k : Nat} (b : Bd k X W) {W' : WX} {pn : List (Addr × Obj)} {xe : Value → Shared → Prop} (tk : L2.Takes (X.tr pn xe) W') : Bd k (X.tr pn xe) W' := ⟨tk, b.hr, b.hg⟩
end
section
variable {P : Program} {w : World} {K : PySem.W.Frag} {mg : Str → Option Value} {base : Heap} {k : Nat} {f : Addr} {name qual : Str} {params : Arguments} {body : List Stmt} {scope : Scope} {dV kV doc pm cdv ct oc : Value} {an od : Option Addr} {osl : Array (Option Value)} {N ps : List Str} {d : TDS} {sp : SpD}
/-- a def's promise; dds: its defaults -/
theorem fn_okR {dds : List D} {ds0 : List Value} {ws : List V} (lk : K.lookup f = some ⟨oc, od, .func (PySem.W.fnOf name qual params body scope dV kV doc pm an cdv ct), osl⟩) (hcd : PySem.W.codeIn K cdv qual = true) (S : FnScope N ps scope)
    (hbi : Binds K (PySem.W.fnOf name qual params body scope dV kV doc pm an cdv ct) ps ds0) (hv : Vals ws ds0) (hd : ∀ H T, RDs K H T dds ws) (len : ∀ ds T Q E, sp ds T Q E → (ds ++ dds).length = ps.length)
    (hb : ∀ (A : Around) (outer : List Env) (s : Shared) (H : Hp) (E : XK), Bd k (cxOf (L2.CX P w) P w K mg base N qual scope f cdv A outer s H E) (WE0 E) → DSs (cxOf (L2.CX P w) P w K mg base N qual scope f cdv A outer s H E) (WE0 E) body d)
    (hp : ∀ ds T Q E, sp ds T Q E → d (endsD Q E) (startD N (ds ++ dds)) T) : GR P w K mg base f (k + 1) sp := by
  intro A outer s H us vs Q E hr hgd e0 r ⟨ds, T, QD, ED, rd, o, q, hq, hx⟩
  have KX : K.In s.heap := e0.mod.kin.keeps fun b o e => (e0.bs b o e).1
  have rd2 : RDs K H T (ds ++ dds) (vs ++ ws) := rd.append (hd H T)
  have r2 : Vals (vs ++ ws) (us ++ ds0) := r.append hv
  have hl : (vs ++ ws).length = ps.length := by rw [← rd2.length]; exact len ds T QD ED q
  exact run_def lk hcd S hr hgd e0 (hbi s us KX (by rw [← r2.length]; exact hl)) r2 rd2 o hl hq hx (hb A outer s H E) (hp ds T QD ED q)
/-- without defaults -/
theorem fn_ok0 (lk : K.lookup f = some ⟨oc, od, .func (PySem.W.fnOf name qual params body scope dV kV doc pm an cdv ct), osl⟩) (hcd : PySem.W.codeIn K cdv qual = true) (S : FnScope N ps scope)
    (hbi : Binds K (PySem.W.fnOf name qual params body scope dV kV doc pm an cdv ct) ps []) (len : ∀ ds T Q E, sp ds T Q E → ds.length = ps.length)
    (hb : ∀ (A : Around) (outer : List Env) (s : Shared) (H : Hp) (E : XK), Bd k (cxOf (L2.CX P w) P w K mg base N qual scope f cdv A outer s H E) (WE0 E) → DSs (cxOf (L2.CX P w) P w K mg base N qual scope f cdv A outer s H E) (WE0 E) body d)
    (hp : ∀ ds T Q E, sp ds T Q E → d (endsD Q E) (startD N ds) T) : GR P w K mg base f (k + 1) sp :=
  fn_okR (dds := []) (ws := []) lk hcd S hbi .nil (fun _ _ => rfl) (fun ds T Q E q => by rw [List.append_nil]; exact len ds T Q E q) hb (fun ds T Q E q => by rw [List.append_nil]; exact hp ds T Q E q)
/-- .. that is called whatever is shown at the time -/
theorem fn_ok1 (lk : K.lookup f = some ⟨oc, od, .func (PySem.W.fnOf name qual params body scope dV kV doc pm an cdv ct), osl⟩) (hcd : PySem.W.codeIn K cdv qual = true) (S : FnScope N ps scope)
    (hbi : Binds K (PySem.W.fnOf name qual params body scope dV kV doc pm an cdv ct) ps []) (len : ∀ ds T Q E, sp ds T Q E → ds.length = ps.length)
    (hb : ∀ (A : Around) (outer : List Env) (s : Shared) (H : Hp) (E : XK), DSs (cxOf (L2.CX P w) P w K mg base N qual scope f cdv A outer s H E) (WE0 E) body d)
    (hp : ∀ ds T Q E, sp ds T Q E → d (endsD Q E) (startD N ds) T) : FnR P w K mg base (L2.CX P w) (k + 1) f (liftSp K sp) := by
  have F : FnOk P w K mg base (L2.CX P w) (k + 1) f (PySem.W.fnOf name qual params body scope dV kV doc pm an cdv ct) ps (liftSp K sp) := by
    refine fn_of lk hcd S (fun vs H Q E ⟨ds, T, QD, ED, r, o, q, _⟩ => by rw [← r.length]; exact len ds T QD ED q) ?_
    rintro A outer s H vs Q E hr ⟨ds, T, QD, ED, r, o, q, hq, hx⟩
    exact ⟨_, hb A outer s H E, startD N ds, T, endsD QD ED, startD_ok r, o, ⟨fun sd' T' σ' H' n st o f => hq .non T' .non H' n rfl o f, fun x T' v H' n r o f => hq x T' v H' n r o f, fun sd' T' σ' H' n => n.elim, fun sd' T' σ' H' n => n.elim, fun ex sd' T' c da σ' H' n xr st o f => hx ex T' c da H' n xr o f⟩, hp ds T QD ED q⟩
  refine (F.raw hbi .nil).imp fun vs H Q E q => ?_
  rw [List.append_nil]
  exact q
theorem GF.of {x : Str} (hm : mg x = some (.ref f)) (hk : PySem.W.keepIn K (.ref f) = true) (F : GR P w K mg base f k sp) : GF P w K mg base x k sp := ⟨f, hm, hk, F⟩
end
end DL
namespace DL
open PySem PySem.Spec PyProof.Rows L2 VX

/-! ### what an int says of an own instance -/
section
open SeqAt MeetsSeq AutoSeq1
variable (b : Int) (u : Tok) (l C dx : Addr) (sl : Array (Option Value))
abbrev SIn (l C dx : Addr) (sl : Array (Option Value)) : PySem.Spec := fun _ R s => s.heap.get? l = some { PySem.W.instObj C dx with slots := sl } ∧ R (.ok (.ret .notImplemented)) s
theorem dec_lt : Meets (Builtin.«int.__lt__» ⟨[.int b u, .ref l], []⟩) (SIn l C dx sl) := .of_wp fun prog w A R s h => by obtain ⟨hp, g, d, tk, os⟩ := s; obtain ⟨hl, h⟩ := h; wp_walk using AutoSeq1.wpAny_loadPart' hl, wpAny_load hl; exact ⟨_, rfl, h⟩
theorem dec_le : Meets (Builtin.«int.__le__» ⟨[.int b u, .ref l], []⟩) (SIn l C dx sl) := .of_wp fun prog w A R s h => by obtain ⟨hp, g, d, tk, os⟩ := s; obtain ⟨hl, h⟩ := h; wp_walk using AutoSeq1.wpAny_loadPart' hl, wpAny_load hl; exact ⟨_, rfl, h⟩
theorem dec_gt : Meets (Builtin.«int.__gt__» ⟨[.int b u, .ref l], []⟩) (SIn l C dx sl) := .of_wp fun prog w A R s h => by obtain ⟨hp, g, d, tk, os⟩ := s; obtain ⟨hl, h⟩ := h; wp_walk using AutoSeq1.wpAny_loadPart' hl, wpAny_load hl; exact ⟨_, rfl, h⟩
theorem dec_ge : Meets (Builtin.«int.__ge__» ⟨[.int b u, .ref l], []⟩) (SIn l C dx sl) := .of_wp fun prog w A R s h => by obtain ⟨hp, g, d, tk, os⟩ := s; obtain ⟨hl, h⟩ := h; wp_walk using AutoSeq1.wpAny_loadPart' hl, wpAny_load hl; exact ⟨_, rfl, h⟩
theorem dec_eq : Meets (Builtin.«int.__eq__» ⟨[.int b u, .ref l], []⟩) (SIn l C dx sl) := .of_wp fun prog w A R s h => by obtain ⟨hp, g, d, tk, os⟩ := s; obtain ⟨hl, h⟩ := h; wp_walk using AutoSeq1.wpAny_loadPart' hl, wpAny_load hl; exact ⟨_, rfl, h⟩
theorem dec_add : Meets (Builtin.«int.__add__» ⟨[.int b u, .ref l], []⟩) (SIn l C dx sl) := .of_wp fun prog w A R s h => by obtain ⟨hp, g, d, tk, os⟩ := s; obtain ⟨hl, h⟩ := h; wp_walk using AutoSeq1.wpAny_loadPart' hl, wpAny_load hl; exact ⟨_, rfl, h⟩
theorem dec_sub : Meets (Builtin.«int.__sub__» ⟨[.int b u, .ref l], []⟩) (SIn l C dx sl) := .of_wp fun prog w A R s h => by obtain ⟨hp, g, d, tk, os⟩ := s; obtain ⟨hl, h⟩ := h; wp_walk using AutoSeq1.wpAny_loadPart' hl, wpAny_load hl; exact ⟨_, rfl, h⟩
theorem dec_mul : Meets (Builtin.«int.__mul__» ⟨[.int b u, .ref l], []⟩) (SIn l C dx sl) := .of_wp fun prog w A R s h => by obtain ⟨hp, g, d, tk, os⟩ := s; obtain ⟨hl, h⟩ := h; wp_walk using AutoSeq1.wpAny_loadPart' hl, wpAny_load hl; exact ⟨_, rfl, h⟩
theorem dec_fdv : Meets (Builtin.«int.__floordiv__» ⟨[.int b u, .ref l], []⟩) (SIn l C dx sl) := .of_wp fun prog w A R s h => by obtain ⟨hp, g, d, tk, os⟩ := s; obtain ⟨hl, h⟩ := h; wp_walk using AutoSeq1.wpAny_loadPart' hl, wpAny_load hl; exact ⟨_, rfl, h⟩
end

/-! ### a method of a class's instance, called by an operator -/
section
variable {X : Cx} {W : WX} {C f : Addr} {k : Nat} {sp : SpD}
theorem op_run (b : Bd (k + 1) X W) (F : GR X.prog X.w X.K X.mg X.base f k sp) {A : Around} (hA : A = X.A ∨ A = X.A.in1) {pins : List (Addr × Obj)} {σ : L2.St} {H : Hp} {s : Shared} {Q : VK} {sd : SD} {T : Td} {QD : KD} {ED : XD} {xs : List D} {vs : List V} {us : List Value} (I : Inv X pins σ H s) (L : LE X.K W σ H Q sd T QD ED) (rs : RDs X.K H T xs vs) (rv : Vals vs us)
    (q : sp xs T QD ED) : wpAny (model X.prog X.w) A (call (.ref f) us) (EP X pins σ Q) X.xe s := by
  have hr : Room k A := by
    rcases hA with rfl | rfl
    · exact b.hr.mono (Nat.le_succ _)
    · exact b.hr.in1
  have hg : A.guards = some [] := by
    rcases hA with rfl | rfl
    · exact b.hg
    · exact b.hg
  have e0 : Env0 X.prog X.w X.K X.mg X.base A X.stack s H := by
    rcases hA with rfl | rfl
    · exact I.env0
    · exact I.env0.in1
  refine wpAny_call (codeAny_mono (run_at (us := us) b.tk F hr hg e0 I L rs rv q) fun r s' h => ?_)
  cases r with
  | error e => exact h
  | ok fl =>
    cases fl with
    | ret u => exact h
    | next => exact False.elim h
    | brk => exact False.elim h
    | cont => exact False.elim h
theorem cmpBackV {pins : List (Addr × Obj)} {σ : L2.St} {Q : VK} {v : Value} {s' : Shared} (h : EP X pins σ Q v s') : PySem.W.CmpBack (EP X pins σ Q) v s' := by
  obtain ⟨vx, H, I, r, q⟩ := h
  unfold PySem.W.CmpBack
  cases v <;> first | exact ⟨vx, H, I, r, q⟩ | (exfalso; cases vx <;> simp [L2.RelV] at r)
def isI : D → Bool
  | .int _ => true
  | _ => false
/-- x op y: x an instance of C, y one or an int; or the other way round -/
def rOpO (C : Addr) (spL spR : SpD) : R2D := fun x y T Q E => match x with
  | .int _ => (slotsD C T y).isSome = true ∧ spR [y, x] T Q E
  | _ => (slotsD C T x).isSome = true ∧ ((slotsD C T y).isSome = true ∨ isI y = true) ∧ spL [x, y] T Q E
/-- what is asked of the class -/
structure OwnC (K : PySem.W.Frag) (C : Addr) : Prop where
  sf : PySem.W.selfFirst K C = true
  ni : PySem.W.subIn K (.ref C) (.type "int") = some false
/-- the method of C for nm, at fL; the one for r-nm, at fR -/
structure OpC (K : PySem.W.Frag) (C : Addr) (nm : String) (fL fR : Addr) : Prop where
  l : PySem.W.findIn K (.ref C) (PySem.dunder nm) = some (some (.ref fL))
  lf : PySem.W.isFn K (.ref fL) = true
  r : PySem.W.findIn K (.ref C) (dunderR nm) = some (some (.ref fR))
  rf : PySem.W.isFn K (.ref fR) = true
theorem fills_R {M : Model} {h : Heap} {K : PySem.W.Frag} {nm : String} {g : Addr} (O : OwnC K C) (X : K.In h) (hs : PySem.W.findIn K (.ref C) (PySem.dunder nm) = some (some (.ref g))) : PySem.W.Looks M h (fillsNumberSlot (.ref C) nm) true := by
  obtain ⟨cd, rest, hcd, hm⟩ := PySem.W.ksp_first O.sf
  exact PySem.W.fills_K X hcd hm hs
end

section
open PySem.W
variable {prog : Program} {w : World} {A : Around} {E : Value → Shared → Prop} {s : Shared} {K : Frag} {x C fL fR : Addr} {ox : Obj} {od : Option Obj}
theorem try_dec {M : Model} {name : Str} {idl : String} {i : Int} {t : Tok} {b : Value} {Q : Option Value → Shared → Prop} (hl : Slot "int" name idl)
    (hd : ∀ Q' : Value → Shared → Prop, Q' .notImplemented s → wpAny M A (call (.builtin idl) [.int i t, b]) Q' E s) (h : Q none s) : wpAny M A (tryMethod (.int i t) name b) Q E s := by
  unfold tryMethod
  exact wpAny_bind (wpAny_callSpecial?_slot (typeIs_int s i t) hl (hd _ (wpAny_pure h)))
theorem bin_refl {op : Operator} {idl : String} {i : Int} {t : Tok} {Q : Value → Shared → Prop} (X : K.In s.heap) (I : InstAt s.heap x ox C od) (O : OwnC K C) (P : OpC K C op.info.2 fL fR)
    (hfi : fillsNumberSlot (.type "int") op.info.2 = pure true) (hl : Slot "int" (PySem.dunder op.info.2) idl)
    (hd : ∀ Q' : Value → Shared → Prop, Q' .notImplemented s → wpAny (model prog w) A (call (.builtin idl) [.int i t, .ref x]) Q' E s)
    (h : wpAny (model prog w) A (call (.ref fR) [.ref x, .int i t]) (W.CmpBack Q) E s) : wpAny (model prog w) A (binaryOp op (.int i t) (.ref x)) Q E s := by
  have two := ksp_try X I P.r P.rf h
  have Pl := P.l
  rcases hi : op.info with ⟨sym, nm'⟩
  rw [hi] at hfi hl two Pl
  dsimp only at hfi hl two Pl
  have one : ∀ {Q : Option Value → Shared → Prop}, Q none s → wpAny (model prog w) A (tryMethod (.int i t) (PySem.dunder nm') (.ref x)) Q E s := fun {Q} q => try_dec hl hd q
  obtain ⟨hh, g, d, tt, os⟩ := s
  have L1 : Looks (model prog w) hh (typeOf (.int i t)) (.type "int") := Looks.of_pure rfl
  have L2 : Looks (model prog w) hh (typeOf (.ref x)) (.ref C) := I.type
  have L3 : Looks (model prog w) hh (fillsNumberSlot (.type "int") nm') true := Looks.of_pure hfi
  have L4 : Looks (model prog w) hh (fillsNumberSlot (.ref C) nm') true := fills_R O X Pl
  have L5 : Looks (model prog w) hh (isSubtype (.ref C) (.type "int")) false := looks_subIn X O.ni
  have L6 : Looks (model prog w) hh (numberSlotInPython (.type "int") nm') false := Looks.of_pure rfl
  have hne : (Value.type "int" == Value.ref C) = false := Bool.eq_false_iff.mpr fun q => by cases beq_iff_eq.mp q
  simp only [binaryOp, hi]
  refine wpAny_holding (wpAny_bind ?_)
  unfold binaryOp1
  refine wpAny_bind (L1.at (wpAny_bind (L2.at (wpAny_bind (L3.at ?_)))))
  simp only [hne, Bool.false_eq_true, if_false]
  ksp_lk
  refine one ?_
  ksp_lk
  refine wpAny_mono two (fun r s' hr' => ?_) fun _ _ e => e
  obtain ⟨v, rfl, hq⟩ := hr'
  ksp_lk
  exact hq
end

section
variable {X : Cx} {W : WX} {C fL fR : Addr} {k : Nat} {spL spR : SpD}
theorem sub_tC {K : PySem.W.Frag} : PySem.W.subIn K (.type "int") (.ref C) = some false := by
  show (fastBuiltinMro "int").map (·.contains (Value.ref C)) = some false
  have e : fastBuiltinMro "int" = some [.type "int", .type "object"] := by kernel_rfl
  rw [e]
  rfl
theorem od_opO {op : Operator} {idl : String} {B : Builtin} {fo ro : Option Value} (b : Bd (k + 1) X W) (O : OwnC X.K C) (P : OpC X.K C op.info.2 fL fR) (FL : GR X.prog X.w X.K X.mg X.base fL k spL) (FR : GR X.prog X.w X.K X.mg X.base fR k spR)
    (hfi : fillsNumberSlot (.type "int") op.info.2 = pure true) (hl : Slot "int" (PySem.dunder op.info.2) idl) (entry : entryFor table idl = some B) (args : ∀ a b : Value, argsOk idl ⟨[a, b], []⟩)
    (dec : ∀ (i : Int) (u : Tok) (l C dx : Addr) (sl : Array (Option Value)), Meets (B ⟨[.int i u, .ref l], []⟩) (SIn l C dx sl))
    (h1 : ∀ K : PySem.W.Frag, PySem.W.findIn K (.type "int") (PySem.dunder op.info.2) = some fo) (h2 : ∀ K : PySem.W.Frag, PySem.W.findIn K (.type "int") (dunderR op.info.2) = some ro) : OpD X W (binaryOp op) (rOpO C spL spR) := by
  intro pins s σ H Q sd T QD ED x y vx vy v u I L r1 k1 r2 k2 q0
  obtain ⟨m, hF⟩ := I.fr
  have left : (slotsD C T x).isSome = true ∧ ((slotsD C T y).isSome = true ∨ isI y = true) ∧ spL [x, y] T QD ED → wpAny (model X.prog X.w) X.A (binaryOp op v u) (EP X pins σ Q) X.xe s := by
    rintro ⟨hx, hy, q⟩
    obtain ⟨a, ox, od, rfl, J⟩ := slo_inst I L.ok r1 hx
    cases (show v = Value.ref a from k1)
    have run := wpAny_mono (op_run b FL (A := X.A) (.inl rfl) I L (RDs.cons r1 (RDs.cons r2 RDs.nil)) (.cons k1 (.cons k2 .nil)) q) (fun w s' z => cmpBackV z) fun _ _ e => e
    rcases hy with hy | hy
    · obtain ⟨c, oy, od', rfl, J'⟩ := slo_inst I L.ok r2 hy
      cases (show u = Value.ref c from k2)
      exact PySem.W.binop_K hF I.ok.mod.kin J J'.type O.sf P.l P.lf run
    · cases y <;> simp only [isI] at hy <;> try (cases hy; done)
      rename_i j
      have r2' : vy = .int j := r2
      subst r2'
      obtain ⟨t, rfl⟩ := (show ∃ t, u = Value.int j t from k2)
      exact PySem.W.ksp_binT hF I.ok.mod.kin J rfl O.sf P.l P.lf P.r (.inr ⟨_, rfl⟩) (h1 _) (h2 _) sub_tC run
  cases x <;> try exact left q0
  · rename_i j
    obtain ⟨hy, q⟩ := q0
    cases e : slotsD C T y with
    | none => rw [e] at hy; cases hy
    | some ds =>
      obtain ⟨c, dx, vs, rfl, hs, _⟩ := slotsD_V L.ok r2 e
      obtain ⟨sl, od', _, J', _⟩ := SlX.slt_inst I hs
      cases (show u = Value.ref c from k2)
      have r1' : vx = .int j := r1
      subst r1'
      obtain ⟨t, rfl⟩ := (show ∃ t, v = Value.int j t from k1)
      exact bin_refl I.kIn J' O P hfi hl (fun Q' hq => call_meets hl (typeIs_int s j t) entry (args _ _) (dec j t c C dx sl) ⟨J'.1, hq⟩)
        (wpAny_mono (op_run b FR (A := X.A) (.inl rfl) I L (RDs.cons r2 (RDs.cons r1 RDs.nil)) (.cons k2 (.cons k1 .nil)) q) (fun w s' z => cmpBackV z) fun _ _ e => e)
theorem od_addO (b : Bd (k + 1) X W) (O : OwnC X.K C) (P : OpC X.K C "add" fL fR) (FL : GR X.prog X.w X.K X.mg X.base fL k spL) (FR : GR X.prog X.w X.K X.mg X.base fR k spR) : OpD X W (binaryOp .Add) (rOpO C spL spR) :=
  od_opO (op := .Add) (fo := some (.builtin "int.__add__")) (ro := some (.builtin "int.__radd__")) b O P FL FR PySem.F.fills_int_add PySem.F.slot_int_add PySem.F.entry_int_add PySem.F.args_int_add_2 dec_add (fun _ => by kernel_rfl) (fun _ => by kernel_rfl)
theorem od_subO (b : Bd (k + 1) X W) (O : OwnC X.K C) (P : OpC X.K C "sub" fL fR) (FL : GR X.prog X.w X.K X.mg X.base fL k spL) (FR : GR X.prog X.w X.K X.mg X.base fR k spR) : OpD X W (binaryOp .Sub) (rOpO C spL spR) :=
  od_opO (op := .Sub) (fo := some (.builtin "int.__sub__")) (ro := some (.builtin "int.__rsub__")) b O P FL FR PySem.F.fills_int_sub PySem.F.slot_int_sub PySem.F.entry_int_sub PySem.F.args_int_sub_2 dec_sub (fun _ => by kernel_rfl) (fun _ => by kernel_rfl)
theorem od_mulO (b : Bd (k + 1) X W) (O : OwnC X.K C) (P : OpC X.K C "mul" fL fR) (FL : GR X.prog X.w X.K X.mg X.base fL k spL) (FR : GR X.prog X.w X.K X.mg X.base fR k spR) : OpD X W (binaryOp .Mult) (rOpO C spL spR) :=
  od_opO (op := .Mult) (fo := some (.builtin "int.__mul__")) (ro := some (.builtin "int.__rmul__")) b O P FL FR PySem.F.fills_int_mul PySem.F.slot_int_mul PySem.F.entry_int_mul PySem.F.args_int_mul_2 dec_mul (fun _ => by kernel_rfl) (fun _ => by kernel_rfl)
theorem od_fdvO (b : Bd (k + 1) X W) (O : OwnC X.K C) (P : OpC X.K C "floordiv" fL fR) (FL : GR X.prog X.w X.K X.mg X.base fL k spL) (FR : GR X.prog X.w X.K X.mg X.base fR k spR) : OpD X W (binaryOp .FloorDiv) (rOpO C spL spR) :=
  od_opO (op := .FloorDiv) (fo := some (.builtin "int.__floordiv__")) (ro := some (.builtin "int.__rfloordiv__")) b O P FL FR PySem.F.fills_int_floordiv PySem.F.slot_int_floordiv PySem.F.entry_int_floordiv PySem.F.args_int_floordiv_2 dec_fdv (fun _ => by kernel_rfl) (fun _ => by kernel_rfl)
/-- -x of an instance -/
def rUnO (C : Addr) (sp : SpD) : R1D := fun x T Q E => (slotsD C T x).isSome = true ∧ sp [x] T Q E
theorem ud_negO (b : Bd (k + 1) X W) (hs : PySem.W.findIn X.K (.ref C) "__neg__" = some (some (.ref fL))) (hf : PySem.W.isFn X.K (.ref fL) = true) (F : GR X.prog X.w X.K X.mg X.base fL k spL) : UnD X W (unaryOp .USub) (rUnO C spL) := by
  intro pins s σ H Q sd T QD ED x vx v I L r1 k1 ⟨hx, q⟩
  obtain ⟨a, ox, od, rfl, J⟩ := slo_inst I L.ok r1 hx
  cases (show v = Value.ref a from k1)
  obtain ⟨m, hF⟩ := I.fr
  exact PySem.W.ksp_neg hF I.ok.mod.kin J hs hf (op_run b F (A := X.A) (.inl rfl) I L (RDs.cons r1 RDs.nil) (.cons k1 .nil) q)
end
end DL
namespace DL
open PySem PySem.Spec PyProof.Rows L2 VX

/-! ### abs of an own instance; what is never reached -/
section
variable {X : Cx} {W : WX} {C f : Addr} {k : Nat} {sp : SpD}
def rAbsO (C : Addr) (sp : SpD) : RAD := fun xs T Q E => match xs with
  | [x] => (slotsD C T x).isSome = true ∧ sp [x] T Q E
  | _ => False
theorem cd_absO (b : Bd (k + 1) X W) (hs : PySem.W.findIn X.K (.ref C) "__abs__" = some (some (.ref f))) (hf : PySem.W.isFn X.K (.ref f) = true) (F : GR X.prog X.w X.K X.mg X.base f k sp) : CallD X W (.builtin "abs") (rAbsO C sp) := by
  intro pins s σ H Q sd T QD ED xs vs us I L rs rv q
  match xs, q, rs with
  | [x], ⟨hx, q⟩, rs =>
  obtain ⟨vx, rfl, r1⟩ := rds1 rs
  obtain ⟨a, ox, od, rfl, J⟩ := slo_inst I L.ok r1 hx
  have run := op_run b F (A := X.A.in1) (.inr rfl) I L rs rv q
  cases rv with
  | @cons _ v _ _ k1 k2 =>
  cases k2
  cases (show v = Value.ref a from k1)
  refine Calls.call_function_entry kind_abs plain_abs entry_abs (args_abs _) ?_
  unfold Builtin.«abs»
  refine wpAny_bind (m := oneArg "abs" _) (wpAny_pure ?_)
  refine wpAny_bind (m := callSpecial? (.ref a) (Str.ofString "__abs__")) (PySem.W.special_fn I.kIn J hs (beq_iff_eq.mp hf) (wpAny_mono run (fun v s' z => ?_) fun _ _ e => e))
  exact wpAny_pure ⟨_, rfl, z⟩
/-- never reached -/
def dBot : TDE := fun _ _ _ _ => False
theorem de_bot {e : Expr} : DE X W e dBot := DE.mk fun pins s σ H Q sd T QD ED I L q => q.elim
end

/-! ### += of an own instance without a method for it -/
section
open PySem.W
variable {prog : Program} {w : World} {A : Around} {E : Value → Shared → Prop} {s : Shared} {K : Frag} {x C f : Addr} {ox : Obj} {od : Option Obj}
theorem bin1_same {nm : String} {b : Value} {Q : Value → Shared → Prop} (X : K.In s.heap) (I : InstAt s.heap x ox C od) (hb : Looks (model prog w) s.heap (typeOf b) (.ref C)) (O : OwnC K C)
    (hs : findIn K (.ref C) (PySem.dunder nm) = some (some (.ref f))) (hf : isFn K (.ref f) = true)
    (h : wpAny (model prog w) A (call (.ref f) [.ref x, b]) (W.CmpBack Q) E s) : wpAny (model prog w) A (binaryOp1 nm (.ref x) b) (fun r s' => ∃ v, r = some v ∧ Q v s') E s := by
  unfold binaryOp1
  refine wpAny_bind (I.type.here (wpAny_bind (hb.here (wpAny_bind ((fills_R O X hs).here ?_)))))
  simp only [beq_self_eq_true, if_true]
  refine wpAny_bind (wpAny_pure ?_)
  simp only [Bool.and_false, Bool.false_eq_true, if_false, Bool.false_and]
  refine wpAny_bind (wpAny_pure ?_)
  simp only [Bool.false_eq_true, if_false]
  refine wpAny_bind (m := tryMethod (.ref x) _ b) (wpAny_mono (ksp_try X I hs hf h) (fun r s' z => ?_) fun _ _ e => e)
  obtain ⟨v, rfl, hq⟩ := z
  exact wpAny_pure ⟨v, rfl, hq⟩
theorem bin1_T {nm' T : String} {b : Value} {fo ro rc : Option Value} {Q : Value → Shared → Prop} (X : K.In s.heap) (I : InstAt s.heap x ox C od) (hb : typeOf b = pure (.type T)) (O : OwnC K C)
    (hs : findIn K (.ref C) (PySem.dunder nm') = some (some (.ref f))) (hf : isFn K (.ref f) = true) (hr : findIn K (.ref C) (dunderR nm') = some rc) (hp : rc = none ∨ ∃ g : Addr, rc = some (.ref g))
    (h1 : findIn K (.type T) (PySem.dunder nm') = some fo) (h2 : findIn K (.type T) (dunderR nm') = some ro) (hsub : subIn K (.type T) (.ref C) = some false)
    (h : wpAny (model prog w) A (call (.ref f) [.ref x, b]) (W.CmpBack Q) E s) : wpAny (model prog w) A (binaryOp1 nm' (.ref x) b) (fun r s' => ∃ v, r = some v ∧ Q v s') E s := by
  have one := ksp_try X I hs hf h
  obtain ⟨hh, g, d, tt, os⟩ := s
  have L1 : Looks (model prog w) hh (typeOf (.ref x)) (.ref C) := I.type
  have L2 : Looks (model prog w) hh (typeOf b) (.type T) := Looks.of_pure hb
  have L3 : Looks (model prog w) hh (fillsNumberSlot (.ref C) nm') true := fills_R O X hs
  have L4 : Looks (model prog w) hh (fillsNumberSlot (.type T) nm') ((fo.isSome && !isSeqSlot fo) || (ro.isSome && !isSeqSlot ro)) := ksp_fillsT X h1 h2
  have L5 : Looks (model prog w) hh (isSubtype (.type T) (.ref C)) false := looks_subIn X hsub
  have L6 : Looks (model prog w) hh (numberSlotInPython (.ref C) nm') true := ksp_inPy X hs hr hp
  have L7 : Looks (model prog w) hh (numberSlotInPython (.type T) nm') false := Looks.of_pure rfl
  have L8 : Looks (model prog w) hh (typeLookup (.type T) (dunderR nm')) ro := looks_findIn X h2
  generalize ((fo.isSome && !isSeqSlot fo) || (ro.isSome && !isSeqSlot ro)) = right at L4
  have hne : (Value.ref C == Value.type T) = false := Bool.eq_false_iff.mpr fun q => by cases beq_iff_eq.mp q
  unfold binaryOp1
  refine wpAny_bind (L1.at (wpAny_bind (L2.at (wpAny_bind (L3.at ?_)))))
  simp only [hne, Bool.false_eq_true, if_false]
  cases right with
  | false =>
    ksp_lk
    refine wpAny_mono one (fun r s' hr' => ?_) fun _ _ e => e
    obtain ⟨v, rfl, hq⟩ := hr'
    ksp_lk
    exact ⟨v, rfl, hq⟩
  | true =>
    ksp_lk
    refine wpAny_mono one (fun r s' hr' => ?_) fun _ _ e => e
    obtain ⟨v, rfl, hq⟩ := hr'
    ksp_lk
    exact ⟨v, rfl, hq⟩
/-- C below object alone, without a method for nm= -/
structure NoIn (K : Frag) (C : Addr) (nm : String) : Prop where
  mro : (clsIn K C).map (·.mro) = some [.ref C, .type "object"]
  no : findIn K (.ref C) (dunderI nm) = some none
theorem noIn {M : Model} {h : Heap} {nm : String} {add : Bool} (X : K.In h) (N : NoIn K C nm) (ho : findIn K (.type "object") (dunderI nm) = some none) : Looks M h (fillsInplaceSlot (.ref C) nm add) false := by
  obtain ⟨cd, hcd, hm⟩ : ∃ cd, clsIn K C = some cd ∧ cd.mro = [.ref C, .type "object"] := by
    have z := N.mro
    cases q : clsIn K C with
    | none => rw [q] at z; cases z
    | some cd => rw [q] at z; exact ⟨cd, rfl, Option.some.inj z⟩
  intro A Q E s k q
  have Lm : Looks M h (mroOf (.ref C)) cd.mro := (looks_clsIn X hcd).andThen (f := fun cd => pure cd.mro) .now
  have Lm' := Lm.keeps k
  obtain ⟨hh, g, d, tt, os⟩ := s
  have X' : K.In hh := X.keeps k
  have L1 : Looks M hh (typeLookup (.ref C) (dunderI nm)) none := looks_findIn X' N.no
  have L2 : Looks M hh (typeLookup (.type "object") (dunderI nm)) none := looks_findIn X' ho
  unfold fillsInplaceSlot
  refine wpAny_bind (Lm'.at ?_)
  rw [hm, List.anyM_cons]
  refine wpAny_bind (wpAny_bind (L1.at (wpAny_pure ?_)))
  simp only [Bool.false_eq_true, if_false]
  rw [List.anyM_cons]
  refine wpAny_bind (wpAny_bind (L2.at (wpAny_pure ?_)))
  exact wpAny_pure q
end

section
variable {X : Cx} {W : WX} {C fL fR : Addr} {k : Nat} {sp : SpD}
def rInO (C : Addr) (sp : SpD) : R2D := fun x y T Q E => (slotsD C T x).isSome = true ∧ ((slotsD C T y).isSome = true ∨ isI y = true) ∧ sp [x, y] T Q E
theorem od_inAdd (b : Bd (k + 1) X W) (O : OwnC X.K C) (N : NoIn X.K C "add") (P : OpC X.K C "add" fL fR) (F : GR X.prog X.w X.K X.mg X.base fL k sp) : OpD X W (inplaceOp .Add) (rInO C sp) := by
  intro pins s σ H Q sd T QD ED x y vx vy v u I L r1 k1 r2 k2 ⟨hx, hy, q⟩
  obtain ⟨a, ox, od, rfl, J⟩ := slo_inst I L.ok r1 hx
  cases (show v = Value.ref a from k1)
  have run := wpAny_mono (op_run b F (A := X.A) (.inl rfl) I L (RDs.cons r1 (RDs.cons r2 RDs.nil)) (.cons k1 (.cons k2 .nil)) q) (fun w s' z => cmpBackV z) fun _ _ e => e
  have bin : wpAny (model X.prog X.w) X.A (binaryOp1 "add" (.ref a) u) (fun r s' => ∃ v, r = some v ∧ EP X pins σ Q v s') X.xe s := by
    rcases hy with hy | hy
    · obtain ⟨c, oy, od', rfl, J'⟩ := slo_inst I L.ok r2 hy
      cases (show u = Value.ref c from k2)
      exact bin1_same I.kIn J J'.type O P.l P.lf run
    · cases y <;> simp only [isI] at hy <;> try (cases hy; done)
      rename_i j
      have r2' : vy = .int j := r2
      subst r2'
      obtain ⟨t, rfl⟩ := (show ∃ t, u = Value.int j t from k2)
      exact bin1_T (fo := some (.builtin "int.__add__")) (ro := some (.builtin "int.__radd__")) I.kIn J rfl O P.l P.lf P.r (.inr ⟨_, rfl⟩) (by kernel_rfl) (by kernel_rfl) sub_tC run
  unfold inplaceOp
  refine wpAny_holding (wpAny_bind (J.type.here (wpAny_bind ((noIn I.kIn N (by kernel_rfl)).here ?_))))
  simp only [Bool.false_eq_true, if_false]
  refine wpAny_bind (m := binaryOp1 "add" (.ref a) u) (wpAny_mono bin (fun r s' z => ?_) fun _ _ e => e)
  obtain ⟨v, rfl, hq⟩ := z
  exact wpAny_pure hq
/-- name op= e -/
def dAug (i : Nat) (te : TDE) (r : R2D) : TDS := fun D sd T => match sd[i]? with
  | some (some x) => te sd T (fun y T1 => O2 r x y T1 (fun z T2 => D.nx (sd.set i (some z)) T2) (fun ex T2 => D.xe ex sd T2)) (fun ex T1 => D.xe ex sd T1)
  | _ => False
theorem ds_aug {i : Nat} {x : Str} {e : Expr} {te : TDE} {op : Operator} {r : R2D} {pos pos' : Pos} (hN : X.N.Nodup) (hi : X.N[i]? = some x) (hl0 : X.env.scope.names.lookup x = some .local) (he : DE X W e te) (ho : OpD X W (inplaceOp op) r) :
    DS X W (.AugAssign (.Name x pos') op e pos) (dAug i te r) := by
  refine DS.mk fun pins s σ H De sd T DD I st ok L q => ?_
  unfold dAug at q
  split at q
  case h_2 => exact q.elim
  rename_i d ed
  obtain ⟨v, e1, rd⟩ := st.at_ i d ed
  obtain ⟨m, hn, hl⟩ := I.loc
  have hk0 : X.env.kindOf x = some .local := hl0
  obtain ⟨u, rv, l⟩ := hl i x v hi e1 (.inl hk0)
  refine wpAny_AugAssign_Name ?_
  have go : wpAny (model X.prog X.w) X.A (eval e X.env) (fun w s₂ => wpAny (model X.prog X.w) X.A (inplaceOp op u w) (fun r s₃ => wpAny (model X.prog X.w) X.A (storeName X.env x r) (fun _ => SP X pins De .next) X.xe s₃) X.xe s₂) X.xe s := by
    refine thn (he.one I st ok (L.exok st) q) fun w s1 ⟨y, vy, H1, T1, B⟩ => ?_
    have L2 : LE X.K W σ H1 (fun vz H2 => De.nx (σ.set i (some vz)) H2) sd T1 (fun z T2 => DD.nx (sd.set i (some z)) T2) (fun ex T2 => DD.xe ex sd T2) :=
      ⟨st.mono B.fr, B.ok, fun z T2 vz H2 n r o f => L.nx _ T2 _ H2 n ((st.mono (B.fr.trans f)).set i r) o (B.fr.trans f), EXok.go (L.exok st) B.fr⟩
    refine thn (ho pins s1 σ H1 _ sd T1 _ _ d y v vy u w B.I L2 (RD.mono B.fr d rd) rv B.rd B.rv B.k.h) fun z s2 ⟨zv, H2, I2, r2, q2⟩ => ?_
    exact store_ok I2 hN hi (.inl hk0) r2 (fun s3 I3 => ⟨_, H2, I3, q2⟩) (.inr hl0)
  rcases l with ⟨hk, hm⟩ | ⟨hk, c, hc, hcell⟩
  · exact wpAny_loadName_local I.ok.kind hk hn hm go
  · rcases hk with hk | hk
    · exact wpAny_loadName_cell I.ok.kind hk hc hcell go
    · have z : X.env.scope.names.lookup x = some .free := hk
      rw [hl0] at z
      cases z
end
end DL
namespace DL
open PySem PySem.Spec PyProof.Rows L2 VX

/-! ### comparisons of own instances beside ints -/
section
open PySem.W
variable {prog : Program} {w : World} {A : Around} {E : Value → Shared → Prop} {s : Shared} {K : Frag} {x C fL fR f : Addr} {ox : Obj} {od : Option Obj}
theorem cmp_refl {op : CmpOp} {idl : String} {i : Int} {t : Tok} {Q : Value → Shared → Prop} (hu : A.units < cLine) (X : K.In s.heap) (I : InstAt s.heap x ox C od) (O : OwnC K C)
    (hs : findIn K (.ref C) (cmpInfo op).2.2 = some (some (.ref fR))) (hf : isFn K (.ref fR) = true) (hl : Slot "int" (cmpInfo op).2.1 idl)
    (hd : ∀ Q' : Value → Shared → Prop, Q' .notImplemented s → wpAny (model prog w) A (call (.builtin idl) [.int i t, .ref x]) Q' E s)
    (h : wpAny (model prog w) A (call (.ref fR) [.ref x, .int i t]) (W.CmpBack Q) E s) : wpAny (model prog w) A (richCompare op (.int i t) (.ref x)) Q E s := by
  have ha := typeIs_int s i t
  have two : wpAny (model prog w) A (tryCompare (.ref x) (cmpInfo op).2.2 (.int i t)) (fun r s' => ∃ v, r = some v ∧ Q v s') E s := by
    unfold tryCompare
    refine wpAny_bind (ifBound_K X I hs hf (wpAny_mono h (fun v s' hv => ?_) fun _ _ e => e))
    cases v <;> first | exact hv.elim | exact wpAny_pure ⟨_, rfl, hv⟩
  rcases hi : cmpInfo op with ⟨sym, f1, r1⟩
  rw [hi] at hl two
  dsimp only at hl two
  simp only [richCompare, hi, ha.oneThing_none]
  refine wpAny_holding (wpAny_bind (wpAny_cRoomFor_or (.inr hu) ?_))
  refine wpAny_bind (wpAny_typeOf ha (wpAny_bind (I.type.here ?_)))
  have hne : (Value.type "int" != Value.ref C) = true := by
    rw [bne_iff_ne]
    exact fun z => nomatch z
  simp only [hne, if_true]
  refine wpAny_bind ((looks_subIn X O.ni).here ?_)
  simp only [Bool.false_eq_true, if_false, Bool.not_false, if_true]
  refine wpAny_bind (m := tryCompare (.int i t) _ (.ref x)) (wpAny_tryCompare_declines ha hl (hd _ ⟨rfl, ?_⟩))
  refine wpAny_bind (m := tryCompare (.ref x) _ (.int i t)) (wpAny_mono two (fun r s' z => ?_) fun _ _ e => e)
  obtain ⟨v, rfl, hq⟩ := z
  exact wpAny_pure hq
end
section
variable {X : Cx} {W : WX} {C fL fR : Addr} {k : Nat} {spL spR : SpD}
/-- the methods for a comparison, and for its turn -/
structure CmC (K : PySem.W.Frag) (C : Addr) (nm rn : Str) (fL fR : Addr) : Prop where
  l : PySem.W.findIn K (.ref C) nm = some (some (.ref fL))
  lf : PySem.W.isFn K (.ref fL) = true
  r : PySem.W.findIn K (.ref C) rn = some (some (.ref fR))
  rf : PySem.W.isFn K (.ref fR) = true
theorem nf_int {K : PySem.W.Frag} : PySem.W.notFirst K C (.type "int") = true := by
  unfold PySem.W.notFirst
  rw [sub_tC]
  rfl
theorem od_cmpO {op : CmpOp} {idl : String} {B : Builtin} (b : Bd (k + 1) X W) (hop : ∀ a b, compareOp op a b = richCompare op a b) (O : OwnC X.K C) (P : CmC X.K C (cmpInfo op).2.1 (cmpInfo op).2.2 fL fR) (FL : GR X.prog X.w X.K X.mg X.base fL k spL) (FR : GR X.prog X.w X.K X.mg X.base fR k spR)
    (hl : Slot "int" (cmpInfo op).2.1 idl) (entry : entryFor table idl = some B) (args : ∀ a b : Value, argsOk idl ⟨[a, b], []⟩)
    (dec : ∀ (i : Int) (u : Tok) (l C dx : Addr) (sl : Array (Option Value)), Meets (B ⟨[.int i u, .ref l], []⟩) (SIn l C dx sl)) : OpD X W (compareOp op) (rOpO C spL spR) := by
  intro pins s σ H Q sd T QD ED x y vx vy v u I L r1 k1 r2 k2 q0
  obtain ⟨m, hF⟩ := I.fr
  rw [hop]
  have left : (slotsD C T x).isSome = true ∧ ((slotsD C T y).isSome = true ∨ isI y = true) ∧ spL [x, y] T QD ED → wpAny (model X.prog X.w) X.A (richCompare op v u) (EP X pins σ Q) X.xe s := by
    rintro ⟨hx, hy, q⟩
    obtain ⟨a, ox, od, rfl, J⟩ := slo_inst I L.ok r1 hx
    cases (show v = Value.ref a from k1)
    have run := wpAny_mono (op_run b FL (A := X.A) (.inl rfl) I L (RDs.cons r1 (RDs.cons r2 RDs.nil)) (.cons k1 (.cons k2 .nil)) q) (fun w s' z => cmpBackV z) fun _ _ e => e
    rcases hy with hy | hy
    · obtain ⟨c, oy, od', rfl, J'⟩ := slo_inst I L.ok r2 hy
      cases (show u = Value.ref c from k2)
      exact PySem.W.cmp_K (tb := .ref C) b.hr.units0 hF I.ok.mod.kin J J'.type (by unfold PySem.W.notFirst; simp) P.l P.lf run
    · cases y <;> simp only [isI] at hy <;> try (cases hy; done)
      rename_i j
      have r2' : vy = .int j := r2
      subst r2'
      obtain ⟨t, rfl⟩ := (show ∃ t, u = Value.int j t from k2)
      exact PySem.W.cmp_K (tb := .type "int") b.hr.units0 hF I.ok.mod.kin J (PySem.W.Looks.of_pure rfl) nf_int P.l P.lf run
  cases x <;> try exact left q0
  · rename_i j
    obtain ⟨hy, q⟩ := q0
    cases e : slotsD C T y with
    | none => rw [e] at hy; cases hy
    | some ds =>
      obtain ⟨c, dx, vs, rfl, hs, _⟩ := slotsD_V L.ok r2 e
      obtain ⟨sl, od', _, J', _⟩ := SlX.slt_inst I hs
      cases (show u = Value.ref c from k2)
      have r1' : vx = .int j := r1
      subst r1'
      obtain ⟨t, rfl⟩ := (show ∃ t, v = Value.int j t from k1)
      exact cmp_refl b.hr.units0 I.kIn J' O P.r P.rf hl (fun Q' hq => call_meets hl (typeIs_int s j t) entry (args _ _) (dec j t c C dx sl) ⟨J'.1, hq⟩)
        (wpAny_mono (op_run b FR (A := X.A) (.inl rfl) I L (RDs.cons r2 (RDs.cons r1 RDs.nil)) (.cons k2 (.cons k1 .nil)) q) (fun w s' z => cmpBackV z) fun _ _ e => e)
theorem od_ltO (b : Bd (k + 1) X W) (O : OwnC X.K C) (P : CmC X.K C "__lt__" "__gt__" fL fR) (FL : GR X.prog X.w X.K X.mg X.base fL k spL) (FR : GR X.prog X.w X.K X.mg X.base fR k spR) : OpD X W (compareOp .Lt) (rOpO C spL spR) :=
  od_cmpO (op := .Lt) b (fun _ _ => rfl) O P FL FR PySem.F.slot_int_lt PySem.F.entry_int_lt PySem.F.args_int_lt_2 dec_lt
theorem od_leO (b : Bd (k + 1) X W) (O : OwnC X.K C) (P : CmC X.K C "__le__" "__ge__" fL fR) (FL : GR X.prog X.w X.K X.mg X.base fL k spL) (FR : GR X.prog X.w X.K X.mg X.base fR k spR) : OpD X W (compareOp .LtE) (rOpO C spL spR) :=
  od_cmpO (op := .LtE) b (fun _ _ => rfl) O P FL FR PySem.F.slot_int_le PySem.F.entry_int_le PySem.F.args_int_le_2 dec_le
theorem od_gtO (b : Bd (k + 1) X W) (O : OwnC X.K C) (P : CmC X.K C "__gt__" "__lt__" fL fR) (FL : GR X.prog X.w X.K X.mg X.base fL k spL) (FR : GR X.prog X.w X.K X.mg X.base fR k spR) : OpD X W (compareOp .Gt) (rOpO C spL spR) :=
  od_cmpO (op := .Gt) b (fun _ _ => rfl) O P FL FR PySem.F.slot_int_gt PySem.F.entry_int_gt PySem.F.args_int_gt_2 dec_gt
theorem od_geO (b : Bd (k + 1) X W) (O : OwnC X.K C) (P : CmC X.K C "__ge__" "__le__" fL fR) (FL : GR X.prog X.w X.K X.mg X.base fL k spL) (FR : GR X.prog X.w X.K X.mg X.base fR k spR) : OpD X W (compareOp .GtE) (rOpO C spL spR) :=
  od_cmpO (op := .GtE) b (fun _ _ => rfl) O P FL FR PySem.F.slot_int_ge PySem.F.entry_int_ge PySem.F.args_int_ge_2 dec_ge
end
end DL
namespace DL
open PySem PySem.Spec PyProof.Rows L2 VX

/-! ### == and != of an own instance beside any value -/
section
variable {K : PySem.W.Frag} {C : Addr}
/-- types that are never below C -/
def nfT (C : Addr) : Value → Bool
  | .ref D => decide (D = C)
  | .type n => (["NoneType", "bool", "int", "str", "tuple", "list", "dict"] : List String).contains n
  | _ => false
theorem nf_of {n : String} {m : List Value} (e : fastBuiltinMro n = some m) (h : m.all fun v => match v with | .type _ => true | _ => false) : PySem.W.notFirst K C (.type n) = true := by
  have e2 : PySem.W.subIn K (.type n) (.ref C) = some false := by
    show (fastBuiltinMro n).map (·.contains (Value.ref C)) = some false
    rw [e]
    show some (m.contains (Value.ref C)) = some false
    have : m.contains (Value.ref C) = false := by
      rw [Bool.eq_false_iff]
      intro z
      have z2 := List.all_eq_true.mp h (Value.ref C) (List.contains_iff_mem.mp z)
      cases z2
    rw [this]
  unfold PySem.W.notFirst
  rw [e2]
  simp
theorem nfT_ok {t : Value} (h : nfT C t = true) : PySem.W.notFirst K C t = true := by
  cases t with
  | ref D =>
    have e : D = C := of_decide_eq_true h
    subst e
    unfold PySem.W.notFirst
    simp
  | type n =>
    have h' : n ∈ (["NoneType", "bool", "int", "str", "tuple", "list", "dict"] : List String) := List.contains_iff_mem.mp h
    simp only [List.mem_cons, List.not_mem_nil, or_false] at h'
    rcases h' with rfl | rfl | rfl | rfl | rfl | rfl | rfl
    · exact nf_of (m := [.type "NoneType", .type "object"]) (by kernel_rfl) rfl
    · exact nf_of (m := [.type "bool", .type "int", .type "object"]) (by kernel_rfl) rfl
    · exact nf_of (m := [.type "int", .type "object"]) (by kernel_rfl) rfl
    · exact nf_of (m := [.type "str", .type "object"]) (by kernel_rfl) rfl
    · exact nf_of (m := [.type "tuple", .type "object"]) (by kernel_rfl) rfl
    · exact nf_of (m := [.type "list", .type "object"]) (by kernel_rfl) rfl
    · exact nf_of (m := [.type "dict", .type "object"]) (by kernel_rfl) rfl
  | _ => cases h
end
section
variable {prog : Program} {w : World} {A : Around} {E : Value → Shared → Prop} {s : Shared} {K : PySem.W.Frag} {x C f : Addr} {ox : Obj} {od : Option Obj}
theorem ne_any {u tb : Value} {Q : Value → Shared → Prop} (hu : A.units + 1 < cLine) (Xk : K.In s.heap) (I : PySem.W.InstAt s.heap x ox C od) (hb : PySem.W.Looks (model prog w) s.heap (typeOf u) tb) (ht : PySem.W.notFirst K C tb = true) (hn : PySem.W.findIn K (.ref C) "__ne__" = some (some (.builtin "object.__ne__")))
    (hm : PySem.W.mroIn K C (.type "object") = some true) (he : PySem.W.findIn K (.ref C) "__eq__" = some (some (.ref f))) (hf : PySem.W.isFn K (.ref f) = true)
    (h : wpAny (model prog w) A.in1 (call (.ref f) [.ref x, u]) (fun v s' => ∃ b, v = .bool b ∧ Q (.bool (!b)) s') E s) : wpAny (model prog w) A (richCompare .NotEq (.ref x) u) Q E s := by
  have body : wpAny (model prog w) A.in1 (Builtin.«object.__ne__» ⟨[.ref x, u], []⟩) (fun fin s' => ∃ b, fin = .done (.ret (.bool (!b))) ∧ Q (.bool (!b)) s') E s := by
    unfold Builtin.«object.__ne__»
    refine wpAny_bind (m := slotArgs "__ne__" 1 _) (wpAny_pure ?_)
    refine wpAny_bind (m := cRoomFor _ _) (wpAny_cRoomFor (by show A.units + 1 < cLine; exact hu) ?_)
    refine wpAny_bind (m := callSpecialIfBound? (.ref x) (Str.ofString "__eq__") [u]) (PySem.W.ifBound_K Xk I he hf (wpAny_mono h (fun r s' hr => ?_) fun _ _ e => e))
    obtain ⟨b, rfl, hq⟩ := hr
    exact wpAny_bind (wpAny_truthy_bool (wpAny_pure ⟨b, rfl, hq⟩))
  have one : wpAny (model prog w) A (tryCompare (.ref x) "__ne__" u) (fun r s' => ∃ v, r = some v ∧ Q v s') E s := by
    unfold tryCompare
    refine wpAny_bind ?_
    simp only [callSpecialIfBound?, bindSpecialIfBound?]
    have fin : ∀ {P : Option Value → Shared → Prop}, (∀ b s', Q (.bool b) s' → P (some (.bool b)) s') → wpAny (model prog w) A (call (.builtin "object.__ne__") ([.ref x] ++ [u]) >>= fun v => pure (some v)) P E s := fun {P} hP => by
      refine wpAny_bind (wpAny_call (codeAny_call_builtin F.slot_object_ne.plain F.cmpEntry_ne (PySem.W.check_slot F.cmpKind_ne F.cmpSplit_ne (I.type.andThen (PySem.W.looks_mroIn Xk hm)) (F.cmpArgs_ne _ _) (wpAny_mono body (fun fin s' hf => ?_) fun _ _ e => e))))
      obtain ⟨b, rfl, hq⟩ := hf
      exact wpAny_pure (hP _ _ hq)
    refine wpAny_holding (wpAny_bind (wpAny_bind (wpAny_bind (I.type.here ((PySem.W.looks_findIn Xk hn).here ?_)))))
    refine wpAny_bind (wpAny_askSetting (wpAny_ite ?_))
    split
    · exact wpAny_bind (wpAny_of_eq (F.slot_object_ne.bind _) (wpAny_pure (by exact fin fun b s' q => wpAny_pure ⟨_, rfl, q⟩)))
    · exact wpAny_tryCatch (wpAny_bind (wpAny_of_eq (F.slot_object_ne.bind _) (wpAny_pure (by exact fin fun b s' q => wpAny_pure ⟨_, rfl, q⟩))))
  unfold richCompare
  simp only [oneThing_ref]
  refine wpAny_holding (wpAny_bind (wpAny_cRoomFor (by omega) ?_))
  rw [cmpInfo_NotEq]
  dsimp only
  refine wpAny_bind (I.type.here (wpAny_bind (hb.here ?_)))
  split
  · rename_i q
    have e : PySem.W.subIn K tb (.ref C) = some false := by
      rcases Bool.or_eq_true_iff.mp ht with e | e
      · rw [beq_iff_eq.mp e] at q; simp at q
      · exact beq_iff_eq.mp e
    refine wpAny_bind ((PySem.W.looks_subIn Xk e).here ?_)
    simp only [Bool.false_eq_true, if_false]
    refine wpAny_bind (wpAny_mono one (fun r s' z => ?_) fun _ _ e => e)
    obtain ⟨v, rfl, hq⟩ := z
    exact wpAny_pure hq
  · refine wpAny_bind (wpAny_pure ?_)
    simp only [Bool.false_eq_true, if_false]
    refine wpAny_bind (wpAny_mono one (fun r s' z => ?_) fun _ _ e => e)
    obtain ⟨v, rfl, hq⟩ := z
    exact wpAny_pure hq
end
section
variable {X : Cx} {W : WX} {C f : Addr} {k : Nat} {sp : SpD} {inS inE inO : Addr → Bool}
/-- an instance of C beside any value; an int beside an instance -/
def rEqA (C : Addr) (inS inE inO : Addr → Bool) (sp : SpD) : R2D := fun x y T Q E => match x with
  | .int _ => (slotsD C T y).isSome = true ∧ sp [y, x] T Q E
  | _ => (slotsD C T x).isSome = true ∧ (∃ t, tyD inS inE inO T y = some t ∧ nfT C t = true) ∧ sp [x, y] T Q E
def rNeA (C : Addr) (inS inE inO : Addr → Bool) (sp : SpD) : R2D := fun x y T Q E => (slotsD C T x).isSome = true ∧ (∃ t, tyD inS inE inO T y = some t ∧ nfT C t = true) ∧ sp [x, y] T (fun r T1 => match r with
  | .bl b => Q (.bl (!b)) T1
  | _ => False) E
theorem od_eqA (b : Bd (k + 1) X W) (hS : ∀ C, inS C = true → SlX.SCls X.K C ∧ SlX.SIsi X.K C) (hE : ∀ C, inE C = true → ExC X.K C) (hO : ∀ C, inO C = true → OCls X.K C) (O : OwnC X.K C) (he : PySem.W.findIn X.K (.ref C) "__eq__" = some (some (.ref f))) (hf : PySem.W.isFn X.K (.ref f) = true) (F : GR X.prog X.w X.K X.mg X.base f k sp) : OpD X W (compareOp .Eq) (rEqA C inS inE inO sp) := by
  intro pins s σ H Q sd T QD ED x y vx vy v u I L r1 k1 r2 k2 q0
  obtain ⟨m, hF⟩ := I.fr
  show wpAny _ _ (richCompare .Eq v u) _ _ _
  have left : (slotsD C T x).isSome = true ∧ (∃ t, tyD inS inE inO T y = some t ∧ nfT C t = true) ∧ sp [x, y] T QD ED → wpAny (model X.prog X.w) X.A (richCompare .Eq v u) (EP X pins σ Q) X.xe s := by
    rintro ⟨hx, ⟨t, ht, hn⟩, q⟩
    obtain ⟨a, ox, od, rfl, J⟩ := slo_inst I L.ok r1 hx
    cases (show v = Value.ref a from k1)
    have run := wpAny_mono (op_run b F (A := X.A) (.inl rfl) I L (RDs.cons r1 (RDs.cons r2 RDs.nil)) (.cons k1 (.cons k2 .nil)) q) (fun w s' z => cmpBackV z) fun _ _ e => e
    obtain ⟨P, Z, hP, _⟩ := kit_D hS hE hO I L.ok r2 k2 ht
    exact PySem.W.cmp_K (tb := t) b.hr.units0 hF I.ok.mod.kin J (Z.ty _ _ I.kIn hP) (nfT_ok hn) he hf run
  cases x <;> try exact left q0
  · rename_i j
    obtain ⟨hy, q⟩ := q0
    cases e : slotsD C T y with
    | none => rw [e] at hy; cases hy
    | some ds =>
      obtain ⟨c, dx, vs, rfl, hs, _⟩ := slotsD_V L.ok r2 e
      obtain ⟨sl, od', _, J', _⟩ := SlX.slt_inst I hs
      cases (show u = Value.ref c from k2)
      have r1' : vx = .int j := r1
      subst r1'
      obtain ⟨t, rfl⟩ := (show ∃ t, v = Value.int j t from k1)
      exact cmp_refl (op := .Eq) b.hr.units0 I.kIn J' O he hf PySem.F.slot_int_eq (fun Q' hq => call_meets PySem.F.slot_int_eq (typeIs_int s j t) PySem.F.entry_int_eq (PySem.F.args_int_eq_2 _ _) (dec_eq j t c C dx sl) ⟨J'.1, hq⟩)
        (wpAny_mono (op_run b F (A := X.A) (.inl rfl) I L (RDs.cons r2 (RDs.cons r1 RDs.nil)) (.cons k2 (.cons k1 .nil)) q) (fun w s' z => cmpBackV z) fun _ _ e => e)
theorem od_neA (b : Bd (k + 1) X W) (hS : ∀ C, inS C = true → SlX.SCls X.K C ∧ SlX.SIsi X.K C) (hE : ∀ C, inE C = true → ExC X.K C) (hO : ∀ C, inO C = true → OCls X.K C) (hn : PySem.W.findIn X.K (.ref C) "__ne__" = some (some (.builtin "object.__ne__"))) (hm : PySem.W.mroIn X.K C (.type "object") = some true)
    (he : PySem.W.findIn X.K (.ref C) "__eq__" = some (some (.ref f))) (hf : PySem.W.isFn X.K (.ref f) = true) (F : GR X.prog X.w X.K X.mg X.base f k sp) : OpD X W (compareOp .NotEq) (rNeA C inS inE inO sp) := by
  intro pins s σ H Q sd T QD ED x y vx vy v u I L r1 k1 r2 k2 ⟨hx, ⟨t, ht, hnf⟩, q⟩
  obtain ⟨a, ox, od, rfl, J⟩ := slo_inst I L.ok r1 hx
  cases (show v = Value.ref a from k1)
  obtain ⟨P, Z, hP, _⟩ := kit_D hS hE hO I L.ok r2 k2 ht
  have L2 : LE X.K W σ H (fun v H' => ∃ b, v = .bl b ∧ Q (.bl (!b)) H') sd T (fun r T1 => match r with
      | .bl b => QD (.bl (!b)) T1
      | _ => False) ED := ⟨L.st, L.ok, fun r T' v H' hr rd o' f' => by
    cases r <;> try exact hr.elim
    rename_i b
    have rd' : v = .bl b := rd
    exact ⟨b, rd', L.q _ _ _ _ hr rfl o' f'⟩, L.x⟩
  show wpAny _ _ (richCompare .NotEq (.ref a) u) _ _ _
  refine ne_any (by have := b.hr.un; omega) I.kIn J (Z.ty _ _ I.kIn hP) (nfT_ok hnf) hn hm he hf (wpAny_mono (op_run b F (A := X.A.in1) (.inr rfl) I L2 (RDs.cons r1 (RDs.cons r2 RDs.nil)) (.cons k1 (.cons k2 .nil)) q) (fun w s' z => ?_) fun _ _ e => e)
  obtain ⟨vx, H', I', rv, bb, ev, hq⟩ := z
  subst ev
  obtain rfl : w = Value.bool bb := rv
  exact ⟨bb, rfl, .bl (!bb), H', I', rfl, hq⟩
end
end DL
namespace DL
open PySem PySem.Spec PyProof.Rows L2 VX
/-! ### == and != of pairs of ints -/
abbrev shI (a b : Int) : Prop := SeqAt.shaped (.tuple [.int a, .int b]) = true
def rTI (g : Bool → Bool) : R2D := fun x y T Q _ => match x, y with
  | .tup [.int a, .int b], .tup [.int c, .int d] => shI a b ∧ shI c d ∧ Q (.bl (g (decide (a = c) && decide (b = d)))) T
  | _, _ => False
theorem rTI_inv {g : Bool → Bool} {x y : D} {T : Td} {Q : KD} {E : XD} (h : rTI g x y T Q E) : ∃ a b c d, x = .tup [.int a, .int b] ∧ y = .tup [.int c, .int d] ∧ shI a b ∧ shI c d ∧ Q (.bl (g (decide (a = c) && decide (b = d)))) T := by
  unfold rTI at h
  split at h
  · exact ⟨_, _, _, _, rfl, rfl, h⟩
  · exact h.elim
theorem eqv2 (a b c d : Int) : PyData.eqv (.tuple [.int a, .int b]) (.tuple [.int c, .int d]) = (decide (a = c) && decide (b = d)) := by
  simp only [PyData.eqv, PyData.eqvAll, Bool.and_true]
  rfl
section
variable {X : Cx} {W : WX} {k : Nat}
theorem pair_V {K : PySem.W.Frag} {H : Hp} {T : Td} {a b : Int} {vx : V} (r : RD K H T (.tup [.int a, .int b]) vx) : Dp K H vx (.tuple [.int a, .int b]) := by
  obtain ⟨p, vs, rfl, t, rs⟩ := r
  obtain ⟨v, w, rfl, r1, r2⟩ := rds2 rs
  have r1' : v = .int a := r1
  have r2' : w = .int b := r2
  subst r1' r2'
  exact .tup t.sq (.cons (.int a) (.cons (.int b) .nil))
theorem od_eqTI (b : Bd k X W) : OpD X W (compareOp .Eq) (rTI id) := OpD.of (op_eqD b.hr.units) fun σ H Q sd T QD ED x y vx vy L r1 r2 h => by
  obtain ⟨a, b, c, d, rfl, rfl, h1, h2, q⟩ := rTI_inv h
  refine ⟨_, _, pair_V r1, pair_V r2, h1, h2, ?_⟩
  rw [eqv2]
  exact L.q _ T _ H q rfl L.ok Fr.refl
theorem od_neTI (b : Bd k X W) : OpD X W (compareOp .NotEq) (rTI (!·)) := OpD.of (op_neD b.hr.units) fun σ H Q sd T QD ED x y vx vy L r1 r2 h => by
  obtain ⟨a, b, c, d, rfl, rfl, h1, h2, q⟩ := rTI_inv h
  refine ⟨_, _, pair_V r1, pair_V r2, h1, h2, ?_⟩
  rw [eqv2]
  exact L.q _ T _ H q rfl L.ok Fr.refl
end
end DL
namespace DL
open PySem PySem.Spec PyProof.Rows L2 VX
/-! ### == of tuples of one item whose class has an own == -/
section
open SeqAt MeetsSeq AutoSeq1 GQ
variable {prog : Program} {w : World} {A : Around} {E : Value → Shared → Prop} {R : Result → Shared → Prop} {s : Shared}
theorem tuple_eq1 (l b : Addr) (u v : Value) (n n2 : Nat) (dd dd2 : Option Addr) (sl sl2 : Array (Option Value))
    (hl1 : s.heap.get? l = some { cls := .type "tuple", dict := dd, data := .seq #[u] n, slots := sl }) (hb1 : s.heap.get? b = some { cls := .type "tuple", dict := dd2, data := .seq #[v] n2, slots := sl2 })
    (h : wpAny (model prog w) A.in1 (eqBool u v) (fun r s' => R (.ok (.ret (.bool r))) s') (fun e s' => R (.error e) s') s) :
    wpAny (model prog w) A.in1 (Builtin.«tuple.__eq__» ⟨[.ref l, .ref b], []⟩) (FinOf prog w A R) (fun e s' => R (.error e) s') s := by
  have f2 := AutoSeq1.sub_tuple_tuple
  obtain ⟨hp, g, d, tk, os⟩ := s
  wp_walk using wpAny_loadPart' hl1, wpAny_loadPart' hb1, wpAny_forIn_list _ (fun rest b s' => b.1 = none ∧ ((rest = [(u, v)] ∧ s' = ⟨hp, g, d, tk, os⟩) ∨ (rest = [] ∧ R (.ok (.ret (.bool true))) s'))) _
  case turn =>
    rintro ⟨y, x⟩ rest b s' ⟨hb', q⟩
    rcases q with ⟨hz, rfl⟩ | ⟨hz, _⟩
    · injection hz with hyx hrest
      injection hyx with e1 e2
      subst e1 e2 hrest
      refine wpAny_bind (wpAny_mono h (fun r s2 q2 => ?_) fun _ _ x => x)
      cases r with
      | true =>
        wp_walk
        exact ⟨rfl, .inr ⟨rfl, q2⟩⟩
      | false =>
        wp_walk
        first | exact q2 | exact ⟨_, rfl, q2⟩
    · cases hz
  case fin =>
    rintro ⟨b1, b2⟩ s' ⟨hb', q⟩
    simp only at hb'
    subst hb'
    rcases q with ⟨hz, _⟩ | ⟨_, hR⟩
    · cases hz
    · wp_walk
      simpa [Builtin.Tuple.tupleCompareSizes] using hR
  case h =>
    exact ⟨rfl, .inl ⟨rfl, rfl⟩⟩
theorem rc_tup1 {l b : Addr} {u v : Value} {Q : Value → Shared → Prop} (hu : A.units < cLine) (hl : s.heap.IsTuple l #[u]) (hb : s.heap.IsTuple b #[v])
    (h : wpAny (model prog w) A.in1 (eqBool u v) (fun r s' => Q (.bool r) s') E s) : wpAny (model prog w) A (richCompare .Eq (.ref l) (.ref b)) Q E s := by
  obtain ⟨⟨cls, dd, data, sl⟩, ho, hc, n, hd⟩ := id hl
  obtain ⟨⟨cls2, dd2, data2, sl2⟩, ho2, hc2, n2, hd2⟩ := id hb
  simp only at hc hd hc2 hd2
  subst hc hd hc2 hd2
  refine wpAny_richCompare_same_room (op := .Eq) ⟨_, ho, rfl⟩ ⟨_, ho2, rfl⟩ F.slot_tuple_eq (call_here F.slot_tuple_eq ⟨_, ho, rfl⟩ F.entry_tuple_eq (F.args_tuple_eq_2 _ _) ?_) hu
  exact tuple_eq1 (R := wants (fun v s' => v ≠ .notImplemented ∧ Q v s') E) l b u v n n2 dd dd2 sl sl2 ho ho2 (wpAny_mono h (fun r s' q => ⟨(fun x => nomatch x), q⟩) fun _ _ e => e)
end

section
variable {X : Cx} {W : WX} {C f : Addr} {k : Nat} {sp : SpD}
/-- (x,) == (y,), x an instance of C, y an int -/
def rT1 (C : Addr) (sp : SpD) : R2D := fun x y T Q E => match x, y with
  | .tup [a], .tup [.int j] => (slotsD C T a).isSome = true ∧ sp [a, .int j] T (fun r T1 => match r with
    | .bl b => Q (.bl b) T1
    | _ => False) E
  | _, _ => False
theorem od_eqT1 (b : Bd (k + 2) X W) (O : OwnC X.K C) (he : PySem.W.findIn X.K (.ref C) "__eq__" = some (some (.ref f))) (hf : PySem.W.isFn X.K (.ref f) = true) (F : GR X.prog X.w X.K X.mg X.base f k sp) : OpD X W (compareOp .Eq) (rT1 C sp) := by
  intro pins s σ H Q sd T QD ED x y vx vy v u I L r1 k1 r2 k2 q0
  obtain ⟨m, hF⟩ := I.fr
  show wpAny _ _ (richCompare .Eq v u) _ _ _
  unfold rT1 at q0
  split at q0
  case h_2 => exact q0.elim
  rename_i a j
  obtain ⟨hx, q⟩ := q0
  obtain ⟨p1, vs1, rfl, t1, rs1⟩ := r1
  obtain ⟨p2, vs2, rfl, t2, rs2⟩ := r2
  obtain ⟨va, rfl, ra⟩ := rds1 rs1
  obtain ⟨vj, rfl, rj⟩ := rds1 rs2
  cases (show v = Value.ref p1 from k1)
  cases (show u = Value.ref p2 from k2)
  obtain ⟨its, ri, e, _⟩ := I.tuple t1.sq
  obtain ⟨its2, ri2, e2, _⟩ := I.tuple t2.sq
  cases ri with
  | @cons _ w1 _ _ kk1 kn1 =>
  cases kn1
  cases ri2 with
  | @cons _ w2 _ _ kk2 kn2 =>
  cases kn2
  obtain ⟨c, ox, od, rfl, J⟩ := slo_inst I L.ok ra hx
  have rj' : vj = .int j := rj
  subst rj'
  cases (show w1 = Value.ref c from kk1)
  obtain ⟨t, rfl⟩ := (show ∃ t, w2 = Value.int j t from kk2)
  have L2 : LE X.K W σ H (fun v H' => ∃ b, v = .bl b ∧ Q (.bl b) H') sd T (fun r T1 => match r with
      | .bl b => QD (.bl b) T1
      | _ => False) ED := ⟨L.st, L.ok, fun r T' v H' hr rd o' f' => by
    cases r <;> try exact hr.elim
    rename_i b
    have rd' : v = .bl b := rd
    exact ⟨b, rd', L.q _ _ _ _ hr rfl o' f'⟩, L.x⟩
  have run := op_run (A := X.A.in1) (b.le (by omega) : Bd (k + 1) X W) F (.inr rfl) I L2 (RDs.cons ra (RDs.cons rj RDs.nil)) (.cons kk1 (.cons kk2 .nil)) q
  refine rc_tup1 b.hr.units0 e e2 ?_
  unfold eqBool
  refine wpAny_holding (wpAny_ite_split (fun hab => absurd (eq_of_beq hab) nofun) (fun _ => ?_))
  refine wpAny_bind (PySem.W.cmp_K (op := .Eq) (tb := .type "int") (show X.A.in1.units < cLine from (by have := b.hr.un; show X.A.units + 1 < cLine; omega)) hF I.ok.mod.kin J (PySem.W.Looks.of_pure rfl) nf_int he hf (wpAny_mono run (fun w s' z => ?_) fun _ _ e => e))
  obtain ⟨vx, H', I', rv, bb, ev, hq⟩ := z
  subst ev
  obtain rfl : w = Value.bool bb := rv
  exact wpAny_truthy_bool ⟨.bl bb, H', I', rfl, hq⟩
end
end DL
namespace DL
open PySem PySem.Spec PyProof.Rows L2 VX

/-! ### dicts: keys, look-ups -/
def kOf : D → Option Key
  | .int i => some (.inl i)
  | .str x => some (.inr x)
  | _ => none
theorem kOf_V {x : D} {k : Key} {K : PySem.W.Frag} {H : Hp} {T : Td} {vx : V} (e : kOf x = some k) (r : RD K H T x vx) : vx = kV k := by
  cases x <;> simp only [kOf] at e <;> first | (cases e; done) | (cases e; exact r)
def dLook : List Key → List D → Key → Option D
  | a :: ks, d :: ds, k => if a = k then some d else dLook ks ds k
  | _, _, _ => none
theorem dLook_V {K : PySem.W.Frag} {H : Hp} {T : Td} : ∀ {ks : List Key} {ds : List D} {vs : List V} {k : Key}, RDs K H T ds vs → ks.length = vs.length →
    (∀ d, dLook ks ds k = some d → ∃ v, valV (ks.zip vs) k = some v ∧ RD K H T d v) ∧ (dLook ks ds k = none → valV (ks.zip vs) k = none)
  | [], ds, vs, k, r, l => ⟨fun d e => by simp [dLook] at e, fun _ => by simp [valV]⟩
  | a :: ks, [], vs, k, r, l => by
    have r' : vs = [] := r
    subst r'
    cases l
  | a :: ks, d :: ds, vs, k, r, l => by
    obtain ⟨v, ws, rfl, h1, h2⟩ := r
    obtain ⟨i1, i2⟩ := dLook_V (k := k) h2 (by simpa using l)
    unfold dLook
    by_cases e : a = k
    · rw [if_pos e]
      refine ⟨fun d' q => ?_, fun q => by cases q⟩
      cases q
      exact ⟨v, valV_pos e, h1⟩
    · rw [if_neg e]
      refine ⟨fun d' q => ?_, fun q => ?_⟩
      · obtain ⟨u, e1, e2⟩ := i1 d' q
        exact ⟨u, (valV_neg e).trans e1, e2⟩
      · exact (valV_neg e).trans (i2 q)
/-- the pairs of a dict -/
def dctD (T : Td) : D → Option (List Key × List D)
  | .dct ks ds => some (ks, ds)
  | .ref a => match T a with
    | some (.dct ks ds) => some (ks, ds)
    | _ => none
  | _ => none
theorem dctD_V {K : PySem.W.Frag} {H : Hp} {T : Td} {x : D} {vx : V} {ks : List Key} {ds : List D} (o : DOk K H T) (r : RD K H T x vx) (e : dctD T x = some (ks, ds)) :
    ∃ a vs, vx = .ref a ∧ Rd H a (.dK (ks.zip vs)) ∧ ks.length = vs.length ∧ RDs K H T ds vs := by
  cases x <;> simp only [dctD] at e <;> try (cases e; done)
  · rename_i a
    split at e
    · rename_i ks' ds' ht
      cases e
      obtain ⟨vs, h, l, rs⟩ := o a _ ht
      exact ⟨a, vs, r, .inl h, l, rs⟩
    · cases e
  · cases e
    obtain ⟨a, od, vs, e, _, h, l, rs⟩ := r
    exact ⟨a, vs, e, .inr ⟨od, h⟩, l, rs⟩
theorem dget_of {H : Hp} {a : Addr} {kvs : List (Key × V)} (k : Key) (h : Rd H a (.dK kvs)) : DGet H a (kV k) (valV kvs k) := .inl ⟨kvs, k, h, rfl, rfl⟩
section
variable {X : Cx} {W : WX} {j : Nat}
/-- k in d, k not in d -/
def rInD (neg : Bool) : R2D := fun x y T Q _ => match kOf x, dctD T y with
  | some k, some (ks, ds) => Q (.bl (if neg then !(dLook ks ds k).isSome else (dLook ks ds k).isSome)) T
  | _, _ => False
theorem look_some_eq {K : PySem.W.Frag} {H : Hp} {T : Td} {ks : List Key} {ds : List D} {vs : List V} (k : Key) (r : RDs K H T ds vs) (l : ks.length = vs.length) : (valV (ks.zip vs) k).isSome = (dLook ks ds k).isSome := by
  obtain ⟨h1, h2⟩ := dLook_V (k := k) r l
  cases e : dLook ks ds k with
  | none => rw [h2 e]; rfl
  | some d =>
    obtain ⟨v, q, _⟩ := h1 d e
    rw [q]
    rfl
theorem od_inD (b : Bd j X W) : OpD X W (compareOp .In) (rInD false) := by
  intro pins s σ H Q sd T QD ED x y vx vy v u I L r1 k1 r2 k2 q
  unfold rInD at q
  split at q
  · rename_i k ks ds e1 e2
    obtain ⟨a, vs, rfl, h, l, rs⟩ := dctD_V L.ok r2 e2
    have := kOf_V e1 r1
    subst this
    cases (show u = Value.ref a from k2)
    refine d_in (by have := b.hr.un; omega) I (dget_of k h) k1 fun s' I' => ?_
    rw [look_some_eq k rs l]
    exact L.here (x := .bl _) (vx := .bl _) I' rfl rfl q
  · exact q.elim
theorem od_notInD (b : Bd j X W) : OpD X W (compareOp .NotIn) (rInD true) := by
  intro pins s σ H Q sd T QD ED x y vx vy v u I L r1 k1 r2 k2 q
  unfold rInD at q
  split at q
  · rename_i k ks ds e1 e2
    obtain ⟨a, vs, rfl, h, l, rs⟩ := dctD_V L.ok r2 e2
    have := kOf_V e1 r1
    subst this
    cases (show u = Value.ref a from k2)
    refine d_notIn (by have := b.hr.un; omega) I (dget_of k h) k1 fun s' I' => ?_
    rw [look_some_eq k rs l]
    exact L.here (x := .bl _) (vx := .bl _) I' rfl rfl q
  · exact q.elim
/-- d[k] -/
def rIxD : R2D := fun x y T Q _ => match kOf y, dctD T x with
  | some k, some (ks, ds) => match dLook ks ds k with
    | some d => Q d T
    | none => False
  | _, _ => False
theorem ixd_dict (b : Bd j X W) : IxD X W rIxD := by
  intro value slice pins s σ H Q sd T QD ED x y vx vy v u I L r1 k1 r2 k2 q hs
  unfold rIxD at q
  split at q
  · rename_i k ks ds e1 e2
    split at q
    · rename_i d ed
      obtain ⟨a, vs, rfl, h, l, rs⟩ := dctD_V L.ok r1 e2
      have := kOf_V e1 r2
      subst this
      cases (show v = Value.ref a from k1)
      obtain ⟨w, ew, rw'⟩ := (dLook_V (k := k) rs l).1 d ed
      have g : DGet H a (kV k) (some w) := by rw [← ew]; exact dget_of k h
      have hT : s.TypeIs (.ref a) "dict" := dict_typeIs I g
      have h₂ : wpAny (model X.prog X.w) X.A (getItem (.ref a) u) (EP X pins σ Q) X.xe s := d_getItem (by have := b.hr.un; omega) I g k2 fun w' s' I' rv => L.here I' rw' rv q
      unfold subscriptTail
      refine wpAny_bind ?_
      rw [getitemInPython_of_ne hT.not_modules]
      refine wpAny_bind (wpAny_specialOf hT PySem.F.slot_dict_getitem.lookup ?_)
      have fin : wpAny (model X.prog X.w) X.A (subscripted slice false (.ref a) u) (fun r s₃ => wpAny (model X.prog X.w) X.A (letTemporaryGo value (.ref a) r >>= fun _ => pure r) (EP X pins σ Q) X.xe s₃) X.xe s := by
        rw [hs]
        exact wpAny_operating (wpAny_mono h₂ (fun r s₃ h₃ => wpAny_bind (wpAny_letTemporaryGo (wpAny_pure h₃))) fun _ _ x => x)
      first
        | exact wpAny_pure (wpAny_bind fin)
        | exact wpAny_bind (wpAny_pure (wpAny_bind fin))
        | exact wpAny_bind fin
    · exact q.elim
  · exact q.elim
end

/-! ### a dict that is not locked yet is no part of any data -/
section
variable {K : PySem.W.Frag} {H : Hp} {T : Td} {p : Addr} {o : HO} {kvs : List (Key × V)}
theorem ne_dk {a : Addr} {u : HO} (hp : H p = some (.dK kvs)) (h : H a = some u) (hu : ∀ k, u ≠ .dK k) : a ≠ p := fun z => by
  rw [z, hp] at h
  cases h
  exact hu _ rfl
theorem over_at (hp : H p = some (.dK kvs)) {a : Addr} {u : HO} (h : H a = some u) (hu : ∀ k, u ≠ .dK k) : upd H p o a = some u := by
  rw [upd_ne (ne_dk hp h hu)]
  exact h
theorem over_rd (hp : H p = some (.dK kvs)) {a : Addr} {u : HO} (h : Rd H a u) (hu : ∀ k, u ≠ .dK k) : Rd (upd H p o) a u := by
  rcases h with h | ⟨x, h⟩
  · exact .inl (over_at hp h hu)
  · exact .inr ⟨x, over_at hp h fun _ z => (nomatch z)⟩
mutual
theorem RD.over (hp : H p = some (.dK kvs)) : ∀ (d : D) {v : V}, RD K H T d v → RD K (upd H p o) T d v
  | .non, _, h => h
  | .bl _, _, h => h
  | .int _, _, h => h
  | .str _, _, h => h
  | .val _, _, h => h
  | .ref _, _, h => h
  | .tup ds, _, h => by
    obtain ⟨a, vs, e, t, r⟩ := h
    exact ⟨a, vs, e, t.elim (fun q => .inl ⟨q.1, over_rd hp q.2 fun _ z => (nomatch z)⟩) .inr, RDs.over hp ds r⟩
  | .lst ds, _, h => by
    obtain ⟨a, vs, e, t, r⟩ := h
    exact ⟨a, vs, e, t.elim (fun q => .inl ⟨q.1, over_rd hp q.2 fun _ z => (nomatch z)⟩) .inr, RDs.over hp ds r⟩
  | .dct ks ds, _, h => by
    obtain ⟨a, od, vs, e, t, h, l, r⟩ := h
    exact ⟨a, od, vs, e, t, over_at hp h fun _ z => (nomatch z), l, RDs.over hp ds r⟩
  | .slo C ds, _, h => by
    obtain ⟨a, dx, vs, e, t, t2, h2, h1, r⟩ := h
    exact ⟨a, dx, vs, e, t, t2, over_at hp h2 fun _ z => (nomatch z), over_at hp h1 fun _ z => (nomatch z), RDs.over hp ds r⟩
  | .obj C ns ds, _, h => by
    obtain ⟨a, dx, vs, e, t, t2, h2, h1, l, r⟩ := h
    exact ⟨a, dx, vs, e, t, t2, over_at hp h2 fun _ z => (nomatch z), over_at hp h1 fun _ z => (nomatch z), l, RDs.over hp ds r⟩
  | .fn g c q vs ds, _, h => by
    obtain ⟨e, t, h1, r⟩ := h
    exact ⟨e, t, over_at hp h1 fun _ z => (nomatch z), RDs.over hp ds r⟩
  | .exc c ns ds, _, h => by
    obtain ⟨a, d, vs, e, t, t2, h1, h2, l, r⟩ := h
    exact ⟨a, d, vs, e, t, t2, over_at hp h1 fun _ z => (nomatch z), over_at hp h2 fun _ z => (nomatch z), l, RDs.over hp ds r⟩
theorem RDs.over (hp : H p = some (.dK kvs)) : ∀ (ds : List D) {vs : List V}, RDs K H T ds vs → RDs K (upd H p o) T ds vs
  | [], _, h => h
  | d :: ds, _, h => by
    obtain ⟨v, r, e, h1, h2⟩ := h
    exact ⟨v, r, e, RD.over hp d h1, RDs.over hp ds h2⟩
end
theorem DOk.over (hp : H p = some (.dK kvs)) (tp : T p = none) (h : DOk K H T) : DOk K (upd H p o) T := fun a u e => by
  have ne : a ≠ p := fun z => by rw [z, tp] at e; cases e
  have q := h a u e
  cases u with
  | lst ds => obtain ⟨vs, h, r⟩ := q; exact ⟨vs, by rw [upd_ne ne]; exact h, RDs.over hp ds r⟩
  | dct ks ds => obtain ⟨vs, h, l, r⟩ := q; exact ⟨vs, by rw [upd_ne ne]; exact h, l, RDs.over hp ds r⟩
  | ins C ns ds => obtain ⟨dx, vs, h, t, w, l, r⟩ := q; exact ⟨dx, vs, by rw [upd_ne ne]; exact h, t, over_at hp w fun _ z => (nomatch z), l, RDs.over hp ds r⟩
  | slo C ds =>
    obtain ⟨dx, vs, h1, h2, t, l, r⟩ := q
    refine ⟨dx, vs, by rw [upd_ne ne]; exact h1, over_at hp h2 fun _ z => (nomatch z), t, l, fun i d q => ?_⟩
    obtain ⟨v, q1, q2⟩ := r i d q
    exact ⟨v, q1, RD.over hp d q2⟩
  | tbl q' =>
    obtain ⟨ps, h, t, r⟩ := q
    refine ⟨ps, by rw [upd_ne ne]; exact h, t, fun pos cv z => ?_⟩
    obtain ⟨c, e1, e2, e3⟩ := r pos cv z
    exact ⟨c, e1, over_at hp e2 fun _ z => (nomatch z), e3⟩
end
/-! ### a dict that never changes is locked -/
theorem upd_upd {H : Hp} {p : Addr} {a b : HO} : upd (upd H p a) p b = upd H p b := by
  funext c
  by_cases z : c = p
  · rw [z, upd_same, upd_same]
  · rw [upd_ne z, upd_ne z, upd_ne z]
theorem pe_frz {X : Cx} {e : Expr} {t : TE} (h : PE X e t) : PE X e (fun σ H Q => t σ H fun v H' => ∃ p u, v = .ref p ∧ H' p = some (.dK u) ∧ ∀ od, Q v (upd H' p (.frz od (.dK u)))) := by
  refine ⟨fun pins s σ H Q I hq => ?_⟩
  refine wpAny_mono (PE.run h pins s σ H _ I hq) (fun v s' z => ?_) fun _ _ e => e
  obtain ⟨vx, H', I', rv, p, u, ev, hp, q⟩ := z
  obtain ⟨od, I2⟩ := I'.lock hp (True.intro : Mut (some (.dK u)))
  exact ⟨vx, _, I2, rv, q od⟩
theorem cr_frz {X : Cx} {f : Value} {r : List V → Hp → VK → Prop} (h : CallR X f r) : CallR X f (fun xs H Q => r xs H fun v H' => ∃ p u, v = .ref p ∧ H' p = some (.dK u) ∧ ∀ od, Q v (upd H' p (.frz od (.dK u)))) := by
  intro pins s σ H xs us Q I rv hq
  refine wpAny_mono (h pins s σ H xs us _ I rv hq) (fun v s' z => ?_) fun _ _ e => e
  obtain ⟨vx, H', I', rv, p, u, ev, hp, q⟩ := z
  obtain ⟨od, I2⟩ := I'.lock hp (True.intro : Mut (some (.dK u)))
  exact ⟨vx, _, I2, rv, q od⟩
/-- a new dict, as data -/
theorem dct_new {K : PySem.W.Frag} {W : WX} {σ : L2.St} {H H1 : Hp} {Q : VK} {sd : SD} {T T1 : Td} {QD : KD} {ED : XD} {p : Addr} {ks : List Key} {ds : List D} {vs : List V} {kvs : List (Key × V)} (L : LE K W σ H Q sd T QD ED) (o : DOk K H1 T1) (f : Fr H T H1 T1) (hp : H1 p = none) (e : kvs = ks.zip vs) (l : ks.length = vs.length) (r : RDs K H1 T1 ds vs) (q : QD (.dct ks ds) T1) :
    ∃ p' u, V.ref p = .ref p' ∧ (upd H1 p (.dK kvs)) p' = some (.dK u) ∧ ∀ od, Q (.ref p) (upd (upd H1 p (.dK kvs)) p' (.frz od (.dK u))) := by
  subst e
  refine ⟨p, _, rfl, upd_same, fun od => ?_⟩
  rw [upd_upd]
  exact L.q (.dct ks ds) T1 (.ref p) _ q ⟨p, od, vs, rfl, o.fresh hp, upd_same, l, RDs.mono (Fr.laid hp (o.fresh hp)) ds r⟩ (o.laid hp) (f.trans (Fr.laid hp (o.fresh hp)))
section
variable {X : Cx} {W : WX} {pos : Pos} {j : Nat}
theorem de_dict0 : DE X W (.Dict [] [] pos) (dC (.dct [] [])) := PE.imp (pe_frz pe_dnewK) fun σ H Q ⟨sd, T, QD, ED, L, q⟩ p hp =>
  dct_new L L.ok Fr.refl hp (ks := []) (vs := []) (ds := []) rfl rfl rfl q
/-- {} that will be filled -/
def dDictM : TDE := fun _ T Q _ => ∀ p, T p = none → Q (.ref p) (tput T p (.dct [] []))
theorem de_dict0M : DE X W (.Dict [] [] pos) dDictM := PE.imp pe_dnewK fun σ H Q ⟨sd, T, QD, ED, L, q⟩ p hp =>
  L.q (.ref p) _ (.ref p) _ (q p (L.ok.fresh hp)) rfl (L.ok.laidT hp (show DObj X.K _ _ p (.dct [] []) from ⟨[], upd_same, rfl, rfl⟩)) (Fr.laidT hp)
/-- {k: v} -/
def dDict1 (tk tv : TDE) : TDE := fun sd T Q E => tk sd T (fun k T1 => tv sd T1 (fun v T2 => match kOf k with
  | some k => Q (.dct [k] [v]) T2
  | none => False) E) E
def dDict1M (tk tv : TDE) : TDE := fun sd T Q E => tk sd T (fun k T1 => tv sd T1 (fun v T2 => match kOf k with
  | some k => ∀ p, T2 p = none → Q (.ref p) (tput T2 p (.dct [k] [v]))
  | none => False) E) E
theorem merge1 {k : Key} {v : V} : mergeK [] [(k, v)] = [k].zip [v] := rfl
theorem de_dict1 {a b : Expr} {tk tv : TDE} (ha : DE X W a tk) (hb : DE X W b tv) : DE X W (.Dict [some a] [b] pos) (dDict1 tk tv) := by
  refine PE.imp (pe_frz (pe_disp (pps_cons ha hb pps_nil) rfl rfl (by simp) (by show 1 ≤ 15; omega))) fun σ H Q ⟨sd, T, QD, ED, L, q⟩ p hp => ?_
  have f0 : Fr H T (upd H p (.dK [])) T := Fr.laid hp (L.ok.fresh hp)
  refine ⟨sd, T, _, ED, ⟨L.st.mono f0, L.ok.laid hp, fun k T1 vk H1 q1 r1 o1 f1 => ⟨sd, T1, _, ED, ⟨(L.st.mono f0).mono f1, o1, fun v T2 vv H2 q2 r2 o2 f2 => ?_, fun ex T' c da H' a b o f => L.x ex T' c da H' a b o (f0.trans (f1.trans f))⟩, q1⟩, fun ex T' c da H' a b o f => L.x ex T' c da H' a b o (f0.trans f)⟩, q⟩
  have q2' := q2
  split at q2'
  · rename_i k' ek
    have ev := kOf_V ek (RD.mono f2 k r1)
    subst ev
    have F := f0.trans (f1.trans f2)
    have hp2 := (f1.trans f2) p _ upd_same (L.ok.fresh hp)
    refine ⟨hp2.1, [(k', vv)], rfl, by show 1 ≤ 15; omega, p, _, rfl, upd_same, fun od => ?_⟩
    rw [upd_upd, merge1]
    have fw : Fr H T (upd H2 p (.frz od (.dK ([k'].zip [vv])))) T2 := fun c u e n => by
      have z := F c u e n
      have hc : c ≠ p := ne_of_none e hp
      exact ⟨by rw [upd_ne hc]; exact z.1, z.2⟩
    exact L.q (.dct [k'] [v]) T2 (.ref p) _ q2' ⟨p, od, [vv], rfl, hp2.2, upd_same, rfl, RDs.cons (RD.over hp2.1 v r2) RDs.nil⟩ (DOk.over hp2.1 hp2.2 o2) fw
  · exact q2'.elim
end
end DL
namespace DL
open PySem PySem.Spec PyProof.Rows L2 VX

/-! ### dicts walked -/
def keyD : Key → D
  | .inl i => .int i
  | .inr x => .str x
theorem keyD_RD {K : PySem.W.Frag} {H : Hp} {T : Td} (k : Key) : RD K H T (keyD k) (kV k) := by cases k <;> rfl
theorem zip_at {ks : List Key} {vs : List V} (l : ks.length = vs.length) {i : Nat} {k : Key} {v : V} (h : (ks.zip vs)[i]? = some (k, v)) : ks[i]? = some k ∧ vs[i]? = some v := by
  rw [List.getElem?_zip_eq_some] at h
  exact h
section
variable {X : Cx} {W : WX} {tg e : Expr} {te : TDE} {apos cpos : Pos}
def diKeys (te : TDE) : TDI := fun sd T R E => te sd T (fun x T1 => match x with
  | .dct ks _ => R (ks.map keyD) (fun _ => True) T1
  | _ => False) E
theorem di_keys (he : DE X W e te) : DI X W tg e (diKeys te) :=
  PI.imp (pi_keys he) fun σ H R ⟨sd, T, RD', ED, st, ok, hx, hk, q⟩ => ⟨sd, T, _, ED, ⟨st, ok, fun x T1 v H1 k r o f => by
    cases x <;> try exact k.elim
    rename_i ks ds
    obtain ⟨a, od, vs, e, t, h, l, rs⟩ := r
    refine ⟨a, od, e, .inl ⟨_, h, hk _ _ T1 _ H1 k ?_ o f⟩⟩
    intro i H2 T2 f2 o2 _
    have h2 := (f2 a _ h t).1
    have hz : (ks.zip vs).length = ks.length := by rw [List.length_zip]; omega
    refine ⟨fun hi => ?_, fun hi => ⟨h2, by rw [hz]; simpa using hi⟩⟩
    rw [List.length_map] at hi
    refine ⟨⟨h2, by rw [hz]; exact hi⟩, fun x H3 ⟨e3, k, v, hkv, ex⟩ => ?_⟩
    subst e3 ex
    refine ⟨keyD k, ?_, keyD_RD k, o2, Fr.refl⟩
    rw [List.getElem?_map, (zip_at l hkv).1]
    rfl, hx⟩, q⟩
def itemsOf (ks : List Key) (ds : List D) : List D := (ks.zip ds).map fun p => .tup [keyD p.1, p.2]
def diItems (te : TDE) : TDI := fun sd T R E => te sd T (fun x T1 => match x with
  | .dct ks ds => R (itemsOf ks ds) (fun _ => True) T1
  | _ => False) E
theorem di_items {elts : List Expr} {kk : Nat} {tpos : Pos} (he : DE X W e te) (hbase : attributeBase e "items" X.env (eval e X.env) = eval e X.env := by rfl) (hline : (apos.endLine == cpos.line) = true := by rfl) :
    DI X W (.Tuple elts kk tpos) (.Call (.Attribute e "items" apos) [] [] cpos) (diItems te) :=
  PI.imp (pi_items he hbase hline) fun σ H R ⟨sd, T, RD', ED, st, ok, hx, hk, q⟩ => ⟨sd, T, _, ED, ⟨st, ok, fun x T1 v H1 k r o f => by
    cases x <;> try exact k.elim
    rename_i ks ds
    obtain ⟨a, od, vs, e, t, h, l, rs⟩ := r
    refine ⟨a, od, _, e, h, hk _ _ T1 _ H1 k ?_ o f⟩
    intro i H2 T2 f2 o2 _
    have h2 := (f2 a _ h t).1
    have rs2 := RDs.mono f2 ds rs
    have ld := rs2.length
    have hz : (ks.zip vs).length = ks.length := by rw [List.length_zip]; omega
    have hd : (ks.zip ds).length = ks.length := by rw [List.length_zip]; omega
    refine ⟨fun hi => ?_, fun hi => ⟨h2, by rw [hz]; simpa [itemsOf, hd] using hi⟩⟩
    rw [itemsOf, List.length_map, hd] at hi
    refine ⟨⟨h2, by rw [hz]; exact hi⟩, fun x H3 ⟨Ta, k, v, hkv, ex, hT, eH⟩ => ?_⟩
    subst ex eH
    obtain ⟨q1, q2⟩ := zip_at l hkv
    have hdi : ds[i]? = some (ds[i]'(by omega)) := List.getElem?_eq_getElem (by omega)
    obtain ⟨u, e1, e2⟩ := rs2.get hdi
    rw [q2] at e1
    cases e1
    have tn := o2.fresh hT
    refine ⟨.tup [keyD k, ds[i]'(by omega)], ?_, ⟨Ta, [kV k, v], rfl, .inl ⟨tn, .inl upd_same⟩, RDs.cons (keyD_RD k) (RDs.cons (RD.mono (Fr.laid hT tn) _ e2) RDs.nil)⟩, o2.laid hT, Fr.laid hT tn⟩
    rw [itemsOf, List.getElem?_map]
    have : (ks.zip ds)[i]? = some (k, ds[i]'(by omega)) := by rw [List.getElem?_zip_eq_some]; exact ⟨q1, hdi⟩
    rw [this]
    rfl, hx⟩, q⟩
end

/-! ### d[k] = v -/
instance memKey (k : Key) (ks : List Key) : Decidable (k ∈ ks) := @List.instDecidableMemOfLawfulBEq Key instBEqOfDecidableEq _ k ks
def kputK (ks : List Key) (k : Key) : List Key := if k ∈ ks then ks else ks ++ [k]
def kputD {α : Type} (ks : List Key) (ds : List α) (k : Key) (d : α) : List α := if k ∈ ks then List.zipWith (fun a x => if a = k then d else x) ks ds else ds ++ [d]
theorem kput_len {α : Type} {ks : List Key} {ds : List α} (l : ks.length = ds.length) (k : Key) (d : α) : (kputK ks k).length = (kputD ks ds k d).length := by
  unfold kputK kputD
  split
  · rw [List.length_zipWith]; omega
  · rw [List.length_append, List.length_append, l]; rfl
theorem any_mem {α : Type} : ∀ (ks : List Key) (vs : List α) (k : Key), ks.length = vs.length → ((ks.zip vs).any fun p => decide (p.1 = k)) = decide (k ∈ ks)
  | [], _, k, _ => by simp
  | a :: ks, [], k, l => by cases l
  | a :: ks, v :: vs, k, l => by
    rw [List.zip_cons_cons, List.any_cons, any_mem ks vs k (by simpa using l)]
    by_cases h : a = k
    · simp [h]
    · have : ¬ k = a := fun z => h z.symm
      simp [h, this]
theorem put_zip {ks : List Key} {vs : List V} (l : ks.length = vs.length) (k : Key) (v : V) : putK (ks.zip vs) k v = (kputK ks k).zip (kputD ks vs k v) := by
  unfold putK kputK kputD
  rw [any_mem ks vs k l]
  by_cases h : k ∈ ks
  · rw [if_pos (decide_eq_true h), if_pos h, if_pos h]
    clear h
    induction ks generalizing vs with
    | nil => rfl
    | cons a ks ih =>
      cases vs with
      | nil => cases l
      | cons w vs =>
        rw [List.zip_cons_cons, List.map_cons, List.zipWith_cons_cons, List.zip_cons_cons, ih (by simpa using l)]
        by_cases e : a = k <;> simp [e]
  · rw [if_neg (by simpa using h), if_neg h, if_neg h, List.zip_append l]
    rfl
theorem kputD_RD {K : PySem.W.Frag} {H : Hp} {T : Td} {ks : List Key} {ds : List D} {vs : List V} {k : Key} {d : D} {v : V} (l : ks.length = vs.length) (r : RDs K H T ds vs) (rd : RD K H T d v) : RDs K H T (kputD ks ds k d) (kputD ks vs k v) := by
  unfold kputD
  split
  · rename_i h
    clear h
    induction ks generalizing ds vs with
    | nil => exact rfl
    | cons a ks ih =>
      cases ds with
      | nil =>
        have r' : vs = [] := r
        subst r'
        cases l
      | cons x ds =>
        obtain ⟨w, ws, rfl, h1, h2⟩ := r
        rw [List.zipWith_cons_cons, List.zipWith_cons_cons]
        refine RDs.cons ?_ (ih (by simpa using l) h2)
        split
        · exact rd
        · exact h1
  · exact r.append (RDs.cons rd RDs.nil)
section
variable {X : Cx} {W : WX} {j : Nat} {o i e : Expr} {to ti te : TDE} {pos pos' : Pos}
def dPutK (to ti te : TDE) : TDS := fun D sd T => te sd T (fun v T1 => to sd T1 (fun x T2 => ti sd T2 (fun y T3 => match x, kOf y with
  | .ref a, some k => match T3 a with
    | some (.dct ks ds) => ks.length < sizeLine ∧ D.nx sd (tput T3 a (.dct (kputK ks k) (kputD ks ds k v)))
    | _ => False
  | _, _ => False) (fun ex T' => D.xe ex sd T')) (fun ex T' => D.xe ex sd T')) (fun ex T' => D.xe ex sd T')
theorem ds_putK (b : Bd j X W) (ho : DE X W o to) (hi : DE X W i ti) (he : DE X W e te) (hs : swapsWith e (some (.Subscript o i pos')) pos.line X.env = pure false := by rfl) : DS X W (.Assign [.Subscript o i pos'] e pos) (dPutK to ti te) := by
  refine PS.imp (ps_dput (by have := b.hr.un; omega) ho hi he hs) fun De σ H ⟨sd, T, DD, st, ok, L, q⟩ => ?_
  refine ⟨sd, T, _, _, ⟨st, ok, fun v T1 vv H1 k r o1 f1 => ?_, L.exok st⟩, q⟩
  refine ⟨sd, T1, _, _, ⟨st.mono f1, o1, fun x T2 vx H2 k2 r2 o2 f2 => ?_, EXok.go (L.exok st) f1⟩, k⟩
  refine ⟨sd, T2, _, _, ⟨(st.mono f1).mono f2, o2, fun y T3 vy H3 k3 r3 o3 f3 => ?_, EXok.go (EXok.go (L.exok st) f1) f2⟩, k2⟩
  cases x <;> try exact k3.elim
  rename_i a
  split at k3
  · rename_i a' k' e1 e2
    cases e1
    split at k3
    · rename_i ks ds ht
      obtain ⟨vs, hv, l, rs⟩ := o3 a _ ht
      have ev := kOf_V e2 r3
      subst ev
      have r2' : vx = .ref a := r2
      subst r2'
      have hz : (ks.zip vs).length < sizeLine := by rw [List.length_zip]; have := k3.1; omega
      refine ⟨a, _, rfl, DPut.k hv hz, ?_⟩
      rw [put_zip l]
      have fw : Fr H3 T3 (upd H3 a (.dK ((kputK ks k').zip (kputD ks vs k' vv)))) (tput T3 a (.dct (kputK ks k') (kputD ks ds k' v))) := Fr.write ht
      have F := ((f1.trans f2).trans f3).trans fw
      refine L.nx sd _ _ _ k3.2 (st.mono F) (o3.write ht (show DObj X.K _ _ a (.dct _ _) from ⟨kputD ks vs k' vv, upd_same, kput_len l k' vv, ?_⟩)) F
      exact kputD_RD l (RDs.mono fw ds rs) (RD.mono ((f2.trans f3).trans fw) v r)
    · exact k3.elim
  · exact k3.elim
end

/-! ### a name's object changes no more -/
section
variable {X : Cx} {W : WX}
def frzSd (i : Nat) (sd : SD) (T : Td) : Option (SD × Td) := match sd[i]? with
  | some (some (.ref a)) => match T a with
    | some (.dct ks ds) => some (sd.set i (some (.dct ks ds)), tdel T a)
    | some (.lst xs) => some (sd.set i (some (.lst xs)), tdel T a)
    | some (.ins C ns xs) => some (sd.set i (some (.obj C ns xs)), tdel T a)
    | _ => none
  | _ => none
/-- from here on what name i stands for never changes -/
def dFrz (i : Nat) (t : TDS) : TDS := fun D sd T => match frzSd i sd T with
  | some (sd', T') => t D sd' T'
  | none => False
theorem StOk.reset {K : PySem.W.Frag} {H H' : Hp} {T T' : Td} {sd : SD} {σ : L2.St} {i : Nat} {d : D} {v : V} (h : StOk K H T sd σ) (f : Fr H T H' T') (e : σ[i]? = some (some v)) (r : RD K H' T' d v) : StOk K H' T' (sd.set i (some d)) σ := by
  refine ⟨by rw [List.length_set, h.len], fun j x q => ?_⟩
  by_cases hj : j = i
  · subst hj
    by_cases hl : j < sd.length
    · rw [List.getElem?_set_self hl] at q
      cases q
      exact ⟨v, e, r⟩
    · rw [List.getElem?_eq_none (by simpa using hl)] at q
      cases q
  · rw [List.getElem?_set_ne (Ne.symm hj)] at q
    exact (h.mono f).at_ j x q
theorem dss_frz (i : Nat) {rest : List Stmt} {t : TDS} (h : DSs X W rest t) : DSs X W rest (dFrz i t) := by
  refine ⟨fun pins s σ H De I ⟨sd, T, DD, st, ok, L, q⟩ => ?_⟩
  unfold dFrz at q
  split at q
  case h_2 => exact q.elim
  rename_i sd' T' e
  unfold frzSd at e
  split at e
  case h_2 => cases e
  rename_i a ei
  obtain ⟨v, ev, rv⟩ := st.at_ i _ ei
  have rv' : v = .ref a := rv
  subst rv'
  split at e
  · rename_i ks ds ht
    cases e
    obtain ⟨vs, hv, l, rs⟩ := ok a _ ht
    obtain ⟨od, I2⟩ := I.lock hv (True.intro : Mut (some (.dK _)))
    have fr : Fr H T (upd H a (.frz od (.dK (ks.zip vs)))) (tdel T a) := fun b u eb nb => by
      have z : b ≠ a := fun z => by rw [z, ht] at nb; cases nb
      exact ⟨by rw [upd_ne z]; exact eb, by rw [tdel_ne z]; exact nb⟩
    have ok2 : DOk X.K (upd H a (.frz od (.dK (ks.zip vs)))) (tdel T a) := fun b u eb => by
      have z : b ≠ a := fun z => by rw [z, tdel_same] at eb; cases eb
      rw [tdel_ne z] at eb
      exact (ok b u eb).mono fr (upd_ne z)
    exact PSs.run h pins s σ _ De I2 ⟨_, _, DD, StOk.reset (d := .dct ks ds) st fr ev ⟨a, od, vs, rfl, tdel_same, upd_same, l, RDs.mono fr ds rs⟩, ok2, L.go fr, q⟩
  · rename_i xs ht
    cases e
    obtain ⟨vs, hv, rs⟩ := ok a _ ht
    exact PSs.run h pins s σ _ De I ⟨_, _, DD, StOk.reset (d := .lst xs) st Fr.free ev ⟨a, vs, rfl, .inl ⟨tdel_same, .inl hv⟩, RDs.mono Fr.free xs rs⟩, ok.free, L.go Fr.free, q⟩
  · rename_i C ns xs ht
    cases e
    obtain ⟨dx, vs, hv, tx, hx, l, rs⟩ := ok a _ ht
    exact PSs.run h pins s σ _ De I ⟨_, _, DD, StOk.reset (d := .obj C ns xs) st Fr.free ev ⟨a, dx, vs, rfl, tdel_same, tdel_none tx, hx, hv, l, RDs.mono Fr.free xs rs⟩, ok.free, L.go Fr.free, q⟩
  · cases e
end
end DL
namespace DL
open PySem PySem.Spec PyProof.Rows L2 VX

/-! ### slices -/
abbrev TDO := SD → Td → (Option Int → Td → Prop) → XD → Prop
structure LO (K : PySem.W.Frag) (W : WX) (σ : L2.St) (H : Hp) (Q : Option Int → Hp → Prop) (sd : SD) (T : Td) (QD : Option Int → Td → Prop) (ED : XD) : Prop where
  st : StOk K H T sd σ
  ok : DOk K H T
  q : ∀ x T' H', QD x T' → DOk K H' T' → Fr H T H' T' → Q x H'
  x : ∀ ex T' c da H', ED ex T' → XR K H' T' ex c da → DOk K H' T' → Fr H T H' T' → W c da σ H'
def liftO (K : PySem.W.Frag) (W : WX) (d : TDO) : TO := fun σ H Q => ∃ sd T QD ED, LO K W σ H Q sd T QD ED ∧ d sd T QD ED
def DPart (X : Cx) (W : WX) (e : Option Expr) (d : TDO) : Prop := PO X e (liftO X.K W d)
theorem _root_.L2.PO.imp {X : Cx} {e : Option Expr} {t t' : TO} (h : PO X e t) (i : ∀ σ H Q, t' σ H Q → t σ H Q) : PO X e t' := ⟨fun pins s σ H Q I q => h.run pins s σ H Q I (i σ H Q q)⟩
def dNoPart : TDO := fun _ T Q _ => Q none T
def dPart (te : TDE) : TDO := fun sd T Q E => te sd T (fun x T1 => match x with
  | .int i => Q (some i) T1
  | _ => False) E
def cutD {α : Type} (xs : List α) (lo hi : Option Int) : List α := (xs.drop (HT.sIx xs.length 0 lo)).take (HT.sIx xs.length xs.length hi - HT.sIx xs.length 0 lo)
theorem cutD_V {K : PySem.W.Frag} {H : Hp} {T : Td} {ds : List D} {vs : List V} (lo hi : Option Int) (r : RDs K H T ds vs) : RDs K H T (cutD ds lo hi) (cutV vs lo hi) := by
  unfold cutD cutV
  rw [r.length]
  exact (r.drop _).take _
def rSl : D → Option Int → Option Int → Td → KD → Prop := fun x lo hi T Q => match x with
  | .str z => z.length ≤ sizeLine ∧ Q (.str (cutS z lo hi)) T
  | .tup xs => Q (.tup (cutD xs lo hi)) T
  | .lst xs => Q (.lst (cutD xs lo hi)) T
  | .ref a => match T a with
    | some (.lst xs) => Q (.lst (cutD xs lo hi)) T
    | _ => False
  | _ => False
def dSl (te : TDE) (tl th : TDO) : TDE := fun sd T Q E => te sd T (fun x T1 => tl sd T1 (fun l T2 => th sd T2 (fun u T3 => rSl x l u T3 Q) E) E) E
section
variable {X : Cx} {W : WX} {e : Expr} {te : TDE} {lo hi : Option Expr} {tl th : TDO} {pos p2 : Pos}
theorem dp_none : DPart X W none dNoPart := PO.imp po_none fun σ H Q ⟨sd, T, QD, ED, L, q⟩ => L.q none T H q L.ok Fr.refl
theorem dp_some (h : DE X W e te) : DPart X W (some e) (dPart te) := PO.imp (po_some h) fun σ H Q ⟨sd, T, QD, ED, L, q⟩ => ⟨sd, T, _, ED, ⟨L.st, L.ok, fun x T1 v H1 k r o f => by
  cases x <;> try exact k.elim
  rename_i i
  exact ⟨i, r, L.q (some i) T1 H1 k o f⟩, L.x⟩, q⟩
theorem de_slice (he : DE X W e te) (hl : DPart X W lo tl) (hu : DPart X W hi th) : DE X W (.Subscript e (.Slice lo hi none p2) pos) (dSl te tl th) :=
  PE.imp (pe_slice (SlR.or sl_str (SlR.or sl_tupA sl_list)) he hl hu) fun σ H Q ⟨sd, T, QD, ED, L, q⟩ => ⟨sd, T, _, ED, ⟨L.st, L.ok, fun x T1 v H1 k r o f => ⟨sd, T1, _, ED, ⟨L.st.mono f, o, fun l T2 H2 k2 o2 f2 => ⟨sd, T2, _, ED, ⟨(L.st.mono f).mono f2, o2, fun u T3 H3 k3 o3 f3 => by
    have r3 := RD.mono (f2.trans f3) x r
    have F := f.trans (f2.trans f3)
    cases x <;> try exact k3.elim
    · rename_i z
      exact .inl ⟨z, r3, k3.1, L.q _ T3 _ H3 k3.2 rfl o3 F⟩
    · rename_i a
      simp only [rSl] at k3
      split at k3
      · rename_i xs ht
        obtain ⟨vs, hv, rs⟩ := o3 a _ ht
        exact .inr (.inr ⟨a, vs, r3, SqL.of hv, fun p hp => L.q _ T3 (.ref p) _ k3 ⟨p, _, rfl, .inl ⟨o3.fresh hp, .inl upd_same⟩, RDs.mono (Fr.laid hp (o3.fresh hp)) _ (cutD_V l u rs)⟩ (o3.laid hp) (F.trans (Fr.laid hp (o3.fresh hp)))⟩)
      · exact k3.elim
    · rename_i xs
      obtain ⟨a, vs, e, t, rs⟩ := r3
      refine .inr (.inl ⟨a, vs, e, t.sq, fun hw => ?_, fun hw p hp => ?_⟩)
      · have ew : cutV vs l u = vs := by
          unfold cutV
          rw [hw.1, hw.2, List.drop_zero]
          simp
        refine L.q _ T3 (.ref a) H3 k3 ⟨a, vs, rfl, t, ?_⟩ o3 F
        have := cutD_V l u rs
        rwa [ew] at this
      · exact L.q _ T3 (.ref p) _ k3 ⟨p, _, rfl, .inl ⟨o3.fresh hp, .inl upd_same⟩, RDs.mono (Fr.laid hp (o3.fresh hp)) _ (cutD_V l u rs)⟩ (o3.laid hp) (F.trans (Fr.laid hp (o3.fresh hp)))
    · rename_i xs
      obtain ⟨a, vs, e, t, rs⟩ := r3
      exact .inr (.inr ⟨a, vs, e, t.sq, fun p hp => L.q _ T3 (.ref p) _ k3 ⟨p, _, rfl, .inl ⟨o3.fresh hp, .inl upd_same⟩, RDs.mono (Fr.laid hp (o3.fresh hp)) _ (cutD_V l u rs)⟩ (o3.laid hp) (F.trans (Fr.laid hp (o3.fresh hp)))⟩),
    fun ex T' c da H' a b o' f' => L.x ex T' c da H' a b o' (f.trans (f2.trans f'))⟩, k2⟩, fun ex T' c da H' a b o' f' => L.x ex T' c da H' a b o' (f.trans f')⟩, k⟩, L.x⟩, q⟩
end

/-! ### methods of texts -/
section
variable {X : Cx} {W : WX} {o e : Expr} {to te : TDE} {apos pos : Pos}
theorem strs_lst {K : PySem.W.Frag} {H : Hp} {T : Td} {p : Addr} {ys : List Str} (o : DOk K H T) (hp : H p = none) : RD K (upd H p (.lst (ys.map V.str))) T (.lst (ys.map D.str)) (.ref p) :=
  ⟨p, _, rfl, .inl ⟨o.fresh hp, .inl upd_same⟩, strs_RD ys⟩
def dSplit (to te : TDE) : TDE := fun sd T Q E => to sd T (fun x T1 => te sd T1 (fun y T2 => match x, y with
  | .str a, .str b => (b.length == 0) = false ∧ a.length + 2 ≤ sizeLine ∧ Q (.lst ((Txt.split a b).map D.str)) T2
  | _, _ => False) E) E
theorem isstr_str {K : PySem.W.Frag} {H : Hp} {T : Td} {a : Str} {v : V} (r : RD K H T (.str a) v) : ∃ a, v = .str a := ⟨a, r⟩
/-- the receiver is a text -/
def isS : D → Bool
  | .str _ => true
  | _ => false
def dM1S (r : D → D → Td → KD → Prop) (to te : TDE) : TDE := fun sd T Q E => to sd T (fun x T1 => isS x = true ∧ te sd T1 (fun y T2 => r x y T2 Q) E) E
def rSplit : D → D → Td → KD → Prop := fun x y T Q => match x, y with
  | .str a, .str b => (b.length == 0) = false ∧ a.length + 2 ≤ sizeLine ∧ Q (.lst ((Txt.split a b).map D.str)) T
  | _, _ => False
theorem isS_V {K : PySem.W.Frag} {H : Hp} {T : Td} {x : D} {v : V} (h : isS x = true) (r : RD K H T x v) : ∃ a, v = .str a := by
  cases x <;> first | (cases h; done) | exact ⟨_, r⟩
theorem de_split (ho : DE X W o to) (he : DE X W e te) (hs : starEach [e] X.env = [(false, eval e X.env)] := by rfl) (hbase : attributeBase o "split" X.env (eval o X.env) = eval o X.env := by rfl) (hline : (apos.endLine == pos.line) = true := by rfl) :
    DE X W (.Call (.Attribute o "split" apos) [e] [] pos) (dM1S rSplit to te) :=
  PE.imp (pe_split ho he hs hbase hline) fun σ H Q ⟨sd, T, QD, ED, L, q⟩ => ⟨sd, T, _, ED, ⟨L.st, L.ok, fun x T1 v H1 k r o1 f1 => ⟨isS_V k.1 r, sd, T1, _, ED, ⟨L.st.mono f1, o1, fun y T2 w H2 k2 r2 o2 f2 => by
    have r' := RD.mono f2 x r
    unfold rSplit at k2
    split at k2
    · rename_i a b
      exact ⟨a, b, r', by rw [show w = .str b from r2], k2.1, k2.2.1, fun p hp => L.q _ T2 (.ref p) _ k2.2.2 (strs_lst o2 hp) (o2.laid hp) ((f1.trans f2).trans (Fr.laid hp (o2.fresh hp)))⟩
    · exact k2.elim, fun ex T' c da H' a b o' f' => L.x ex T' c da H' a b o' (f1.trans f')⟩, k.2⟩, L.x⟩, q⟩
/-- the texts of a list or tuple -/
def strsOf : List D → Option (List Str)
  | [] => some []
  | .str a :: xs => (strsOf xs).map (a :: ·)
  | _ => none
theorem strsOf_eq : ∀ {xs : List D} {ys : List Str}, strsOf xs = some ys → xs = ys.map D.str
  | [], _, e => by cases e; rfl
  | x :: xs, _, e => by
    cases x <;> simp only [strsOf] at e <;> try (cases e; done)
    rename_i a
    cases q : strsOf xs with
    | none => rw [q] at e; cases e
    | some zs =>
      rw [q] at e
      cases e
      rw [strsOf_eq q]
      rfl
def rJoin : D → D → Td → KD → Prop := fun x y T Q => match x, itemsD T y with
  | .str a, some xs => match strsOf xs with
    | some ys => (ys.map (·.length)).sum + ys.length * a.length ≤ 16777216 ∧ Q (.str (Txt.join a ys)) T
    | none => False
  | _, _ => False
theorem items_Sq {H : Hp} {T : Td} {x : D} {vx : V} {ds : List D} (o : DOk X.K H T) (r : RD X.K H T x vx) (e : itemsD T x = some ds) : ∃ a vs, vx = .ref a ∧ (SqL X.K H a vs ∨ SqT X.K H a vs) ∧ RDs X.K H T ds vs := by
  cases x <;> simp only [itemsD] at e <;> try (cases e; done)
  · rename_i a
    split at e
    · rename_i xs ht
      cases e
      obtain ⟨vs, h, rs⟩ := o a _ ht
      exact ⟨a, vs, r, .inl (SqL.of h), rs⟩
    · cases e
  · cases e
    obtain ⟨a, vs, e, t, rs⟩ := r
    exact ⟨a, vs, e, .inr t.sq, rs⟩
  · cases e
    obtain ⟨a, vs, e, t, rs⟩ := r
    exact ⟨a, vs, e, .inl t.sq, rs⟩
theorem de_join (ho : DE X W o to) (he : DE X W e te) (hs : starEach [e] X.env = [(false, eval e X.env)] := by rfl) (hbase : attributeBase o "join" X.env (eval o X.env) = eval o X.env := by rfl) (hline : (apos.endLine == pos.line) = true := by rfl) :
    DE X W (.Call (.Attribute o "join" apos) [e] [] pos) (dM1S rJoin to te) :=
  PE.imp (pe_join ho he hs hbase hline) fun σ H Q ⟨sd, T, QD, ED, L, q⟩ => ⟨sd, T, _, ED, ⟨L.st, L.ok, fun x T1 v H1 k r o1 f1 => ⟨isS_V k.1 r, sd, T1, _, ED, ⟨L.st.mono f1, o1, fun y T2 w H2 k2 r2 o2 f2 => by
    have r' := RD.mono f2 x r
    unfold rJoin at k2
    split at k2
    · rename_i a xs ei
      split at k2
      · rename_i ys ey
        obtain ⟨p, vs, rfl, hq, rs⟩ := items_Sq o2 r2 ei
        have e1 := strsOf_eq ey
        subst e1
        have e2 := strs_eq rs
        subst e2
        exact ⟨a, p, ys, r', rfl, hq, k2.1, L.q _ T2 _ H2 k2.2 rfl o2 (f1.trans f2)⟩
      · exact k2.elim
    · exact k2.elim, fun ex T' c da H' a b o' f' => L.x ex T' c da H' a b o' (f1.trans f')⟩, k.2⟩, L.x⟩, q⟩
end

/-! ### int(text), list(..), tuple(..), len -/
section
variable {X : Cx} {W : WX}
def rIntS : RAD := fun xs T Q _ => match xs with
  | [.str a] => match PySem.intText? a with
    | some n => a.length ≤ 640 ∧ Q (.int n) T
    | none => False
  | [.int i] => Q (.int i) T
  | [.bl b] => Q (.int (if b then 1 else 0)) T
  | _ => False
theorem cd_intS : CallD X W (.type "int") rIntS := fun pins s σ H Q sd T QD ED xs vs us I L rs rv h => by
  unfold rIntS at h
  split at h
  · rename_i a
    split at h
    · rename_i n e
      obtain ⟨v, rfl, r⟩ := rds1 rs
      have r' : v = .str a := r
      subst r'
      exact call_int_str pins s σ H _ us Q I rv ⟨a, n, rfl, e, h.1, L.q _ T _ H h.2 rfl L.ok Fr.refl⟩
    · exact h.elim
  · rename_i i
    exact cd_int pins s σ H Q sd T QD ED _ vs us I L rs rv h
  · rename_i b
    exact cd_int pins s σ H Q sd T QD ED _ vs us I L rs rv h
  · exact h.elim
/-- list(x) of a list, a tuple -/
def rList : RAD := fun xs T Q _ => match xs with
  | [x] => match itemsD T x with
    | some ys => Q (.lst ys) T
    | none => False
  | _ => False
def rListM : RAD := fun xs T Q _ => match xs with
  | [x] => match itemsD T x with
    | some ys => ∀ p, T p = none → Q (.ref p) (tput T p (.lst ys))
    | none => False
  | _ => False
theorem cd_list : CallD X W (.type "list") rList := CallD.of call_list_of fun σ H Q sd T QD ED xs vs L rs h => by
  unfold rList at h
  split at h
  · split at h
    · rename_i ys e
      obtain ⟨v, rfl, r⟩ := rds1 rs
      obtain ⟨p, ws, rfl, hq, rw'⟩ := items_Sq L.ok r e
      exact ⟨p, ws, rfl, hq, fun l hl => L.q _ T (.ref l) _ h ⟨l, ws, rfl, .inl ⟨L.ok.fresh hl, .inl upd_same⟩, RDs.mono (Fr.laid hl (L.ok.fresh hl)) _ rw'⟩ (L.ok.laid hl) (Fr.laid hl (L.ok.fresh hl))⟩
    · exact h.elim
  · exact h.elim
theorem cd_listM : CallD X W (.type "list") rListM := CallD.of call_list_of fun σ H Q sd T QD ED xs vs L rs h => by
  unfold rListM at h
  split at h
  · split at h
    · rename_i ys e
      obtain ⟨v, rfl, r⟩ := rds1 rs
      obtain ⟨p, ws, rfl, hq, rw'⟩ := items_Sq L.ok r e
      exact ⟨p, ws, rfl, hq, fun l hl => L.q (.ref l) _ (.ref l) _ (h l (L.ok.fresh hl)) rfl (L.ok.laidT hl (show DObj X.K _ _ l (.lst ys) from ⟨ws, upd_same, RDs.mono (Fr.laidT hl) _ rw'⟩)) (Fr.laidT hl)⟩
    · exact h.elim
  · exact h.elim
theorem itemsD_cases {T : Td} {x : D} {ys : List D} (e : itemsD T x = some ys) : (∃ a, x = .ref a ∧ T a = some (.lst ys)) ∨ x = .tup ys ∨ x = .lst ys := by
  cases x <;> simp only [itemsD] at e <;> try (cases e; done)
  · rename_i a
    split at e
    · rename_i zs ht
      cases e
      exact .inl ⟨a, rfl, ht⟩
    · cases e
  · cases e
    exact .inr (.inl rfl)
  · cases e
    exact .inr (.inr rfl)
def rTuple : RAD := fun xs T Q _ => match xs with
  | [x] => match itemsD T x with
    | some ys => Q (.tup ys) T
    | none => False
  | _ => False
theorem cd_tuple : CallD X W (.type "tuple") rTuple := CallD.of call_tuple_of fun σ H Q sd T QD ED xs vs L rs h => by
  unfold rTuple at h
  split at h
  · split at h
    · rename_i ys e
      obtain ⟨v, rfl, r⟩ := rds1 rs
      have mk : ∀ (p : Addr) (ws : List V), SqL X.K H p ws → RDs X.K H T ys ws → v = .ref p → _ := fun p ws hq rw' ev => (⟨p, ws, by rw [ev], .inl ⟨hq, fun l hl => L.q (.tup ys) T (.ref l) _ h ⟨l, ws, rfl, .inl ⟨L.ok.fresh hl, .inl upd_same⟩, RDs.mono (Fr.laid hl (L.ok.fresh hl)) _ rw'⟩ (L.ok.laid hl) (Fr.laid hl (L.ok.fresh hl))⟩⟩ : ∃ p ys, [v] = [V.ref p] ∧ ((SqL X.K H p ys ∧ ∀ l, H l = none → Q (.ref l) (upd H l (.tup ys))) ∨ (SqT X.K H p ys ∧ Q (.ref p) H)))
      rcases itemsD_cases e with ⟨a, rfl, ht⟩ | rfl | rfl
      · obtain ⟨ws, hv, rw'⟩ := L.ok a _ ht
        exact mk a ws (SqL.of hv) rw' r
      · have r0 := r
        obtain ⟨a, ws, e, t, rw'⟩ := r
        subst e
        exact ⟨a, ws, rfl, .inr ⟨t.sq, L.q _ T _ H h r0 L.ok Fr.refl⟩⟩
      · obtain ⟨a, ws, e, t, rw'⟩ := r
        exact mk a ws t.sq rw' e
    · exact h.elim
  · exact h.elim
/-- len of a list, a tuple, a text, a dict -/
def rLenU : RAD := fun xs T Q E => match xs with
  | [.str a] => a.length ≤ sizeLine ∧ Q (.int a.length) T
  | [x] => match dctD T x with
    | some (ks, ds) => Q (.int ks.length) T
    | none => rLenQ [x] T Q E
  | _ => False
theorem cd_lenU : CallD X W (.builtin "len") rLenU := fun pins s σ H Q sd T QD ED xs vs us I L rs rv h => by
  unfold rLenU at h
  split at h
  · rename_i a
    obtain ⟨v, rfl, r⟩ := rds1 rs
    have r' : v = .str a := r
    subst r'
    exact call_len_str pins s σ H _ us Q I rv ⟨a, rfl, h.1, L.q _ T _ H h.2 rfl L.ok Fr.refl⟩
  · rename_i x _
    split at h
    · rename_i ks ds e
      obtain ⟨v, rfl, r⟩ := rds1 rs
      obtain ⟨a, ws, rfl, hd, l, rw'⟩ := dctD_V L.ok r e
      cases rv with
      | @cons _ u _ _ k1 k2 =>
      cases k2
      cases (show u = Value.ref a from k1)
      refine d_len I hd fun t s' I' => ?_
      have : (ks.zip ws).length = ks.length := by rw [List.length_zip]; omega
      rw [this]
      exact L.here (x := .int _) (vx := .int _) I' rfl ⟨t, rfl⟩ h
    · exact cd_len pins s σ H Q sd T QD ED _ vs us I L rs rv h
  · exact h.elim
end

/-! ### texts walked, in texts -/
section
variable {X : Cx} {W : WX} {tg e : Expr} {te : TDE}
def diStr (te : TDE) : TDI := fun sd T R E => te sd T (fun x T1 => match x with
  | .str z => R (signsD z) (fun _ => True) T1
  | _ => False) E
theorem di_str (he : DE X W e te) : DI X W tg e (diStr te) :=
  PI.imp (pi_str he) fun σ H R ⟨sd, T, RD', ED, st, ok, hx, hk, q⟩ => ⟨sd, T, _, ED, ⟨st, ok, fun x T1 v H1 k r o f => by
    cases x <;> try exact k.elim
    rename_i z
    refine ⟨z, r, hk _ _ T1 _ H1 k ?_ o f⟩
    intro i H2 T2 f2 o2 _
    have hl : (signsD z).length = z.cps.size := by unfold signsD; rw [List.length_map, Array.length_toList]
    refine ⟨fun hi => ⟨by rw [hl] at hi; exact hi, fun x H3 ⟨e3, c, hc, ex⟩ => ?_⟩, fun hi => by rw [hl] at hi; exact hi⟩
    subst e3 ex
    refine ⟨.str ⟨#[c]⟩, ?_, rfl, o2, Fr.refl⟩
    unfold signsD
    rw [List.getElem?_map, Array.getElem?_toList, hc]
    rfl, hx⟩, q⟩
/-- one sign in a text -/
def rSign (neg : Bool) : R2D := fun x y T Q _ => match x, y with
  | .str a, .str z => ∃ c, a = ⟨#[c]⟩ ∧ Q (.bl (if neg then !decide (c ∈ z.cps.toList) else decide (c ∈ z.cps.toList))) T
  | _, _ => False
theorem od_sign : OpD X W (compareOp .In) (rSign false) := OpD.of op_in_sign fun σ H Q sd T QD ED x y vx vy L r1 r2 h => by
  unfold rSign at h
  split at h
  · rename_i a z
    obtain ⟨c, rfl, q⟩ := h
    exact ⟨c, z, r1, r2, L.q _ T _ H q rfl L.ok Fr.refl⟩
  · exact h.elim
theorem od_notSign : OpD X W (compareOp .NotIn) (rSign true) := OpD.of op_notIn_sign fun σ H Q sd T QD ED x y vx vy L r1 r2 h => by
  unfold rSign at h
  split at h
  · rename_i a z
    obtain ⟨c, rfl, q⟩ := h
    exact ⟨c, z, r1, r2, L.q _ T _ H q rfl L.ok Fr.refl⟩
  · exact h.elim
/-- flat data in a list or tuple of flat data -/
def flatD : D → Option V
  | .non => some .non
  | .bl b => some (.bl b)
  | .int i => some (.int i)
  | .str x => some (.str x)
  | _ => none
def flatDs : List D → Option (List V)
  | [] => some []
  | x :: xs => match flatD x, flatDs xs with
    | some v, some vs => some (v :: vs)
    | _, _ => none
theorem flatD_V {K : PySem.W.Frag} {H : Hp} {T : Td} {x : D} {v vx : V} (e : flatD x = some v) (r : RD K H T x vx) : vx = v ∧ flatV v = true := by
  cases x <;> simp only [flatD] at e <;> first | (cases e; done) | (cases e; exact ⟨r, rfl⟩)
theorem flatDs_V {K : PySem.W.Frag} {H : Hp} {T : Td} : ∀ {xs : List D} {vs ws : List V}, flatDs xs = some vs → RDs K H T xs ws → ws = vs ∧ vs.all flatV = true
  | [], _, _, e, r => by
    cases e
    exact ⟨r, rfl⟩
  | x :: xs, _, _, e, r => by
    unfold flatDs at e
    split at e
    · rename_i v vs e1 e2
      cases e
      obtain ⟨w, ws, rfl, h1, h2⟩ := r
      obtain ⟨a1, a2⟩ := flatD_V e1 h1
      obtain ⟨b1, b2⟩ := flatDs_V e2 h2
      subst a1 b1
      exact ⟨rfl, by rw [List.all_cons, a2, b2]; rfl⟩
    · cases e
def rInF (neg : Bool) : R2D := fun x y T Q _ => match flatD x, itemsD T y with
  | some v, some ys => match flatDs ys with
    | some ws => Q (.bl (if neg then !inV v ws else inV v ws)) T
    | none => False
  | _, _ => False
theorem rInF_of {H : Hp} {Q : VK} {W : WX} {σ : L2.St} {sd : SD} {T : Td} {QD : KD} {ED : XD} {x y : D} {vx vy : V} {neg : Bool} (L : LE X.K W σ H Q sd T QD ED) (r1 : RD X.K H T x vx) (r2 : RD X.K H T y vy) (h : rInF neg x y T QD ED) : rIn X.K neg vx vy H Q := by
  unfold rInF at h
  split at h
  · rename_i v ys e1 e2
    split at h
    · rename_i ws e3
      obtain ⟨p, vs, rfl, hq, rs⟩ := items_Sq L.ok r2 e2
      obtain ⟨a1, a2⟩ := flatD_V e1 r1
      obtain ⟨b1, b2⟩ := flatDs_V e3 rs
      subst a1 b1
      exact ⟨p, vs, rfl, hq, a2, b2, L.q _ T _ H h rfl L.ok Fr.refl⟩
    · exact h.elim
  · exact h.elim
theorem od_inF : OpD X W (compareOp .In) (rInF false) := OpD.of op_in_seq fun σ H Q sd T QD ED x y vx vy L r1 r2 h => rInF_of L r1 r2 h
theorem od_notInF : OpD X W (compareOp .NotIn) (rInF true) := OpD.of op_notIn_seq fun σ H Q sd T QD ED x y vx vy L r1 r2 h => rInF_of L r1 r2 h
end
end DL
namespace DL
open PySem PySem.Spec PyProof.Rows L2 VX

/-! ### == of plain nested data -/
mutual
def pyD (T : Td) : D → Option PyData
  | .non => some .none
  | .bl b => some (.bool b)
  | .int i => some (.int i)
  | .str x => some (.str x)
  | .tup xs => (pyDs T xs).map .tuple
  | .lst xs => (pyDs T xs).map .list
  | _ => none
def pyDs (T : Td) : List D → Option (List PyData)
  | [] => some []
  | x :: xs => match pyD T x, pyDs T xs with
    | some d, some ds => some (d :: ds)
    | _, _ => none
end
mutual
theorem pyD_V {K : PySem.W.Frag} {H : Hp} {T : Td} : ∀ {x : D} {d : PyData} {v : V}, pyD T x = some d → RD K H T x v → Dp K H v d
  | .non, _, _, e, r => by cases e; have r' : _ = V.non := r; subst r'; exact .non
  | .bl b, _, _, e, r => by cases e; have r' : _ = V.bl b := r; subst r'; exact .bl b
  | .int i, _, _, e, r => by cases e; have r' : _ = V.int i := r; subst r'; exact .int i
  | .str x, _, _, e, r => by cases e; have r' : _ = V.str x := r; subst r'; exact .str x
  | .tup xs, _, _, e, r => by
    obtain ⟨a, vs, rfl, t, rs⟩ := r
    unfold pyD at e
    cases q : pyDs T xs with
    | none => rw [q] at e; cases e
    | some ds =>
      rw [q] at e
      cases e
      exact .tup t.sq (pyDs_V q rs)
  | .lst xs, _, _, e, r => by
    obtain ⟨a, vs, rfl, t, rs⟩ := r
    unfold pyD at e
    cases q : pyDs T xs with
    | none => rw [q] at e; cases e
    | some ds =>
      rw [q] at e
      cases e
      exact .lst t.sq (pyDs_V q rs)
  | .val _, _, _, e, _ => by cases e
  | .ref _, _, _, e, _ => by cases e
  | .dct _ _, _, _, e, _ => by cases e
  | .slo _ _, _, _, e, _ => by cases e
  | .obj _ _ _, _, _, e, _ => by cases e
  | .exc _ _ _, _, _, e, _ => by cases e
  | .fn _ _ _ _ _, _, _, e, _ => by cases e
theorem pyDs_V {K : PySem.W.Frag} {H : Hp} {T : Td} : ∀ {xs : List D} {ds : List PyData} {vs : List V}, pyDs T xs = some ds → RDs K H T xs vs → DpAll K H vs ds
  | [], _, _, e, r => by
    cases e
    have r' : _ = ([] : List V) := r
    subst r'
    exact .nil
  | x :: xs, _, _, e, r => by
    obtain ⟨v, ws, rfl, h1, h2⟩ := r
    unfold pyDs at e
    split at e
    · rename_i d ds e1 e2
      cases e
      exact .cons (pyD_V e1 h1) (pyDs_V e2 h2)
    · cases e
end
section
variable {X : Cx} {W : WX} {k : Nat}
def rEqN (g : Bool → Bool) : R2D := fun x y T Q _ => match pyD T x, pyD T y with
  | some d, some e => SeqAt.shaped d = true ∧ SeqAt.shaped e = true ∧ Q (.bl (g (PyData.eqv d e))) T
  | _, _ => False
theorem od_eqN (b : Bd k X W) : OpD X W (compareOp .Eq) (rEqN id) := OpD.of (op_eqD b.hr.units) fun σ H Q sd T QD ED x y vx vy L r1 r2 h => by
  unfold rEqN at h
  split at h
  · rename_i d e e1 e2
    exact ⟨d, e, pyD_V e1 r1, pyD_V e2 r2, h.1, h.2.1, L.q _ T _ H h.2.2 rfl L.ok Fr.refl⟩
  · exact h.elim
theorem od_neN (b : Bd k X W) : OpD X W (compareOp .NotEq) (rEqN (!·)) := OpD.of (op_neD b.hr.units) fun σ H Q sd T QD ED x y vx vy L r1 r2 h => by
  unfold rEqN at h
  split at h
  · rename_i d e e1 e2
    exact ⟨d, e, pyD_V e1 r1, pyD_V e2 r2, h.1, h.2.1, L.q _ T _ H h.2.2 rfl L.ok Fr.refl⟩
  · exact h.elim
end

/-! ### starred items and targets -/
section
variable {X : Cx} {W : WX} {e : Expr} {es : List Expr} {te : TDE} {t : TDA} {p pos : Pos}
def dStar (te : TDE) (t : TDA) : TDA := fun sd T Q E => te sd T (fun x T1 => ∃ ys, itemsD T1 x = some ys ∧ t sd T1 (fun xs T2 => Q (ys ++ xs) T2) E) E
theorem da_star (he : DE X W e te) (hr : DA X W es t) (hs : starEach (.Starred e p :: es) X.env = (true, eval e X.env) :: starEach es X.env := by rfl) : DA X W (.Starred e p :: es) (dStar te t) :=
  PA.imp (StX.pa_star he hr hs) fun σ H Q ⟨sd, T, QD, ED, L, q⟩ => ⟨sd, T, _, ED, ⟨L.st, L.ok, fun x T1 v H1 k r o f => by
    obtain ⟨ys, ey, k⟩ := k
    obtain ⟨a, vs, rfl, hq, rs⟩ := items_Sq o r ey
    exact ⟨a, vs, rfl, hq.symm, sd, T1, _, ED, ⟨L.st.mono f, o, fun xs T2 ws H2 k2 r2 o2 f2 =>
      L.q (ys ++ xs) T2 (vs ++ ws) H2 k2 (RDs.append (RDs.mono f2 ys rs) r2) o2 (f.trans f2), fun ex T' c da H' a b o' f' => L.x ex T' c da H' a b o' (f.trans f')⟩, k⟩, L.x⟩, q⟩
end
section
variable {prog : Program} {w : World} {A : Around} {E : Value → Shared → Prop} {s : Shared} {env : Env} {elts : List Expr} {k : Nat} {pos : Pos}
theorem star_run {l : Addr} {items : Array Value} {Q : List Value → Shared → Prop} (hl : s.heap.IsList l items) (hh : A.handled = none) (hn : 1 ≤ items.size) (hz : items.size ≤ 16384)
    (h : ∀ (h2 : Heap) tk, (∀ b o, s.heap.get? b = some o → h2.get? b = some o) → Q (items.toList.take 1 ++ [.ref h2.objs.size]) { s with heap := h2.push { cls := .type "list", data := .seq (items.toList.drop 1).toArray }, toks := tk }) :
    wpAny (model prog w) A (unpackItems (.ref l) 2 (some 1)) Q E s := by
  have hlt : l ≠ s.heap.objs.size := by obtain ⟨o, ho, _⟩ := hl; exact Nat.ne_of_lt (Heap.lt_size ho)
  unfold unpackItems
  refine wpAny_bind ?_
  unfold notIterableAtAll
  refine wpAny_bind (wpAny_specialOf hl.typeIs slot_list_iter.lookup ?_)
  refine wpAny_pure ?_
  simp only [Bool.false_eq_true, if_false]
  refine wpAny_bind (wpAny_holding (wpAny_pyIter_list hl ?_))
  refine wpAny_bind (wpAny_holding (PySem.W.kun_draw hlt 1 0 _ _ ⟨_, Heap.get?_push_size _ rfl, rfl, rfl⟩ (hl.push _) (by omega) fun h₁ hit₁ hs₁ => ?_))
  have hl₁ : h₁.IsList l items := (hl.push _).extBut hs₁.extBut hlt
  rw [Nat.zero_add] at hit₁
  have hit₁' := hit₁
  obtain ⟨oi, hoi, _⟩ := hit₁'
  have hl₁' := hl₁
  obtain ⟨ol, hol, _⟩ := hl₁'
  rw [List.drop_zero]
  have hfl : (items.toList.take 1).length = 1 := by rw [List.length_take, Array.length_toList]; omega
  rw [if_neg (show ¬ ((items.toList.take 1).length < 1) by rw [hfl]; omega)]
  refine wpAny_bind (wpAny_holding (PySem.W.kun_collect (s := { s with heap := h₁ }) (T := "list_iterator") (.inr (.inr (.inl rfl))) (Walks.list (A := A.in1) hh s.heap.objs.size l hlt items) (fun j u st => st.1.typeIs) (k := 1) (by omega) ⟨hit₁, hl₁⟩ (Heap.lt_size hoi) (Heap.lt_size hol) (fun h₂ tk hk => ?_) (by rw [sizeLine_eq]; omega)))
  have hrl : (items.toList.drop 1).length = items.size - 1 := by rw [List.length_drop, Array.length_toList]
  show wpAny _ _ (if (items.toList.drop 1).length < 2 - 1 - 1 then _ else _) _ _ _
  rw [if_neg (by omega)]
  show wpAny _ _ (newList ((items.toList.drop 1).take ((items.toList.drop 1).length - (2 - 1 - 1))) >>= fun d => pure (items.toList.take 1 ++ [d] ++ (items.toList.drop 1).drop ((items.toList.drop 1).length - (2 - 1 - 1)))) _ _ _
  have e1 : (items.toList.drop 1).take ((items.toList.drop 1).length - (2 - 1 - 1)) = items.toList.drop 1 := by rw [show (2 - 1 - 1 : Nat) = 0 from rfl, Nat.sub_zero, List.take_length]
  have e2 : (items.toList.drop 1).drop ((items.toList.drop 1).length - (2 - 1 - 1)) = [] := by rw [show (2 - 1 - 1 : Nat) = 0 from rfl, Nat.sub_zero, List.drop_length]
  rw [e1, e2]
  refine wpAny_bind (wpAny_newList (wpAny_pure ?_) (by rw [hrl, sizeLine_eq]; omega))
  rw [List.append_nil]
  exact h h₂ tk fun b o e => hk b o (Nat.ne_of_lt (Heap.lt_size e)) (hs₁.extBut b o (Nat.ne_of_lt (Heap.lt_size e)) (Heap.get?_push_of_some _ e))
end
/-- a, *b = a list -/
def gStar (K : PySem.W.Frag) (t : TGs) : TG := fun v σ H Q => ∃ a x xs, v = .ref a ∧ SqL K H a (x :: xs) ∧ xs.length ≤ 16000 ∧ ∀ p, H p = none → t [x, .ref p] σ (upd H p (.lst xs)) Q
theorem pg_star {X : Cx} {e1 e2 : Expr} {k : Nat} {t : TGs} {p pos : Pos} (hc : X.calm = true) (h : PGs X [e1, e2] t) (hm : (assignEach [e1, .Starred e2 p] X.env).map (·.2) = (assignEach [e1, e2] X.env).map (·.2) := by rfl)
    (hn : (assignEach [e1, .Starred e2 p] X.env).length = 2 := by rfl) (hst : (assignEach [e1, .Starred e2 p] X.env).findIdx? (·.1) = some 1 := by rfl) : PG X (.Tuple [e1, .Starred e2 p] k pos) (gStar X.K t) := by
  refine ⟨fun pins s σ H v u Q I r hw => ?_⟩
  obtain ⟨a, x, xs, e1, hq, hz, hw⟩ := hw
  subst e1
  cases r
  obtain ⟨its, rv, pl, _⟩ := I.list hq
  have hl' : s.heap.IsList a its.toArray := by
    obtain ⟨o, m, e, c, d, q⟩ := pl
    exact ⟨o, e, c, m, q⟩
  cases rv with
  | @cons _ u0 _ us r0 rs =>
  have hlen := rs.length
  rw [PyProof.Rows.assign_Tuple]
  refine wpAny_bind (wpAny_standAt ?_)
  unfold unpack
  rw [hn, hst]
  refine wpAny_bind (wpAny_holding (star_run hl' (I.ok.hd hc) (by simp) (by simp; omega) fun h2 tk hx => ?_))
  have I1 : Inv X pins σ H { s with heap := h2, toks := tk } := I.kept hx
  have I2 := I1.lnew (t' := tk) rs (by rw [sizeLine_eq]; omega)
  rw [hm]
  have z := hw h2.objs.size I1.fresh
  have rr : Vals [x, V.ref h2.objs.size] [u0, Value.ref h2.objs.size] := .cons r0 (.cons rfl .nil)
  simpa using h.run pins _ σ _ _ _ Q I2 rr z
section
variable {X : Cx} {W : WX} {e1 e2 : Expr} {k : Nat} {t : TDGs} {p pos : Pos}
def dgStar (t : TDGs) : TDG := fun x sd T Q => match itemsD T x with
  | some (y :: ys) => isTupD x = false ∧ ys.length ≤ 16000 ∧ t [y, .lst ys] sd T Q
  | _ => False
theorem dg_star (hc : X.calm = true) (h : DGs X [e1, e2] t) (hm : (assignEach [e1, .Starred e2 p] X.env).map (·.2) = (assignEach [e1, e2] X.env).map (·.2) := by rfl)
    (hn : (assignEach [e1, .Starred e2 p] X.env).length = 2 := by rfl) (hst : (assignEach [e1, .Starred e2 p] X.env).findIdx? (·.1) = some 1 := by rfl) : DG X (.Tuple [e1, .Starred e2 p] k pos) (dgStar t) :=
  PG.imp (pg_star hc h hm hn hst) fun v σ H Q ⟨x, sd, T, QD, st, o, r, k, q⟩ => by
    unfold dgStar at q
    split at q
    · rename_i y ys ei
      obtain ⟨hnt, hz, q⟩ := q
      obtain ⟨a, vs, rfl, hs, rs⟩ := items_SqL o r ei hnt
      obtain ⟨w, ws, rfl, h1, h2⟩ := rs
      refine ⟨a, w, ws, rfl, hs, by rw [← h2.length]; exact hz, fun p' hp => ?_⟩
      have tp := o.fresh hp
      have f := Fr.laid (o := .lst ws) hp tp
      exact ⟨[y, .lst ys], sd, T, QD, st.mono f, o.laid hp, RDs.cons (RD.mono f y h1) (RDs.cons ⟨p', ws, rfl, .inl ⟨tp, .inl upd_same⟩, RDs.mono f ys h2⟩ RDs.nil), fun a b c d e g h i => k a b c d e g h (f.trans i), q⟩
    · exact q.elim
end

/-! ### a static method, called off its class -/
/-- m: a static method of the class at C, a plain def at f -/
structure StM (K : PySem.W.Frag) (C : Addr) (m : Str) (p f : Addr) : Prop where
  gt : PySem.W.specialIn K (.ref C) "__getattribute__" = some (some (.builtin "type.__getattribute__"))
  rd : PySem.W.readsIn K C (.type "type") = true
  fc : PySem.W.findCls K (.ref C) (.type "type") m = some (.get (.builtin "staticmethod.__get__") (.ref p) .none (.ref C))
  rc : ∃ rest, PySem.W.recIn K p "staticmethod" = some (.ref f :: rest)
  kp : PySem.W.keepIn K (.ref f) = true
section
variable {X : Cx} {W : WX} {x m : Str} {e : Expr} {es : List Expr} {t : TDA} {k : Nat} {sp : SpD} {C f q : Addr} {p pos apos : Pos} {pl : Sem Bool}
theorem de_static (b : Bd k X W) (S : StM X.K C m q f) (F : GR X.prog X.w X.K X.mg X.base f k sp) (hg : Gl X x) (hm : X.mg x = some (.ref C)) (ha : DA X W (e :: es) t) (hdb : (x == ("__debug__" : Str)) = false := by decide)
    (hst : starEach (e :: es) X.env = (false, eval e X.env) :: starEach es X.env := by rfl) (hpl : (backTo pos (starEach es X.env)).any (·.1) = false := by rfl)
    (ht : eval (.Call (.Attribute (.Name x p) m apos) (e :: es) [] pos) X.env = (do
      let ov ← eval (.Name x p) X.env
      standAt apos.atName
      let (f, first) ← holding [ov] (getMethod ov m pl)
      callWith pos f first (backTo pos (starEach (e :: es) X.env)) (backToKw pos (keywordEach [] X.env))) := by rfl) :
    DE X W (.Call (.Attribute (.Name x p) m apos) (e :: es) [] pos) (dCB sp t) :=
  DE.mk fun pins s σ H Q sd T QD ED I L h => by
    refine PySem.W.methodCall_KW (pl := pl) (ld_glob I hg hm ?_ hdb) ht
    obtain ⟨rest, hp⟩ := S.rc
    refine PySem.W.method_cls I.kIn S.gt (PySem.W.cls_bind I.kIn S.rd S.fc (wpAny_call (PySem.W.sm_get (s := { s with toks := s.toks + 1 }) I.kIn hp (PySem.W.handed_on rfl ?_))))
    have I1 : Inv X pins σ H { s with toks := s.toks + 1 } := I.tok (s.toks + 1)
    refine PySem.W.callWith_K (first := []) (h₀ := X.base) I.ok.mod.kin S.kp (thn (ha.one I1 L.st L.ok L.x h pos) fun us s1 ⟨xs, vs, H1, T1, B⟩ => ⟨B.I.kIn, ?_⟩) hst hpl
    exact cd_fn b F pins s1 σ H1 Q sd T1 QD ED xs vs us B.I (L.go B.ok B.fr) B.rd B.rv B.k
end
end DL
namespace DL
open PySem PySem.Spec PyProof.Rows L2 VX

/-! ### keywords -/
def DK (X : Cx) (W : WX) (kws : List Keyword) (t : TDA) : Prop := PK X kws (liftA X.K W t)
theorem _root_.L2.PK.imp {X : Cx} {kws : List Keyword} {t t' : TA} (h : PK X kws t) (i : ∀ σ H Q, t' σ H Q → t σ H Q) : PK X kws t' := ⟨fun pos pins s σ H Q I q => h.run pos pins s σ H Q I (i σ H Q q)⟩
section
variable {X : Cx} {W : WX} {pins : List (Addr × Obj)} {s : Shared} {σ : L2.St} {H : Hp} {sd : SD} {T : Td} {ED : XD} {e : Expr} {es : List Expr} {te : TDE} {t tk : TDA} {pos kpos : Pos} {kws : List Keyword} {nm : Option Str}
theorem DK.one {ta : TDA} {kD : List D → Td → Prop} (ha : DK X W kws ta) (I : Inv X pins σ H s) (st : StOk X.K H T sd σ) (ok : DOk X.K H T) (hx : EXok X W σ H T ED) (h : ta sd T kD ED) (pos : Pos) :
    wpAny (model X.prog X.w) X.A (evalAll ((backToKw pos (keywordEach kws X.env)).map (·.2))) (fun us s1 => ∃ xs vs H1 T1, Bhs X pins σ H T kD us s1 xs vs H1 T1) X.xe s := by
  refine thn (PK.run ha pos pins s σ H (fun vs H1 => ∃ xs T1, RDs X.K H1 T1 xs vs ∧ DOk X.K H1 T1 ∧ Fr H T H1 T1 ∧ kD xs T1) I ⟨sd, T, kD, ED, ⟨st, ok, fun x T1 v H1 a b c d => ⟨x, T1, b, c, d, a⟩, hx⟩, h⟩) ?_
  rintro v s1 ⟨vx, H1, I1, r, x, T1, b, c, d, a⟩
  exact ⟨x, vx, H1, T1, I1, b, r, c, d, a⟩
theorem dk_nil : DK X W [] dNil := PK.imp pk_nil fun σ H Q ⟨sd, T, QD, ED, L, q⟩ => L.q [] T [] H q rfl L.ok Fr.refl
theorem dk_cons (ha : DE X W e te) (hr : DK X W kws t) : DK X W (⟨nm, e, kpos⟩ :: kws) (dCons te t) :=
  PK.imp (pk_cons ha hr) fun σ H Q ⟨sd, T, QD, ED, L, q⟩ => ⟨sd, T, _, ED, ⟨L.st, L.ok, fun x T1 v H1 k r o f => ⟨sd, T1, _, ED, ⟨L.st.mono f, o, fun xs T2 vs H2 k2 r2 o2 f2 =>
    L.q (x :: xs) T2 (v :: vs) H2 k2 (RDs.cons (RD.mono f2 x r) r2) o2 (f.trans f2), EXok.go L.x f⟩, k⟩, L.x⟩, q⟩
end
/-- first t, then u: all values in a row -/
def dApp (t u : TDA) : TDA := fun sd T Q E => t sd T (fun xs T1 => u sd T1 (fun ys T2 => Q (xs ++ ys) T2) E) E
/-- a def called with keywords ks behind n values keeps a promise (of the values in the row of the call) -/
def GK (P : Program) (w : World) (K : PySem.W.Frag) (mg : Str → Option Value) (base : Heap) (f : Addr) (n : Nat) (ks : List Str) (k : Nat) (sp : SpD) : Prop :=
  ∀ (A : Around) (outer : List Env) (s : Shared) (H : Hp) (us ws : List Value) (vs zs : List V) (Q : VK) (E : XK), Room k A → A.guards = some [] → Env0 P w K mg base A outer s H → Vals vs us → Vals zs ws → vs.length = n → zs.length = ks.length → liftSp K sp (vs ++ zs) H Q E →
    codeAny (model P w) A (.call (.ref f) ⟨us, ks.zip ws⟩) (CR (L2.CX P w) outer P w H s Q E) s
theorem GK.mono {P : Program} {w : World} {K : PySem.W.Frag} {mg : Str → Option Value} {base : Heap} {f : Addr} {n : Nat} {ks : List Str} {j k : Nat} {sp : SpD} (F : GK P w K mg base f n ks j sp) (h : j ≤ k) : GK P w K mg base f n ks k sp := fun A outer s H us ws vs zs Q E hr => F A outer s H us ws vs zs Q E (hr.mono h)
/-- the values of the call in the sequence of the parameters -/
def permL {α : Type} (is : List Nat) (xs : List α) : List α := is.filterMap (xs[·]?)
theorem permL_cons {α : Type} (i : Nat) (is : List Nat) (xs : List α) : permL (i :: is) xs = match xs[i]? with | some x => x :: permL is xs | none => permL is xs := by
  unfold permL
  rw [List.filterMap_cons]
  cases xs[i]? <;> rfl
theorem permL_vals {vs : List V} {us : List Value} (r : Vals vs us) : ∀ is, Vals (permL is vs) (permL is us)
  | [] => .nil
  | i :: is => by
    rw [permL_cons, permL_cons]
    have h := permL_vals r is
    cases e : vs[i]? with
    | none =>
      have : us[i]? = none := by rw [List.getElem?_eq_none_iff] at e ⊢; rw [← r.length]; exact e
      rw [this]
      exact h
    | some v =>
      obtain ⟨u, h1, h2⟩ := vals_get r e
      rw [h1]
      exact .cons h2 h
where
  vals_get : ∀ {vs : List V} {us : List Value} {i : Nat} {v : V}, Vals vs us → vs[i]? = some v → ∃ u, us[i]? = some u ∧ RelV v u
    | _, _, 0, _, .cons a r, e => by cases e; exact ⟨_, rfl, a⟩
    | _, _, i + 1, _, .cons a r, e => vals_get (i := i) r e
theorem permL_rds {K : PySem.W.Frag} {H : Hp} {T : Td} {ds : List D} {vs : List V} (r : RDs K H T ds vs) : ∀ is, RDs K H T (permL is ds) (permL is vs)
  | [] => RDs.nil
  | i :: is => by
    rw [permL_cons, permL_cons]
    have h := permL_rds r is
    cases e : ds[i]? with
    | none =>
      have : vs[i]? = none := by rw [List.getElem?_eq_none_iff] at e ⊢; rw [← r.length]; exact e
      rw [this]
      exact h
    | some d =>
      obtain ⟨v, h1, h2⟩ := r.get e
      rw [h1]
      exact RDs.cons h2 h
section
variable {P : Program} {w : World} {K : PySem.W.Frag} {mg : Str → Option Value} {base : Heap} {k : Nat} {f : Addr} {name qual : Str} {params : Arguments} {body : List Stmt} {scope : Scope} {dV kV doc pm cdv ct oc : Value} {an od : Option Addr} {osl : Array (Option Value)} {N ps ks : List Str} {n : Nat} {is : List Nat} {d : TDS} {sp : SpD}
/-- a def called with keywords -/
theorem fn_okK (lk : K.lookup f = some ⟨oc, od, .func (PySem.W.fnOf name qual params body scope dV kV doc pm an cdv ct), osl⟩) (hcd : PySem.W.codeIn K cdv qual = true) (S : FnScope N ps scope)
    (hbi : ∀ us ws : List Value, us.length = n → ws.length = ks.length → bindArgs (PySem.W.fnOf name qual params body scope dV kV doc pm an cdv ct) ⟨us, ks.zip ws⟩ = pure (ps.zip (permL is (us ++ ws)))) (len : ∀ ds T Q E, sp (permL is ds) T Q E → (permL is ds).length = ps.length)
    (hb : ∀ (A : Around) (outer : List Env) (s : Shared) (H : Hp) (E : XK), Bd k (cxOf (L2.CX P w) P w K mg base N qual scope f cdv A outer s H E) (WE0 E) → DSs (cxOf (L2.CX P w) P w K mg base N qual scope f cdv A outer s H E) (WE0 E) body d)
    (hp : ∀ ds T Q E, sp ds T Q E → d (endsD Q E) (startD N ds) T) : GK P w K mg base f n ks (k + 1) (fun ds => sp (permL is ds)) := by
  intro A outer s H us ws vs zs Q E hr hgd e0 r rz l1 l2 ⟨ds, T, QD, ED, rd, o, q, hq, hx⟩
  have rd2 := permL_rds rd is
  have r2 := permL_vals (vals_app r rz) is
  have hl : (permL is (vs ++ zs)).length = ps.length := by rw [← rd2.length]; exact len _ T QD ED q
  exact run_def lk hcd S hr hgd e0 (.of_eq (hbi us ws (by rw [← r.length]; exact l1) (by rw [← rz.length]; exact l2))) r2 rd2 o hl hq hx (hb A outer s H E) (hp _ T QD ED q)
where
  vals_app : ∀ {vs zs : List V} {us ws : List Value}, Vals vs us → Vals zs ws → Vals (vs ++ zs) (us ++ ws)
    | _, _, _, _, .nil, rz => rz
    | _, _, _, _, .cons a r, rz => .cons a (vals_app r rz)
end
section
variable {X : Cx} {W : WX} {f : Addr} {n k : Nat} {ks : List Str} {sp : SpD}
theorem run_kw {pins : List (Addr × Obj)} {σ : L2.St} {H : Hp} {s : Shared} {sd : SD} {T : Td} {Q : VK} {QD : KD} {ED : XD} {xs zs : List D} {vs ys : List V} {us ws : List Value} (b : Bd k X W) (F : GK X.prog X.w X.K X.mg X.base f n ks k sp)
    (I : Inv X pins σ H s) (L : LE X.K W σ H Q sd T QD ED) (rs : RDs X.K H T xs vs) (rz : RDs X.K H T zs ys) (r : Vals vs us) (r' : Vals ys ws) (l1 : vs.length = n) (l2 : ys.length = ks.length) (q : sp (xs ++ zs) T QD ED) :
    wpAny (model X.prog X.w) X.A (call (.ref f) us (ks.zip ws)) (EP X pins σ Q) X.xe s := by
  refine wpAny_call (codeAny_mono (F X.A X.stack s H us ws vs ys Q (WE W σ) b.hr b.hg I.env0 r r' l1 l2 (sp_of L (rs.append rz) L.ok Fr.refl q)) fun r s' hq => ?_)
  cases r with
  | error e => exact passAt b.tk σ pins H s e s' I hq
  | ok fl =>
    cases fl with
    | ret u => exact I.after hq
    | next => exact False.elim hq
    | brk => exact False.elim hq
    | cont => exact False.elim hq
end
/-- the number of values told -/
def dCnt (n m : Nat) (t u : TDA) : TDA := fun sd T Q E => t sd T (fun xs T1 => xs.length = n ∧ u sd T1 (fun ys T2 => ys.length = m ∧ Q (xs ++ ys) T2) E) E
section
variable {X : Cx} {W : WX} {x m : Str} {e : Expr} {es : List Expr} {t tk : TDA} {k n : Nat} {sp : SpD} {C f q : Addr} {p pos apos : Pos} {pl : Sem Bool} {kws : List Keyword} {ks : List Str}
/-- C.m(k = v, ..), m static -/
theorem de_staticK (b : Bd k X W) (S : StM X.K C m q f) (F : GK X.prog X.w X.K X.mg X.base f 0 ks k sp) (hg : Gl X x) (hm : X.mg x = some (.ref C)) (hkw : DK X W kws tk) (hall : (backToKw pos (keywordEach kws X.env)).all (·.1.isSome) = true := by rfl) (hks : (backToKw pos (keywordEach kws X.env)).filterMap (·.1) = ks := by rfl) (hdb : (x == ("__debug__" : Str)) = false := by decide)
    (hpl : ((backTo pos (starEach [] X.env)).any (·.1) || (backToKw pos (keywordEach kws X.env)).any (·.1.isNone)) = false := by rfl)
    (ht : eval (.Call (.Attribute (.Name x p) m apos) [] kws pos) X.env = (do
      let ov ← eval (.Name x p) X.env
      standAt apos.atName
      let (f, first) ← holding [ov] (getMethod ov m pl)
      callWith pos f first (backTo pos (starEach [] X.env)) (backToKw pos (keywordEach kws X.env))) := by rfl) :
    DE X W (.Call (.Attribute (.Name x p) m apos) [] kws pos) (dCB sp (dCnt 0 ks.length dNil tk)) :=
  DE.mk fun pins s σ H Q sd T QD ED I L h => by
    refine PySem.W.methodCall_KW (pl := pl) (ld_glob I hg hm ?_ hdb) ht
    obtain ⟨rest, hp⟩ := S.rc
    refine PySem.W.method_cls I.kIn S.gt (PySem.W.cls_bind I.kIn S.rd S.fc (wpAny_call (PySem.W.sm_get (s := { s with toks := s.toks + 1 }) I.kIn hp (PySem.W.handed_on rfl ?_))))
    have I1 : Inv X pins σ H { s with toks := s.toks + 1 } := I.tok (s.toks + 1)
    refine PySem.W.callWith_KW0 (h₀ := X.base) I.ok.mod.kin S.kp hall (thn (hkw.one I1 L.st L.ok L.x h.2 pos) fun ws s2 ⟨zs, ys, H2, T2, B⟩ => ⟨B.I.kIn, ?_⟩) hpl
    rw [hks]
    exact run_kw (us := []) (vs := []) (xs := []) b F B.I (L.go B.ok B.fr) RDs.nil B.rd .nil B.rv rfl (by rw [← B.rd.length]; exact B.k.1) B.k.2
end
end DL
namespace DL
open PySem PySem.Spec PyProof.Rows L2 VX
section
variable {X : Cx} {W : WX}
/-! ### constants of the module -/
theorem de_globS {x : Str} {z : Str} {pos : Pos} (hg : Gl X x) (hm : ∃ t, X.mg x = some (.str z t)) (hd : (x == ("__debug__" : Str)) = false := by decide) : DE X W (.Name x pos) (dC (.str z)) := by
  obtain ⟨t, hm⟩ := hm
  exact de_c (pe_glob (v := .str z) hg hm ⟨t, rfl⟩ hd) fun _ _ => rfl
theorem de_globI {x : Str} {z : Int} {pos : Pos} (hg : Gl X x) (hm : ∃ t, X.mg x = some (.int z t)) (hd : (x == ("__debug__" : Str)) = false := by decide) : DE X W (.Name x pos) (dC (.int z)) := by
  obtain ⟨t, hm⟩ := hm
  exact de_c (pe_glob (v := .int z) hg hm ⟨t, rfl⟩ hd) fun _ _ => rfl
end
end DL
namespace DL
open PySem PySem.Spec PyProof.Rows L2 VX P
section
variable {X : Cx} {W : WX}
/-! ### list + list, both of any kind -/
theorem op_catL {X : Cx} : OpR X (binaryOp .Add) (fun x y H Q => ∃ l b xs zs, x = .ref l ∧ y = .ref b ∧ SqL X.K H l xs ∧ SqL X.K H b zs ∧ xs.length + zs.length ≤ sizeLine ∧ ∀ p, H p = none → Q (.ref p) (upd H p (.lst (xs ++ zs)))) := by
  intro pins s σ H x y v u Q I rx ry h
  obtain ⟨l, b, xs, zs, rfl, rfl, hH, hB, hz, q⟩ := h
  cases rx
  cases ry
  obtain ⟨its, r, pl, _⟩ := I.list hH
  obtain ⟨its2, r2, pl2, _⟩ := I.list hB
  obtain ⟨⟨cls, dd, data, sl⟩, n, ho, hc, hd, hs⟩ := pl
  obtain ⟨⟨cls2, dd2, data2, sl2⟩, n2, ho2, hc2, hd2, hs2⟩ := pl2
  simp only at hc hd hc2 hd2 hs hs2
  subst hc hd hc2 hd2 hs hs2
  have ea : its.toArray ++ its2.toArray = (its ++ its2).toArray := by simp
  have l1 := r.length
  have l2 := r2.length
  refine concat_meets ⟨_, ho, rfl⟩ ⟨_, ho2, rfl⟩ noFill_list_add seq_list_add F.slot_list_add F.entry_list_add (F.args_list_add_2 _ _) (PyProof.Rows.list_addW l b its.toArray its2.toArray n n2 _ _ _ _ (by simp; omega)) ⟨ho, ho2, ?_⟩
  rw [ea]
  exact ⟨.ref _, _, I.lnew (t' := s.toks) (r.append r2) (by rw [List.length_append]; omega), rfl, q _ I.fresh⟩
def rLL : R2D := fun x y T Q _ => isTupD x = false ∧ isTupD y = false ∧ match itemsD T x, itemsD T y with
  | some xs, some ys => xs.length + ys.length ≤ sizeLine ∧ Q (.lst (xs ++ ys)) T
  | _, _ => False
theorem od_addL : OpD X W (binaryOp .Add) rLL := OpD.of op_catL fun σ H Q sd T QD ED x y vx vy L r1 r2 h => by
  obtain ⟨t1, t2, h⟩ := h
  split at h
  · rename_i xs ys e1 e2
    obtain ⟨a, vs, rfl, h1, rs1⟩ := items_SqL L.ok r1 e1 t1
    obtain ⟨b, ws, rfl, h2, rs2⟩ := items_SqL L.ok r2 e2 t2
    refine ⟨a, b, vs, ws, rfl, rfl, h1, h2, by rw [← rs1.length, ← rs2.length]; exact h.1, fun p hp => ?_⟩
    have f := Fr.laid (o := .lst (vs ++ ws)) hp (L.ok.fresh hp)
    exact L.q (.lst (xs ++ ys)) T (.ref p) _ h.2 ⟨p, _, rfl, .inl ⟨L.ok.fresh hp, .inl upd_same⟩, RDs.mono f _ (rs1.append rs2)⟩ (L.ok.laid hp) f
  · exact h.elim
end
/-! ### places where ways meet -/
structure Cut (t : Td → KD → XD → Prop) (T : Td) (Q : KD) (E : XD) : Prop where
  h : t T Q E
def dCut (t : TDE) : TDE := fun sd T Q E => Cut (t sd) T Q E
theorem cut_by {t : Td → KD → XD → Prop} {T : Td} {Q : KD} {E : XD} (R : D → Td → Prop) (g : ∀ Q : KD, (∀ x T', R x T' → Q x T') → t T Q E) (h : ∀ x T', R x T' → Q x T') : Cut t T Q E := ⟨g Q h⟩
/-- .. one value, nothing changed -/
theorem cut_to {t : Td → KD → XD → Prop} {T : Td} {Q : KD} {E : XD} (x : D) (g : ∀ Q : KD, Q x T → t T Q E) (h : Q x T) : Cut t T Q E := ⟨g Q h⟩
structure CutS (t : TDS) (D : DEnds) (sd : SD) (T : Td) : Prop where
  h : t D sd T
def dCutS (t : TDS) : TDS := fun D sd T => CutS t D sd T
theorem cutS_by {t : TDS} {D : DEnds} {sd : SD} {T : Td} (R : SD → Td → Prop) (g : ∀ D' : DEnds, D'.rt = D.rt → D'.xe = D.xe → D'.bk = D.bk → D'.ct = D.ct → (∀ sd' T', R sd' T' → D'.nx sd' T') → t D' sd T) (h : ∀ sd' T', R sd' T' → D.nx sd' T') : CutS t D sd T := ⟨g D rfl rfl rfl rfl h⟩
section
variable {X : Cx} {W : WX}
theorem de_cut {e : Expr} {t : TDE} (h : DE X W e t) : DE X W e (dCut t) := PE.imp h fun σ H Q ⟨sd, T, QD, ED, L, q⟩ => ⟨sd, T, QD, ED, L, q.h⟩
theorem ds_cut {e : Stmt} {t : TDS} (h : DS X W e t) : DS X W e (dCutS t) := PS.imp h fun De σ H ⟨sd, T, DD, st, o, L, q⟩ => ⟨sd, T, DD, st, o, L, q.h⟩
end
end DL
namespace RQ
def wG (i j : Int) : Int := if j < 0 then -(Nat.gcd i.natAbs j.natAbs : Int) else (Nat.gcd i.natAbs j.natAbs : Int)
def wN (i j : Int) : Int := i.fdiv (wG i j)
def wD (i j : Int) : Int := j.fdiv (wG i j)
theorem gcd_ne {i j : Int} (hj : j ≠ 0) : Nat.gcd i.natAbs j.natAbs ≠ 0 := fun z => hj (by have := Nat.eq_zero_of_gcd_eq_zero_right z; omega)
theorem w_q (a b : Int) (hb : b ≠ 0) : wN a b = (Rat.divInt a b).num ∧ wD a b = ((Rat.divInt a b).den : Int) := by
  have hg := gcd_ne (i := a) hb
  obtain ⟨k1, h1⟩ : (Nat.gcd a.natAbs b.natAbs : Int) ∣ a := Int.ofNat_dvd_left.2 (Nat.gcd_dvd_left _ _)
  obtain ⟨k2, h2⟩ : (Nat.gcd a.natAbs b.natAbs : Int) ∣ b := Int.ofNat_dvd_left.2 (Nat.gcd_dvd_right _ _)
  have eg : Int.gcd b a = Nat.gcd a.natAbs b.natAbs := by rw [Int.gcd, Nat.gcd_comm]
  have e1 : b.natAbs = Nat.gcd a.natAbs b.natAbs * k2.natAbs := by
    have := congrArg Int.natAbs h2
    rwa [Int.natAbs_mul, Int.natAbs_natCast] at this
  unfold wN wD wG
  rw [Rat.num_divInt, Rat.den_divInt, if_neg hb, eg]
  generalize Nat.gcd a.natAbs b.natAbs = g at *
  have hg' : (g : Int) ≠ 0 := by omega
  have dn : b.natAbs / g = k2.natAbs := by rw [e1]; exact Nat.mul_div_cancel_left _ (by omega)
  rw [dn]
  by_cases hneg : b < 0
  · rw [if_pos hneg]
    have hk2 : k2 < 0 := by
      have h : (g : Int) * k2 < 0 := by rw [← h2]; exact hneg
      have hgp : (0 : Int) < g := by omega
      have h' : (g : Int) * k2 < g * 0 := by simpa using h
      exact Int.lt_of_mul_lt_mul_left h' (by omega)
    have es : b.sign = -1 := Int.sign_eq_neg_one_of_neg hneg
    rw [es]
    constructor
    · rw [h1, Int.fdiv_neg_eq hg']
      rw [show (-1 : Int) * (g * k1) = g * (-k1) by grind, Int.mul_ediv_cancel_left _ hg']
    · rw [h2, Int.fdiv_neg_eq hg']
      omega
  · rw [if_neg hneg]
    have hp : 0 < b := by omega
    have hk2 : 0 < k2 := by
      have h : (g : Int) * 0 < g * k2 := by rw [← h2]; simpa using hp
      exact Int.lt_of_mul_lt_mul_left h (by omega)
    have es : b.sign = 1 := Int.sign_eq_one_of_pos hp
    rw [es, Int.one_mul]
    constructor
    · rw [h1, Int.mul_fdiv_cancel_left _ hg', Int.mul_ediv_cancel_left _ hg']
    · rw [h2, Int.mul_fdiv_cancel_left _ hg']
      omega
where
  Int.fdiv_neg_eq {g k : Int} (hg : g ≠ 0) : (g * k).fdiv (-g) = -k := by
    have : g * k = (-g) * (-k) := by grind
    rw [this, Int.mul_fdiv_cancel_left _ (by omega)]
theorem q_add (p q : Rat) : Rat.divInt (p.num * q.den + q.num * p.den) (p.den * q.den) = p + q := by
  rw [Rat.add_def', ← Rat.divInt_ofNat, Int.natCast_mul]
theorem q_sub (p q : Rat) : Rat.divInt (p.num * q.den - q.num * p.den) (p.den * q.den) = p - q := by
  rw [Rat.sub_def', ← Rat.divInt_ofNat, Int.natCast_mul]
theorem q_mul (p q : Rat) : Rat.divInt (p.num * q.num) (p.den * q.den) = p * q := by
  rw [Rat.mul_def', ← Rat.divInt_ofNat, Int.natCast_mul]
theorem num0 {q : Rat} : q.num = 0 ↔ q = 0 := Rat.num_eq_zero
theorem q_div (p q : Rat) : Rat.divInt (p.num * q.den) (p.den * q.num) = p / q := by
  rw [Rat.div_def, Rat.inv_def]
  conv => rhs; rw [← Rat.num_divInt_den p]
  rw [Rat.divInt_mul_divInt]
theorem q_self (q : Rat) : Rat.divInt q.num q.den = q := Rat.num_divInt_den q
theorem q_int (i : Int) : Rat.divInt i 1 = (i : Rat) := by
  have := Rat.num_divInt_den (i : Rat)
  simpa using this
theorem q_neg (q : Rat) : Rat.divInt (-q.num) q.den = -q := by
  have := Rat.num_divInt_den (-q)
  simpa using this
theorem den0 (q : Rat) : (q.den : Int) ≠ 0 := by have := q.den_pos; omega
theorem denp (q : Rat) : (0 : Int) < (q.den : Int) := by have := q.den_pos; omega
theorem gap_lt (p q : Rat) : p.num * q.den - q.num * p.den < 0 ↔ p < q := by rw [Rat.lt_iff]; omega
theorem gap_le (p q : Rat) : p.num * q.den - q.num * p.den ≤ 0 ↔ p ≤ q := by rw [Rat.le_iff]; omega
theorem num_pos {q : Rat} : 0 < q.num ↔ 0 < q := by
  have := Rat.lt_iff 0 q
  simp at this
  exact this.symm
theorem num_neg {q : Rat} : q.num < 0 ↔ q < 0 := by
  have := Rat.lt_iff q 0
  simp at this
  exact this.symm
theorem num_le0 {q : Rat} : q.num ≤ 0 ↔ q ≤ 0 := by
  have := Rat.le_iff q 0
  simp at this
  exact this.symm
theorem q_ext {p q : Rat} (h1 : p.num = q.num) (h2 : (p.den : Int) = q.den) : p = q := Rat.ext h1 (by omega)
/-! sizes -/
def sz (q : Rat) : Nat := max (q.num.natAbs.log2 + 1) (q.den.log2 + 1)
theorem lt_log (n : Nat) : n < 2 ^ (n.log2 + 1) := Nat.lt_log2_self
theorem sz_num (q : Rat) : q.num.natAbs < 2 ^ sz q := Nat.lt_of_lt_of_le (lt_log _) (Nat.pow_le_pow_right (by decide) (Nat.le_max_left _ _))
theorem sz_den (q : Rat) : q.den < 2 ^ sz q := Nat.lt_of_lt_of_le (lt_log _) (Nat.pow_le_pow_right (by decide) (Nat.le_max_right _ _))
theorem log_lt {n k : Nat} (h : n < 2 ^ k) (hk : 0 < k) : n.log2 + 1 ≤ k := by
  by_cases h0 : n = 0
  · subst h0; exact hk
  · exact (Nat.log2_lt h0).2 h
theorem sz_le {q : Rat} {k : Nat} (hk : 0 < k) (h1 : q.num.natAbs < 2 ^ k) (h2 : q.den < 2 ^ k) : sz q ≤ k := Nat.max_le.2 ⟨log_lt h1 hk, log_lt h2 hk⟩
theorem sz_pos (q : Rat) : 0 < sz q := by unfold sz; omega
theorem div_sz {a b : Int} (hb : b ≠ 0) {k : Nat} (hk : 0 < k) (h1 : a.natAbs < 2 ^ k) (h2 : b.natAbs < 2 ^ k) : sz (Rat.divInt a b) ≤ k := by
  refine sz_le hk ?_ ?_
  · rw [Rat.num_divInt]
    refine Nat.lt_of_le_of_lt (Nat.le_trans (Int.natAbs_ediv_le_natAbs _ _) ?_) h1
    rw [Int.natAbs_mul, Int.natAbs_sign_of_ne_zero hb, Nat.one_mul]
    exact Nat.le_refl _
  · rw [Rat.den_divInt, if_neg hb]
    exact Nat.lt_of_le_of_lt (Nat.div_le_self _ _) h2
theorem mul_lt {x y : Int} {m n : Nat} (h1 : x.natAbs < 2 ^ m) (h2 : y.natAbs < 2 ^ n) : (x * y).natAbs < 2 ^ (m + n) := by
  rw [Int.natAbs_mul, Nat.pow_add]
  exact Nat.mul_lt_mul'' h1 h2
theorem cden (q : Rat) : ((q.den : Int)).natAbs < 2 ^ sz q := by rw [Int.natAbs_natCast]; exact sz_den q
theorem sz_add (p q : Rat) : sz (p + q) ≤ sz p + sz q + 1 := by
  rw [← q_add]
  have h1 := mul_lt (sz_num p) (cden q)
  have h2 := mul_lt (sz_num q) (cden p)
  have h3 := mul_lt (cden p) (cden q)
  have e : 2 ^ (sz p + sz q + 1) = 2 ^ (sz p + sz q) + 2 ^ (sz p + sz q) := by rw [Nat.pow_succ]; omega
  rw [Nat.add_comm (sz q)] at h2
  refine div_sz (Int.mul_ne_zero (den0 p) (den0 q)) (by omega) ?_ ?_
  · rw [e]; omega
  · rw [e]; omega
theorem sz_neg (q : Rat) : sz (-q) = sz q := by unfold sz; simp
theorem sz_sub (p q : Rat) : sz (p - q) ≤ sz p + sz q + 1 := by
  have := sz_add p (-q)
  rw [sz_neg] at this
  rwa [Rat.sub_eq_add_neg]
theorem sz_mul (p q : Rat) : sz (p * q) ≤ sz p + sz q := by
  rw [← q_mul]
  exact div_sz (Int.mul_ne_zero (den0 p) (den0 q)) (by have := sz_pos p; omega) (mul_lt (sz_num p) (sz_num q)) (mul_lt (cden p) (cden q))
theorem sz_div (p q : Rat) (h : q ≠ 0) : sz (p / q) ≤ sz p + sz q := by
  rw [← q_div]
  exact div_sz (Int.mul_ne_zero (den0 p) (fun z => h (num0.1 z))) (by have := sz_pos p; omega) (mul_lt (sz_num p) (cden q)) (mul_lt (cden p) (sz_num q))
theorem sz_int {i : Int} {k : Nat} (hk : 1 < 2 ^ k) (h : i.natAbs < 2 ^ k) : sz (i : Rat) ≤ k := sz_le (by cases k <;> omega) h hk
theorem sz_of {q : Rat} {k : Nat} (h : sz q ≤ k) : q.num.natAbs < 2 ^ k ∧ q.den < 2 ^ k := ⟨Nat.lt_of_lt_of_le (sz_num q) (Nat.pow_le_pow_right (by decide) h), Nat.lt_of_lt_of_le (sz_den q) (Nat.pow_le_pow_right (by decide) h)⟩
end RQ
namespace K1
open PySem PySem.Spec PyProof.Rows L2 VX DL RQ
/-! ### the operators' readings in short -/
abbrev rAdd : R2D := rII CAny fun i j => .int (i + j)
abbrev rSub : R2D := rII CAny fun i j => .int (i - j)
abbrev rMul : R2D := rII IntMulOk fun i j => .int (i * j)
abbrev rFdv : R2D := rII CDv fun i j => .int (i.fdiv j)
abbrev rMod : R2D := rII CMd fun i j => .int (i.fmod j)
abbrev rPow : R2D := rII CPw fun i j => .int (i ^ j.toNat)
abbrev rLt : R2D := rII CAny fun i j => .bl (decide (i < j))
abbrev rLe : R2D := rII CAny fun i j => .bl (decide (i ≤ j))
abbrev rGt : R2D := rII CAny fun i j => .bl (decide (j < i))
abbrev rGe : R2D := rII CAny fun i j => .bl (decide (j ≤ i))
abbrev rNeg : R1D := rU1 fun i => .int (-i)
abbrev rAbs : RAD := rI1 (fun _ => True) fun i => .int i.natAbs

/-! ### where the text's objects stand -/
structure Ad where
  inst : Value → Value → Option Bool
  own : Addr → Option (List Str) → List D → Option Str
  exm : Addr → Value → Option Bool
  cls : List Addr
  obj : List Addr
  exs : List Addr
  at_ : Nat → Addr
  fdS : FuncData
namespace Ad
abbrev slip (ad : Ad) : Addr := ad.at_ 0
abbrev SlipError (ad : Ad) : Addr := ad.at_ 1
abbrev Worth (ad : Ad) : Addr := ad.at_ 2
abbrev Form (ad : Ad) : Addr := ad.at_ 3
end Ad
def inS (ad : Ad) (C : Addr) : Bool := ad.cls.contains C
def inE (ad : Ad) (C : Addr) : Bool := ad.exs.contains C
def inO (ad : Ad) (C : Addr) : Bool := ad.obj.contains C
/-! ### kinds -/
inductive Kd where
  | non | bl | int | str | tup | lst | dct | cls (C : Addr) | exc (C : Addr)
def Kd.ty : Kd → Value
  | .non => .type "NoneType"
  | .bl => .type "bool"
  | .int => .type "int"
  | .str => .type "str"
  | .tup => .type "tuple"
  | .lst => .type "list"
  | .dct => .type "dict"
  | .cls C => .ref C
  | .exc C => .ref C
def kdD (ad : Ad) (T : Td) : D → Option Kd
  | .non => some .non
  | .bl _ => some .bl
  | .int _ => some .int
  | .str _ => some .str
  | .tup _ => some .tup
  | .lst _ => some .lst
  | .dct _ _ => some .dct
  | .slo C _ => if inS ad C = true then some (.cls C) else none
  | .obj C _ _ => if inO ad C = true then some (.cls C) else none
  | .exc (.ref C) _ _ => if inE ad C = true then some (.exc C) else none
  | .ref a => match T a with
    | some (.lst _) => some .lst
    | some (.dct _ _) => some .dct
    | some (.ins C _ _) => if inO ad C = true then some (.cls C) else none
    | _ => none
  | _ => none
theorem ty_kd {ad : Ad} {T : Td} {x : D} {k : Kd} (h : kdD ad T x = some k) : tyD (inS ad) (inE ad) (inO ad) T x = some k.ty := by
  unfold kdD at h
  split at h
  all_goals try (cases h; done)
  all_goals try (cases h; rfl)
  all_goals try (split at h <;> first | (cases h; done) | (rename_i e; cases h; simp only [tyD]; rw [if_pos e]; rfl))
  rename_i a
  split at h
  · rename_i e
    cases h
    simp only [tyD, e]
    rfl
  · rename_i e
    cases h
    simp only [tyD, e]
    rfl
  · rename_i e
    split at h
    · rename_i c
      cases h
      simp only [tyD, e]
      rw [if_pos c]
      rfl
    · cases h
  · cases h
def names6 : List String := ["int", "bool", "str", "tuple", "list", "dict"]
def names7 : List String := ["NoneType", "bool", "int", "str", "tuple", "list", "dict"]
def Kd.is : Kd → String → Bool
  | .int, n => n == "int"
  | .bl, n => n == "int" || n == "bool"
  | .str, n => n == "str"
  | .tup, n => n == "tuple"
  | .lst, n => n == "list"
  | .dct, n => n == "dict"
  | _, _ => false
structure AdB (ad : Ad) : Prop where
  b : ∀ m n r, kitB m n = some r → ad.inst (.type m) (.type n) = some r
  ct : ∀ C, (inS ad C || inO ad C) = true → ∀ n ∈ names6, ad.inst (.ref C) (.type n) = some false
  cc : ∀ C, (inS ad C || inO ad C || inE ad C) = true → ad.inst (.ref C) (.ref C) = some true
  nc : ∀ C, (inS ad C || inO ad C || inE ad C) = true → ∀ n ∈ names7, ad.inst (.type n) (.ref C) = some false
  cd : ∀ C D, (inS ad C || inO ad C) = true → (inS ad D || inO ad D) = true → C ≠ D → ad.inst (.ref C) (.ref D) = some false
theorem inst_n {ad : Ad} (o : AdB ad) {T : Td} {x : D} {k : Kd} (h : kdD ad T x = some k) (he : ∀ C, k ≠ .exc C) {n : String} (hn : n ∈ names6) : ad.inst k.ty (.type n) = some (k.is n) := by
  cases k with
  | cls C =>
    have hc : (inS ad C || inO ad C) = true := by
      unfold kdD at h
      split at h <;> try (cases h; done)
      · split at h
        · rename_i e; cases h; rw [e]; rfl
        · cases h
      · split at h
        · rename_i e; cases h; rw [e, Bool.or_true]
        · cases h
      · split at h <;> cases h
      · split at h <;> try (cases h; done)
        split at h
        · rename_i e; cases h; rw [e, Bool.or_true]
        · cases h
    exact o.ct C hc n hn
  | exc C => exact absurd rfl (he C)
  | _ =>
    refine o.b _ _ _ ?_
    unfold names6 at hn
    simp only [List.mem_cons, List.not_mem_nil, or_false] at hn
    rcases hn with rfl | rfl | rfl | rfl | rfl | rfl <;> decide +kernel
end K1
namespace K1
open PySem PySem.Spec PyProof.Rows L2 VX DL RQ
namespace Ad
abbrev BadWorth (ad : Ad) : Addr := ad.at_ 4
abbrev NoQuotient (ad : Ad) : Addr := ad.at_ 5
abbrev BadText (ad : Ad) : Addr := ad.at_ 6
abbrev p_above (ad : Ad) : Addr := ad.at_ 7
abbrev p_below (ad : Ad) : Addr := ad.at_ 8
abbrev m_is_integer (ad : Ad) : Addr := ad.at_ 9
abbrev m_common_divisor (ad : Ad) : Addr := ad.at_ 10
abbrev m_is_figures (ad : Ad) : Addr := ad.at_ 11
abbrev m_Winit (ad : Ad) : Addr := ad.at_ 12
abbrev m_Wnumber (ad : Ad) : Addr := ad.at_ 13
abbrev m_Wunder (ad : Ad) : Addr := ad.at_ 14
abbrev m_Wtext (ad : Ad) : Addr := ad.at_ 15
abbrev m_Wof (ad : Ad) : Addr := ad.at_ 16
abbrev m_Wrepr (ad : Ad) : Addr := ad.at_ 17
abbrev m_Weq (ad : Ad) : Addr := ad.at_ 18
abbrev m_l_jar (ad : Ad) : Addr := ad.at_ 19
abbrev m_l_take (ad : Ad) : Addr := ad.at_ 20
abbrev m_l_of (ad : Ad) : Addr := ad.at_ 21
abbrev m_l_frac (ad : Ad) : Addr := ad.at_ 22
abbrev m_l_whole (ad : Ad) : Addr := ad.at_ 23
abbrev m_l_worth_text (ad : Ad) : Addr := ad.at_ 24
abbrev m_l_caught (ad : Ad) : Addr := ad.at_ 25
abbrev m_l_pair_in (ad : Ad) : Addr := ad.at_ 26
abbrev m_l_is_long (ad : Ad) : Addr := ad.at_ 27
abbrev m_l_text_right (ad : Ad) : Addr := ad.at_ 28
abbrev m_l_bent (ad : Ad) : Addr := ad.at_ 29
abbrev m_l_repr_due (ad : Ad) : Addr := ad.at_ 30
abbrev m_l_fine (ad : Ad) : Addr := ad.at_ 31
abbrev c_l_text_right (ad : Ad) : Addr := ad.at_ 32
abbrev P_l_text_right (ad : Ad) : Addr := ad.at_ 33
abbrev c_l_fine (ad : Ad) : Addr := ad.at_ 34
abbrev P_l_fine (ad : Ad) : Addr := ad.at_ 35
abbrev p_Wtext (ad : Ad) : Addr := ad.at_ 36
abbrev p_Wof (ad : Ad) : Addr := ad.at_ 37
abbrev p_Wnumber (ad : Ad) : Addr := ad.at_ 38
abbrev p_Wunder (ad : Ad) : Addr := ad.at_ 39
end Ad
end K1
namespace K1
open PySem PySem.Spec PyProof.Rows L2 VX DL RQ
section
variable {ad : Ad} {T : Td} {Q : KD} {E : XD} {i j : Int} {x y : D}
theorem sz {n : Nat} (h : n ≤ 10000) : n ≤ sizeLine := by rw [sizeLine_eq]; omega
theorem bi {x : Int} (h : x.natAbs < 2 ^ 64) : Builtin.Int.intBits x ≤ 64 := intBits_le_iff.2 h
/-! ### ints -/
theorem q_add (q : Q (.int (i + j)) T) : O2 rAdd (.int i) (.int j) T Q E := ⟨⟨trivial, q⟩⟩
theorem q_sub (q : Q (.int (i - j)) T) : O2 rSub (.int i) (.int j) T Q E := ⟨⟨trivial, q⟩⟩
theorem q_mul (h : IntMulOk i j) (q : Q (.int (i * j)) T) : O2 rMul (.int i) (.int j) T Q E := ⟨⟨h, q⟩⟩
theorem q_mulL (h : i.natAbs < 2 ^ 64) (q : Q (.int (i * j)) T) : O2 rMul (.int i) (.int j) T Q E := ⟨⟨.of_left (bi h), q⟩⟩
theorem q_mulR (h : j.natAbs < 2 ^ 64) (q : Q (.int (i * j)) T) : O2 rMul (.int i) (.int j) T Q E := ⟨⟨.of_right (bi h), q⟩⟩
theorem log2_lt {n k m : Nat} (h : n < 2 ^ k) (hm : k ≤ m) (h0 : 0 < m) : n.log2 < m := by
  by_cases e : n = 0
  · subst e; simpa using h0
  · exact Nat.lt_of_lt_of_le ((Nat.log2_lt e).2 h) hm
theorem q_fdv (h0 : j ≠ 0) (h : j.natAbs < 2 ^ 8999) (q : Q (.int (i.fdiv j)) T) : O2 rFdv (.int i) (.int j) T Q E := ⟨⟨⟨h0, log2_lt h (by decide) (by decide)⟩, q⟩⟩
theorem lt_8999 {n : Nat} (k : Nat) (h : n < 2 ^ k) (hk : k ≤ 8999) : n < 2 ^ 8999 := Nat.lt_of_lt_of_le h (Nat.pow_le_pow_right (by decide) hk)
theorem q_fdvS (h0 : j ≠ 0) (h : j.natAbs < 2 ^ 64) (q : Q (.int (i.fdiv j)) T) : O2 rFdv (.int i) (.int j) T Q E := q_fdv h0 (lt_8999 64 h (by decide)) q
theorem q_mod (h0 : j ≠ 0) (q : Q (.int (i.fmod j)) T) : O2 rMod (.int i) (.int j) T Q E := ⟨⟨h0, q⟩⟩
theorem q_pow (h : CPw i j) (q : Q (.int (i ^ j.toNat)) T) : O2 rPow (.int i) (.int j) T Q E := ⟨⟨h, q⟩⟩
theorem q_lt (q : Q (.bl (decide (i < j))) T) : O2 rLt (.int i) (.int j) T Q E := ⟨⟨trivial, q⟩⟩
theorem q_le (q : Q (.bl (decide (i ≤ j))) T) : O2 rLe (.int i) (.int j) T Q E := ⟨⟨trivial, q⟩⟩
theorem q_gt (q : Q (.bl (decide (j < i))) T) : O2 rGt (.int i) (.int j) T Q E := ⟨⟨trivial, q⟩⟩
theorem q_ge (q : Q (.bl (decide (j ≤ i))) T) : O2 rGe (.int i) (.int j) T Q E := ⟨⟨trivial, q⟩⟩
theorem q_neg (q : Q (.int (-i)) T) : O1 rNeg (.int i) T Q E := ⟨q⟩
theorem q_abs (q : Q (.int i.natAbs) T) : OL rAbs [.int i] T Q E := ⟨⟨trivial, q⟩⟩
theorem q_max (q : Q (.int (max i j)) T) : OL rMax [.int i, .int j] T Q E := ⟨q⟩
theorem q_min (q : Q (.int (min i j)) T) : OL rMin [.int i, .int j] T Q E := ⟨q⟩
theorem q_int (q : Q (.int i) T) : OL rIntS [.int i] T Q E := ⟨q⟩
theorem q_intb {b : Bool} (q : Q (.int (if b then 1 else 0)) T) : OL rIntS [.bl b] T Q E := ⟨q⟩
theorem q_intS {s : Str} {n : Int} (h : PySem.intText? s = some n) (hl : s.length ≤ 640) (q : Q (.int n) T) : OL rIntS [.str s] T Q E := ⟨by simp only [rIntS, h]; exact ⟨hl, q⟩⟩
/-! ### ==, texts -/
theorem q_eqI (q : Q (.bl (decide (i = j))) T) : O2 rEqS (.int i) (.int j) T Q E := ⟨q⟩
theorem q_neI (q : Q (.bl (!decide (i = j))) T) : O2 rNeS (.int i) (.int j) T Q E := ⟨q⟩
theorem q_eqT {s t : Str} (q : Q (.bl (decide (s = t))) T) : O2 rEqS (.str s) (.str t) T Q E := ⟨q⟩
theorem q_neT {s t : Str} (q : Q (.bl (!decide (s = t))) T) : O2 rNeS (.str s) (.str t) T Q E := ⟨q⟩
theorem q_eqN {g : Bool → Bool} {d e : PyData} (hx : pyD T x = some d) (hy : pyD T y = some e) (s1 : SeqAt.shaped d = true) (s2 : SeqAt.shaped e = true) (q : Q (.bl (g (PyData.eqv d e))) T) : O2 (rEqN g) x y T Q E := ⟨by unfold rEqN; rw [hx, hy]; exact ⟨s1, s2, q⟩⟩
theorem q_addS {s t : Str} (h : s.length + t.length ≤ sizeLine) (q : Q (.str (s ++ t)) T) : O2 rSS (.str s) (.str t) T Q E := ⟨⟨h, q⟩⟩
theorem q_str (h : i.natAbs < 2 ^ 1919) (q : Q (.str (toString i)) T) : OL rStr [.int i] T Q E := ⟨⟨log2_lt h (by decide) (by decide), q⟩⟩
theorem q_strS {s : Str} (q : Q (.str s) T) : OL rStr [.str s] T Q E := ⟨q⟩
theorem q_isN {b : Bool} (h : isN x = some b) (q : Q (.bl b) T) : O2 rIsN x .non T Q E := ⟨by simp only [rIsN, h]; exact q⟩
theorem q_notN {b : Bool} (h : isN x = some b) (q : Q (.bl (!b)) T) : O2 rNotN x .non T Q E := ⟨by simp only [rNotN, h]; exact q⟩
theorem q_sign {c : Nat} {z : Str} (q : Q (.bl (decide (c ∈ z.cps.toList))) T) : O2 (rSign false) (.str ⟨#[c]⟩) (.str z) T Q E := ⟨⟨c, rfl, q⟩⟩
/-! ### rows -/
theorem q_lenS {s : Str} (h : s.length ≤ sizeLine) (q : Q (.int s.length) T) : OL rLenU [.str s] T Q E := ⟨⟨h, q⟩⟩
theorem q_lenL {xs : List D} (q : Q (.int xs.length) T) : OL rLenU [.lst xs] T Q E := ⟨q⟩
theorem q_lenT {xs : List D} (q : Q (.int xs.length) T) : OL rLenU [.tup xs] T Q E := ⟨q⟩
theorem q_lenR {a : Addr} {xs : List D} (h : T a = some (.lst xs)) (q : Q (.int xs.length) T) : OL rLenU [.ref a] T Q E := ⟨by simp only [rLenU, dctD, rLenQ, lenD, h]; exact q⟩
theorem q_lenD {ks : List Key} {xs : List D} (q : Q (.int ks.length) T) : OL rLenU [.dct ks xs] T Q E := ⟨q⟩
theorem q_ix {xs : List D} {n : Nat} (hx : itemsD T x = some xs) (h : xs[n]? = some y) (q : Q y T) : O2 DL.rIx x (.int n) T Q E := ⟨by
  have hn : n < xs.length := (List.getElem?_eq_some_iff.1 h).1
  have e : atI xs (n : Int) = some y := by
    unfold atI ixN
    rw [if_pos (by omega), if_pos (by omega)]
    exact h
  simp only [DL.rIx, hx, e]
  exact q⟩
theorem q_ixI {xs : List D} (hx : itemsD T x = some xs) (h0 : 0 ≤ i) (h : xs[i.toNat]? = some y) (q : Q y T) : O2 DL.rIx x (.int i) T Q E := by
  have := q_ix (E := E) hx h q
  rwa [Int.toNat_of_nonneg h0] at this
theorem q_ix0 {xs : List D} (hx : itemsD T x = some (y :: xs)) (q : Q y T) : O2 DL.rIx x (.int 0) T Q E := q_ix (n := 0) hx rfl q
theorem q_ix1 {z : D} {xs : List D} (hx : itemsD T x = some (z :: y :: xs)) (q : Q y T) : O2 DL.rIx x (.int 1) T Q E := q_ix (n := 1) hx rfl q
theorem q_ix2 {z u : D} {xs : List D} (hx : itemsD T x = some (z :: u :: y :: xs)) (q : Q y T) : O2 DL.rIx x (.int 2) T Q E := q_ix (n := 2) hx rfl q
theorem bls_map : ∀ bs : List Bool, blsD (bs.map D.bl) = some bs
  | [] => rfl
  | b :: bs => by rw [List.map_cons, blsD, bls_map bs]; rfl
theorem q_allL {f : List Bool → Bool} {bs : List Bool} (q : Q (.bl (f bs)) T) : OL (rAllD f) [.lst (bs.map D.bl)] T Q E := ⟨⟨rfl, by rw [bls_map]; exact q⟩⟩
/-! ### kinds -/
theorem q_isi {k : Kd} {c : D} {u : Value} {b : Bool} (hk : kdD ad T x = some k) (hc : clsV c = some u) (hi : ad.inst k.ty u = some b) (q : Q (.bl b) T) : OL (rIsiD (inS ad) (inE ad) (inO ad) ad.inst) [x, c] T Q E := ⟨by
  simp only [rIsiD, ty_kd hk, hc, hi]
  exact q⟩
theorem q_isin (o : AdB ad) {k : Kd} {n : String} (hk : kdD ad T x = some k) (he : ∀ C, k ≠ .exc C) (hn : n ∈ names6) (q : Q (.bl (k.is n)) T) : OL (rIsiD (inS ad) (inE ad) (inO ad) ad.inst) [x, .val (.ty n)] T Q E :=
  q_isi hk rfl (inst_n o hk he hn) q
theorem n_int : "int" ∈ names6 := by simp [names6]
theorem n_bool : "bool" ∈ names6 := by simp [names6]
theorem n_str : "str" ∈ names6 := by simp [names6]
theorem n_tuple : "tuple" ∈ names6 := by simp [names6]
theorem n_list : "list" ∈ names6 := by simp [names6]
theorem n_dict : "dict" ∈ names6 := by simp [names6]
/-! ### repr -/
theorem q_repr {n : Nat} {t : Str} (h : reprD ad.own x = some t) (hd : depthD x ≤ n) (q : Q (.str t) T) : OL (rRepr ad.own n) [x] T Q E := ⟨⟨hd, by rw [h]; exact q⟩⟩
end
theorem ift {A B : Prop} (a : A) : IfP true A B := .t rfl a
theorem iff_ {A B : Prop} (b : B) : IfP false A B := .f rfl b
end K1
namespace K1
open PySem PySem.Spec PyProof.Rows L2 VX DL RQ TL
/-! ### texts of worths, and how they are read -/
def isDig (c : Nat) : Bool := decide (c ∈ tl ("0123456789" : Str))
theorem dig_list : tl ("0123456789" : Str) = [48, 49, 50, 51, 52, 53, 54, 55, 56, 57] := by rw [tl_ofString]; rfl
theorem isDig_iff {c : Nat} : isDig c = true ↔ 48 ≤ c ∧ c ≤ 57 := by
  unfold isDig
  rw [dig_list, decide_eq_true_iff]
  simp only [List.mem_cons, List.not_mem_nil, or_false]
  omega
def figs (s : Str) : Bool := decide (s ≠ "") && (tl s).all isDig
def natS (s : Str) : Int := (intText? s).getD 0
def negS (s : Str) : Bool := decide (cutS s none (some 1) = "-")
def bodyS (s : Str) : Str := if negS s then cutS s (some 1) none else s
def sgS (s : Str) (n : Int) : Int := if negS s then -n else n
def partsS (s : Str) : List Str := Txt.split (bodyS s) "/"
def qText (q : Rat) : Str := if q.den = 1 then Str.ofString (toString q.num) else (Str.ofString (toString q.num) ++ "/") ++ Str.ofString (toString (q.den : Int))
def rText (q : Rat) : Str := if q.den = 1 then ("Worth(" ++ Str.ofString (toString q.num)) ++ ")" else ((("Worth(" ++ Str.ofString (toString q.num)) ++ ", ") ++ Str.ofString (toString (q.den : Int))) ++ ")"
def lowS (s : Str) : Int := match partsS s with
  | [_, l] => natS l
  | _ => 1
def topS (s : Str) : Int := sgS s (natS ((partsS s).headD ""))
def okS (s : Str) : Bool := decide ((partsS s).length ≤ 2) && (partsS s).all figs
def parseS (s : Str) : Option Rat := if okS s = true ∧ lowS s ≠ 0 ∧ qText (Rat.divInt (topS s) (lowS s)) = s then some (Rat.divInt (topS s) (lowS s)) else none
theorem eapp (s : Str) : Str.empty ++ s = s := ext_tl (by rw [tl_append]; rfl)
theorem slen {s t : Str} : (s ++ t).length = s.length + t.length := Str.length_append ..
theorem figs_all {s : Str} (h : figs s = true) : NumText.AllDigits (tl s) ∧ tl s ≠ [] := by
  unfold figs at h
  rw [Bool.and_eq_true] at h
  refine ⟨fun c hc => isDig_iff.1 (List.all_eq_true.1 h.2 c hc), fun e => of_decide_eq_true h.1 (ext_tl ?_)⟩
  rw [e, tl_ofString]
  rfl
theorem figs_int {s : Str} (h : figs s = true) (hl : s.length ≤ 640) : ∃ n : Nat, intText? s = some (n : Int) ∧ natS s = n ∧ n < 10 ^ s.length := by
  obtain ⟨h1, h2⟩ := figs_all h
  have e := intText_digits h1 h2 (by omega)
  refine ⟨_, e, by unfold natS; rw [e]; rfl, ?_⟩
  rw [len_tl]
  exact val_lt _ h1
where
  val_lt : ∀ (l : List Nat), NumText.AllDigits l → NumText.digitsVal l < 10 ^ l.length := fun l h => by
    have key : ∀ (l : List Nat) (a : Nat), NumText.AllDigits l → l.foldl (fun acc c => acc * 10 + (c - 48)) a < (a + 1) * 10 ^ l.length := by
      intro l
      induction l with
      | nil => intro a _; simp
      | cons c l ih =>
        intro a h
        have hc := h.head
        have q := ih (a * 10 + (c - 48)) h.tail
        rw [List.foldl_cons, List.length_cons, Nat.pow_succ]
        refine Nat.lt_of_lt_of_le q ?_
        have : (a * 10 + (c - 48) + 1) ≤ (a + 1) * 10 := by omega
        calc (a * 10 + (c - 48) + 1) * 10 ^ l.length ≤ ((a + 1) * 10) * 10 ^ l.length := Nat.mul_le_mul_right _ this
          _ = (a + 1) * (10 ^ l.length * 10) := by rw [Nat.mul_assoc, Nat.mul_comm 10]
    have := key l 0 h
    simpa [NumText.digitsVal] using this
theorem tl_int (i : Int) : tl (Str.ofString (toString i)) = if i < 0 then 45 :: numL i.natAbs else numL i.natAbs := by
  cases i with
  | ofNat n =>
    rw [if_neg (show ¬ (Int.ofNat n < 0) from Int.not_lt.2 (Int.natCast_nonneg n))]
    exact tl_num n
  | negSucc n =>
    rw [if_pos (by omega), tl_ofString]
    have h := tl_num (n + 1)
    rw [tl_ofString] at h
    have e : toString (Int.negSucc n) = "-" ++ toString (n + 1) := rfl
    have e2 : toString ((n + 1 : Nat) : Int) = toString (n + 1) := rfl
    rw [e2] at h
    rw [e, String.toList_append, List.map_append, h]
    rfl
theorem cut1 (s : Str) : tl (cutS s none (some 1)) = (tl s).take 1 := by
  show ((tl s).drop 0).take (HT.sIx s.length s.length (some 1) - 0) = _
  rw [show HT.sIx s.length s.length (some 1) = min 1 s.length from HT.sIx_nat _ _ 1, List.drop_zero, Nat.sub_zero, len_tl]
  by_cases h : (tl s).length = 0
  · rw [List.length_eq_zero_iff.1 h]; rfl
  · rw [Nat.min_eq_left (by omega)]
theorem cut2 (s : Str) : tl (cutS s (some 1) none) = (tl s).drop 1 := by
  show ((tl s).drop (HT.sIx s.length 0 (some 1))).take (HT.sIx s.length s.length none - HT.sIx s.length 0 (some 1)) = _
  rw [show HT.sIx s.length 0 (some 1) = min 1 s.length from HT.sIx_nat _ _ 1, HT.sIx_none, len_tl]
  by_cases h : (tl s).length = 0
  · rw [List.length_eq_zero_iff.1 h]; rfl
  · rw [Nat.min_eq_left (by omega), List.take_of_length_le (by rw [List.length_drop]; omega)]
theorem neg_iff (s : Str) : negS s = true ↔ ∃ r, tl s = 45 :: r := by
  unfold negS
  rw [decide_eq_true_iff]
  constructor
  · intro h
    have e := congrArg tl h
    rw [cut1, tl_ofString] at e
    cases q : tl s with
    | nil => rw [q] at e; cases e
    | cons c r =>
      rw [q] at e
      have e' : [c] = [45] := e
      cases e'
      exact ⟨r, rfl⟩
  · rintro ⟨r, e⟩
    apply ext_tl
    rw [cut1, e, tl_ofString]
    rfl
theorem body_tl (s : Str) : tl (bodyS s) = if negS s then (tl s).drop 1 else tl s := by
  unfold bodyS
  split
  · exact cut2 s
  · rfl
theorem body_len (s : Str) : (bodyS s).length ≤ s.length := by
  unfold bodyS
  split
  · exact cutS_length s _ _
  · exact Nat.le_refl _
theorem part_len {x y : Str} (hy : tl y ≠ []) {p : Str} (h : p ∈ Txt.split x y) : p.length ≤ x.length := by
  have e := congrArg Str.length (StrLaws.join_split x y)
  have key : ∀ (l : List Str), p ∈ l → p.length ≤ (Str.join y l).length := by
    intro l
    induction l with
    | nil => intro h; cases h
    | cons a l ih =>
      intro h
      cases l with
      | nil =>
        rw [List.mem_singleton] at h
        subst h
        exact Nat.le_refl _
      | cons b l =>
        show p.length ≤ (a ++ y ++ Str.join y (b :: l)).length
        rw [slen, slen]
        rcases List.mem_cons.1 h with h | h
        · subst h; omega
        · have := ih h; omega
  have := key _ h
  omega
theorem parts_ne (s : Str) : partsS s ≠ [] := by
  unfold partsS
  have h := split_spl (bodyS s) "/" (by rw [tl_ofString]; exact List.cons_ne_nil _ _) (kind_ok (by decide +kernel))
  intro e
  rw [e] at h
  have : ∀ (S l acc : List Nat) k, spl S k acc l ≠ [] := by
    intro S l
    induction l with
    | nil => intro acc k h; rw [spl_nil] at h; cases h
    | cons c r ih =>
      intro acc k h
      cases k with
      | zero =>
        unfold spl at h
        split at h
        · cases h
        · exact ih _ _ h
      | succ k => exact ih _ _ h
  exact this _ _ _ _ h.symm
theorem slash : tl ("/" : Str) = [47] := by rw [tl_ofString]; rfl
/-- the text of a worth reads as this worth -/
theorem parse_text (q : Rat) (h1 : q.num.natAbs < 10 ^ 300) (h2 : q.den < 10 ^ 300) : parseS (qText q) = some q := by
  have hb : tl (bodyS (qText q)) = if q.den = 1 then numL q.num.natAbs else numL q.num.natAbs ++ ([47] ++ numL q.den) := by
    have hn : ∀ n, (numL n).head? ≠ some 45 := fun n => by
      cases e : numL n with
      | nil => exact fun h => nomatch h
      | cons c r =>
        intro h
        cases h
        have := numL_digits n 45 (by rw [e]; exact List.mem_cons_self)
        omega
    rw [body_tl]
    have et : tl (qText q) = (if q.num < 0 then 45 :: numL q.num.natAbs else numL q.num.natAbs) ++ (if q.den = 1 then [] else [47] ++ numL q.den) := by
      unfold qText
      split
      · rw [tl_int, List.append_nil]
      · rw [tl_append, tl_append, tl_int, tl_int, slash, if_neg (show ¬ ((q.den : Int) < 0) by omega), Int.natAbs_natCast, List.append_assoc]
    by_cases hneg : q.num < 0
    · have : negS (qText q) = true := (neg_iff _).2 ⟨_, by rw [et, if_pos hneg]; rfl⟩
      rw [this, if_pos rfl, et, if_pos hneg]
      split <;> simp
    · have : negS (qText q) = false := by
        rw [Bool.eq_false_iff]
        intro h
        obtain ⟨r, e⟩ := (neg_iff _).1 h
        rw [et, if_neg hneg] at e
        have hne := numL_ne q.num.natAbs
        cases e2 : numL q.num.natAbs with
        | nil => exact hne e2
        | cons c r' =>
          rw [e2] at e
          have := List.cons.inj e
          exact hn q.num.natAbs (by rw [e2, this.1]; rfl)
      rw [this, if_neg Bool.false_ne_true, et, if_neg hneg]
      split <;> simp
  have hs : sgS (qText q) (q.num.natAbs : Int) = q.num := by
    unfold sgS
    by_cases hneg : q.num < 0
    · have : negS (qText q) = true := (neg_iff _).2 ⟨numL q.num.natAbs ++ (if q.den = 1 then [] else [47] ++ numL q.den), by
        unfold qText
        split
        · rw [tl_int, if_pos hneg, List.append_nil]
        · rw [tl_append, tl_append, tl_int, tl_int, slash, if_neg (show ¬ ((q.den : Int) < 0) by omega), if_pos hneg, Int.natAbs_natCast, List.append_assoc]; rfl⟩
      rw [this, if_pos rfl]
      omega
    · have : negS (qText q) = false := by
        rw [Bool.eq_false_iff]
        intro h
        obtain ⟨r, e⟩ := (neg_iff _).1 h
        unfold qText at e
        have hne := numL_ne q.num.natAbs
        have bad : ∀ rest, numL q.num.natAbs ++ rest = 45 :: r → False := fun rest e => by
          cases e2 : numL q.num.natAbs with
          | nil => exact hne e2
          | cons c r' =>
            rw [e2] at e
            have hc := (List.cons.inj e).1
            have := numL_digits q.num.natAbs c (by rw [e2]; exact List.mem_cons_self)
            omega
        split at e
        · rw [tl_int, if_neg hneg] at e
          exact bad [] (by rw [List.append_nil]; exact e)
        · rw [tl_append, tl_append, tl_int, if_neg hneg, List.append_assoc] at e
          exact bad _ e
      rw [this, if_neg Bool.false_ne_true]
      omega
  have hsl : ∀ n, (47 : Nat) ∉ numL n := fun n => numL_free (by omega)
  have hp : partsS (qText q) = if q.den = 1 then [⟨(numL q.num.natAbs).toArray⟩] else [⟨(numL q.num.natAbs).toArray⟩, ⟨(numL q.den).toArray⟩] := by
    apply map_tl_inj
    unfold partsS
    rw [split_spl _ _ (by rw [slash]; exact List.cons_ne_nil _ _) (kind_ok (by decide +kernel)), hb, slash]
    split
    · rw [spl_last1 (hsl _)]
      simp [tl]
    · rw [spl_part1 (S := []) (hsl _), spl_last1 (hsl _)]
      simp [tl]
  have fg : ∀ n, figs ⟨(numL n).toArray⟩ = true := fun n => by
    unfold figs
    rw [Bool.and_eq_true]
    refine ⟨decide_eq_true fun e => numL_ne n ?_, List.all_eq_true.2 fun c hc => isDig_iff.2 (numL_digits n c (by simpa [tl] using hc))⟩
    have := congrArg tl e
    rw [tl_ofString] at this
    simpa [tl] using this
  have nt : ∀ n, n < 10 ^ 300 → natS ⟨(numL n).toArray⟩ = n := fun n hn => by
    have hl := numL_len (k := 300) (by decide) hn
    unfold natS
    rw [intText_digits (x := ⟨(numL n).toArray⟩) (by simpa using numL_digits n) (by simpa using numL_ne n) (by show (numL n).toArray.size ≤ 4300; simp; omega)]
    simp [numL_val]
  have lo : lowS (qText q) = q.den := by
    unfold lowS
    rw [hp]
    by_cases hd : q.den = 1
    · rw [if_pos hd, hd]; rfl
    · rw [if_neg hd]; exact nt _ h2
  have tp : topS (qText q) = q.num := by
    unfold topS
    rw [hp]
    split <;> (simp only [List.headD_cons]; rw [nt _ h1]; exact hs)
  have ok : okS (qText q) = true := by
    unfold okS
    rw [hp]
    split <;> simp [fg]
  have hd := den0 q
  unfold parseS
  rw [ok, lo, tp, q_self, if_pos ⟨rfl, hd, rfl⟩]
end K1
namespace K1
open PySem PySem.Spec PyProof.Rows L2 VX DL RQ
structure OwnR0 (P : Program) (w : World) (K : PySem.W.Frag) (mg : Str → Option Value) (base : Heap) (k : Nat) (own : Addr → Option (List Str) → List D → Option Str) : Prop where
  ex : ∀ C n xs t, own C n xs = some t → ∃ f, PySem.W.findIn K (.ref C) "__repr__" = some (some (.ref f)) ∧ PySem.W.isFn K (.ref f) = true ∧
    FnR P w K mg base (L2.CX P w) k f (liftSp K fun ds T Q _ => ds = [ownD C n xs] ∧ Q (.str t) T)
/-! ### worths -/
def wq (ad : Ad) (q : Rat) : D := .slo ad.Worth [.int q.num, .int q.den]
def fq (q : Rat) : D := .tup [.int q.num, .int q.den]
inductive Num (ad : Ad) : D → Rat → Prop where
  | int (i : Int) : Num ad (.int i) (i : Rat)
  | w (q : Rat) : Num ad (wq ad q) q
def Kd.isNum (ad : Ad) : Kd → Bool
  | .int => true
  | .cls C => decide (C = ad.Worth)
  | _ => false
def NoExc (k : Kd) : Prop := ∀ C, k ≠ .exc C
def TxtOk (q : Rat) : Prop := q.num.natAbs < 2 ^ 1919 ∧ q.den < 2 ^ 1919
structure AdW (ad : Ad) : Prop extends AdB ad where
  ws : inS ad ad.Worth = true
  wo : ∀ q : Rat, TxtOk q → ad.own ad.Worth none [.int q.num, .int q.den] = some (rText q)
/-! ### promises -/
structure sp_is_integer (ad : Ad) (xs : List D) (T : Td) (Q : KD) (E : XD) : Prop where
  h : ∃ x k, xs = [x] ∧ kdD ad T x = some k ∧ NoExc k ∧ Q (.bl (k.is "int" && !k.is "bool")) T
structure sp_common_divisor (ad : Ad) (xs : List D) (T : Td) (Q : KD) (E : XD) : Prop where
  h : ∃ a b : Nat, xs = [.int a, .int b] ∧ Q (.int (Nat.gcd a b)) T
structure sp_is_figures (ad : Ad) (xs : List D) (T : Td) (Q : KD) (E : XD) : Prop where
  h : ∃ s, xs = [.str s] ∧ s.length ≤ 10000 ∧ Q (.bl (figs s)) T
def excD (C : Addr) (x : D) : Ex := ⟨.ref C, ["value"], [x]⟩
structure sp_Winit (ad : Ad) (xs : List D) (T : Td) (Q : KD) (E : XD) : Prop where
  h : ∃ a n u, xs = [.ref a, n, u] ∧ T a = some (.slo ad.Worth []) ∧
  ((∃ i j : Int, n = .int i ∧ u = .int j ∧ j ≠ 0 ∧ j.natAbs < 2 ^ 8999 ∧ Q .non (tput T a (.slo ad.Worth [some (.int (Rat.divInt i j).num), some (.int (Rat.divInt i j).den)]))) ∨
   (∃ p q, kdD ad T n = some p ∧ kdD ad T u = some q ∧ NoExc p ∧ NoExc q ∧ (p ≠ .int ∨ q ≠ .int ∨ u = .int 0) ∧ E (excD ad.BadWorth (.tup [n, u])) T))
structure sp1_Winit (ad : Ad) (xs : List D) (T : Td) (Q : KD) (E : XD) : Prop where
  h : sp_Winit ad (xs ++ [.int 1]) T Q E
structure sp_Wnumber (ad : Ad) (xs : List D) (T : Td) (Q : KD) (E : XD) : Prop where
  h : ∃ q, xs = [wq ad q] ∧ Q (.int q.num) T
structure sp_Wunder (ad : Ad) (xs : List D) (T : Td) (Q : KD) (E : XD) : Prop where
  h : ∃ q : Rat, xs = [wq ad q] ∧ Q (.int q.den) T
structure sp_Wtext (ad : Ad) (xs : List D) (T : Td) (Q : KD) (E : XD) : Prop where
  h : ∃ q, xs = [wq ad q] ∧ TxtOk q ∧ Q (.str (qText q)) T
structure sp_Wrepr (ad : Ad) (xs : List D) (T : Td) (Q : KD) (E : XD) : Prop where
  h : ∃ q, xs = [wq ad q] ∧ TxtOk q ∧ Q (.str (rText q)) T
structure sp_Wof (ad : Ad) (xs : List D) (T : Td) (Q : KD) (E : XD) : Prop where
  h : ∃ x, xs = [x] ∧ ((∃ s, x = .str s ∧ s.length ≤ 500 ∧ (∀ q, parseS s = some q → Q (wq ad q) T) ∧ (parseS s = none → E (excD ad.BadText (.str s)) T)) ∨
    (∃ k, kdD ad T x = some k ∧ NoExc k ∧ k ≠ .str ∧ E (excD ad.BadText x) T))
structure sp_Weq (ad : Ad) (xs : List D) (T : Td) (Q : KD) (E : XD) : Prop where
  h : ∃ p y, xs = [wq ad p, y] ∧ ((∃ q, y = wq ad q ∧ Q (.bl (decide (p = q))) T) ∨ (∃ k, kdD ad T y = some k ∧ NoExc k ∧ k ≠ .cls ad.Worth ∧ Q (.bl false) T))
/-! ### the law's draws -/
/-- a jar, at most n takes old -/
def JOk (n : Nat) (T : Td) (j : Addr) : Prop := ∃ a b c : Int, T j = some (.lst [.int a, .int b, .int c]) ∧ 0 ≤ a ∧ a.natAbs < 2 ^ 2000 ∧ 0 ≤ b ∧ b < 2 ^ 61 ∧ 0 ≤ c ∧ c ≤ n
def Ag (j : Addr) (T T' : Td) : Prop := ∀ b, b ≠ j → T' b = T b
structure sp_l_jar (ad : Ad) (xs : List D) (T : Td) (Q : KD) (E : XD) : Prop where
  h : ∃ (zs : List Int) (k : Nat), xs = [.lst (zs.map D.int), .int k] ∧ k ≤ 100 ∧ (∀ z ∈ zs, Builtin.Int.intBits z ≤ 1048576) ∧ ∀ j T', T j = none → JOk 0 T' j → Ag j T T' → Q (.ref j) T'
structure sp_l_take (ad : Ad) (xs : List D) (T : Td) (Q : KD) (E : XD) : Prop where
  h : ∃ (j : Addr) (m : Int) (n : Nat), xs = [.ref j, .int m] ∧ JOk n T j ∧ n ≤ 2 ^ 40 ∧ 1 ≤ m ∧ m ≤ 10 ^ 8 ∧ ∀ (r : Int) T', 0 ≤ r → r < m → JOk (n + 1) T' j → Ag j T T' → Q (.int r) T'
structure sp_l_of (ad : Ad) (xs : List D) (T : Td) (Q : KD) (E : XD) : Prop where
  h : ∃ (j : Addr) (ds : List D) (n : Nat), xs = [.ref j, .lst ds] ∧ JOk n T j ∧ n ≤ 2 ^ 40 ∧ ds ≠ [] ∧ ds.length ≤ 1000 ∧ ∀ d T', d ∈ ds → JOk (n + 1) T' j → Ag j T T' → Q d T'
structure sp_l_frac (ad : Ad) (xs : List D) (T : Td) (Q : KD) (E : XD) : Prop where
  h : ∃ a b : Int, xs = [.int a, .int b] ∧ 0 < b ∧ b.natAbs < 2 ^ 8999 ∧ Q (fq (Rat.divInt a b)) T
structure sp_l_whole (ad : Ad) (xs : List D) (T : Td) (Q : KD) (E : XD) : Prop where
  h : ∃ (j : Addr) (n : Nat), xs = [.ref j] ∧ JOk n T j ∧ n ≤ 2 ^ 39 ∧ ∀ (i : Int) T', i.natAbs ≤ 999999 → JOk (n + 3) T' j → Ag j T T' → Q (.int i) T'
structure sp_l_worth_text (ad : Ad) (xs : List D) (T : Td) (Q : KD) (E : XD) : Prop where
  h : ∃ q, xs = [fq q] ∧ TxtOk q ∧ Q (.str (qText q)) T
end K1
namespace K1
open PySem PySem.Spec PyProof.Rows L2 VX DL RQ TL
abbrev N_is_integer : List Str := ["value"]
def d_is_integer (ad : Ad) : TDS := (dRet (dAndV (dCL (rIsiD (inS ad) (inE ad) (inO ad) ad.inst) (dCons (dVar 0) (dCons (dC (.val (.ty "int"))) dNil))) (dNotV (dCL (rIsiD (inS ad) (inE ad) (inO ad) ad.inst) (dCons (dVar 0) (dCons (dC (.val (.ty "bool"))) dNil))))))
abbrev N_common_divisor : List Str := ["one", "other"]
def d_common_divisor (ad : Ad) : TDS := (dSeq (dCutS (dWhile (dTst (dBin rGt (dVar 1) (dC (.int 0)))) (dPar 0 1 (dCons (dVar 1) (dCons (dBin rMod (dVar 0) (dVar 1)) dNil)))))
    (dRet (dVar 0)))
abbrev N_is_figures : List Str := ["text", "sign"]
def d_is_figures (ad : Ad) : TDS := (dRet (dAndV (dBin rNeS (dVar 0) (dC (.str ""))) (dCL (rAllD (·.all id)) (dCons (dCut (dLc (diStr (dVar 0)) (dgName 1) dYes (dBin (rSign false) (dVar 1) (dC (.str "0123456789"))) [1])) dNil))))
abbrev N_Winit : List Str := ["self", "number", "under", "common"]
def d_Winit (ad : Ad) : TDS := (dSeq (dIfS (dOr (dNot (dTst (dCB (sp_is_integer ad) (dCons (dVar 1) dNil)))) (dOr (dNot (dTst (dCB (sp_is_integer ad) (dCons (dVar 2) dNil)))) (dTst (dBin rEqS (dVar 2) (dC (.int 0)))))) (dRaise (.ref ad.BadWorth) (dTup (dCons (dVar 1) (dCons (dVar 2) dNil)))) dNext)
    (dSeq (dSet 3 (dCB (sp_common_divisor ad) (dCons (dCL rAbs (dCons (dVar 1) dNil)) (dCons (dCL rAbs (dCons (dVar 2) dNil)) dNil))))
    (dSeq (dIfS (dTst (dBin rLt (dVar 2) (dC (.int 0)))) (dSet 3 (dUn rNeg (dVar 3))) dNext)
    (dSeq (dSlot ad.Worth 0 (dVar 0) (dBin rFdv (dVar 1) (dVar 3)))
    (dSlot ad.Worth 1 (dVar 0) (dBin rFdv (dVar 2) (dVar 3)))))))
abbrev N_Wnumber : List Str := ["self"]
def d_Wnumber (ad : Ad) : TDS := (dRet (dUn (rSlot ad.Worth 0) (dVar 0)))
abbrev N_Wunder : List Str := ["self"]
def d_Wunder (ad : Ad) : TDS := (dRet (dUn (rSlot ad.Worth 1) (dVar 0)))
abbrev N_Wtext : List Str := ["self"]
def d_Wtext (ad : Ad) : TDS := (dRet (dIf (dTst (dBin rEqS (dUn (rSlot ad.Worth 1) (dVar 0)) (dC (.int 1)))) (dCL rStr (dCons (dUn (rSlot ad.Worth 0) (dVar 0)) dNil)) (dJoin [(dFmt (dUn (rSlot ad.Worth 0) (dVar 0))), (dC (.str "/")), (dFmt (dUn (rSlot ad.Worth 1) (dVar 0)))])))
abbrev N_Wof : List Str := ["text", "head", "rest", "part", "under", "found"]
def d_Wof (ad : Ad) : TDS := (dSeq (dIfS (dOr (dNot (dTst (dCL (rIsiD (inS ad) (inE ad) (inO ad) ad.inst) (dCons (dVar 0) (dCons (dC (.val (.ty "str"))) dNil))))) (dTst (dBin rGt (dCL rLenU (dCons (dVar 0) dNil)) (dC (.int 900))))) (dRaise (.ref ad.BadText) (dVar 0)) dNext)
    (dSeq (dAsg (dM1S rSplit (dCut (dIf (dTst (dBin rEqS (dSl (dVar 0) dNoPart (dPart (dC (.int 1)))) (dC (.str "-")))) (dSl (dVar 0) (dPart (dC (.int 1))) dNoPart) (dVar 0))) (dC (.str "/"))) (dgStar (dgCons (dgName 1) (dgCons (dgName 2) dgNil))))
    (dSeq (dIfS (dOr (dTst (dBin rGt (dCL rLenU (dCons (dVar 2) dNil)) (dC (.int 1)))) (dNot (dTst (dCL (rAllD (·.all id)) (dCons (dCut (dLc (diSeqL (dLst (dCons (dVar 1) (dStar (dVar 2) dNil)))) (dgName 3) dYes (dCB (sp_is_figures ad) (dCons (dVar 3) dNil)) [3])) dNil))))) (dRaise (.ref ad.BadText) (dVar 0)) dNext)
    (dSeq (dSet 4 (dCut (dIf (dTst (dBin (rEqN (!·)) (dVar 2) (dLst dNil))) (dCL rIntS (dCons (dBin rIx (dVar 2) (dC (.int 0))) dNil)) (dC (.int 1)))))
    (dSeq (dIfS (dTst (dBin rEqS (dVar 4) (dC (.int 0)))) (dRaise (.ref ad.BadText) (dVar 0)) dNext)
    (dSeq (dSet 5 (dCL (rMake ad.Worth (sp_Winit ad)) (dCons (dCut (dIf (dTst (dBin rEqS (dSl (dVar 0) dNoPart (dPart (dC (.int 1)))) (dC (.str "-")))) (dUn rNeg (dCL rIntS (dCons (dVar 1) dNil))) (dCL rIntS (dCons (dVar 1) dNil)))) (dCons (dVar 4) dNil))))
    (dSeq (dIfS (dTst (dBin rNeS (dUn (rProp ad.Worth (sp_Wtext ad)) (dVar 5)) (dVar 0))) (dRaise (.ref ad.BadText) (dVar 0)) dNext)
    (dRet (dVar 5)))))))))
abbrev N_Wrepr : List Str := ["self"]
def d_Wrepr (ad : Ad) : TDS := (dSeq (dIfS (dTst (dBin rEqS (dUn (rSlot ad.Worth 1) (dVar 0)) (dC (.int 1)))) (dRet (dJoin [(dC (.str "Worth(")), (dFmt (dUn (rSlot ad.Worth 0) (dVar 0))), (dC (.str ")"))])) dNext)
    (dRet (dJoin [(dC (.str "Worth(")), (dFmt (dUn (rSlot ad.Worth 0) (dVar 0))), (dC (.str ", ")), (dFmt (dUn (rSlot ad.Worth 1) (dVar 0))), (dC (.str ")"))])))
abbrev N_Weq : List Str := ["self", "other"]
def d_Weq (ad : Ad) : TDS := (dRet (dAndV (dCL (rIsiD (inS ad) (inE ad) (inO ad) ad.inst) (dCons (dVar 1) (dCons (dC (.val (.ref ad.Worth))) dNil))) (dAndV (dBin rEqS (dUn (rSlot ad.Worth 0) (dVar 0)) (dUn (rSlot ad.Worth 0) (dVar 1))) (dBin rEqS (dUn (rSlot ad.Worth 1) (dVar 0)) (dUn (rSlot ad.Worth 1) (dVar 1))))))
end K1
namespace K1
open PySem PySem.Spec PyProof.Rows L2 VX DL RQ TL
abbrev N_l_jar : List Str := ["_law_script", "_law_k", "_law_cell", "_law_own", "_law_mixed"]
def d_l_jar (ad : Ad) : TDS := (dSeq (dSet 2 (dCut (dIf (dTst (dBin rLt (dVar 1) (dCL rLenU (dCons (dVar 0) dNil)))) (dBin rIx (dVar 0) (dVar 1)) (dBin rAdd (dBin rMul (dC (.int 41)) (dVar 1)) (dC (.int 29))))))
    (dSeq (dSet 3 (dBin rMul (dBin rMod (dCL rIntS (dCons (dCL rAbs (dCons (dVar 2) dNil)) dNil)) (dBin rPow (dBin rPow (dC (.int 10)) (dC (.int 60))) (dC (.int 5)))) (dCL rIntS (dCons (dBin rGe (dCL rAbs (dCons (dVar 2) dNil)) (dBin rPow (dC (.int 10)) (dC (.int 18)))) dNil))))
    (dSeq (dSet 4 (dBin rAdd (dBin rAdd (dBin rMul (dBin rMod (dCL rIntS (dCons (dVar 2) dNil)) (dC (.int 2305843009213693951))) (dC (.int 69991))) (dBin rMul (dBin rMul (dC (.int 8861)) (dVar 1)) (dVar 1))) (dC (.int 83))))
    (dRet (dLstM (dCons (dVar 3) (dCons (dBin rMod (dCL rIntS (dCons (dVar 4) dNil)) (dC (.int 2305843009213693921))) (dCons (dC (.int 0)) dNil))))))))
abbrev N_l_take : List Str := ["_law_jar_here", "_law_many", "_law_digit", "_law_big"]
def d_l_take (ad : Ad) : TDS := (dSeq (dIfS (dTst (dBin rGt (dBin rIx (dVar 0) (dC (.int 0))) (dC (.int 0)))) (dSeq (dSet 2 (dBin rMod (dCL rIntS (dCons (dBin rIx (dVar 0) (dC (.int 0))) dNil)) (dVar 1)))
    (dSeq (dSetIx (dVar 0) (dC (.int 0)) (dBin rFdv (dBin rIx (dVar 0) (dC (.int 0))) (dVar 1)))
    (dRet (dVar 2)))) dNext)
    (dSeq (dSetIx (dVar 0) (dC (.int 2)) (dBin rAdd (dBin rIx (dVar 0) (dC (.int 2))) (dC (.int 1))))
    (dSeq (dSet 3 (dBin rMod (dCL rIntS (dCons (dBin rMul (dBin rAdd (dBin rAdd (dBin rIx (dVar 0) (dC (.int 1))) (dBin rMul (dBin rMul (dC (.int 65521)) (dBin rIx (dVar 0) (dC (.int 2)))) (dBin rIx (dVar 0) (dC (.int 2))))) (dC (.int 53))) (dC (.int 48271))) dNil)) (dC (.int 2305843009213693921))))
    (dSeq (dSet 3 (dBin rMod (dCL rIntS (dCons (dBin rMul (dVar 3) (dBin rAdd (dBin rMod (dCL rIntS (dCons (dVar 3) dNil)) (dC (.int 1000003))) (dBin rMul (dC (.int 99991)) (dBin rIx (dVar 0) (dC (.int 2)))))) dNil)) (dC (.int 2305843009213693907))))
    (dRet (dBin rMod (dCL rIntS (dCons (dBin rAdd (dBin rFdv (dVar 3) (dC (.int 131))) (dBin rFdv (dVar 3) (dC (.int 1000037)))) dNil)) (dVar 1)))))))
abbrev N_l_of : List Str := ["_law_jar_here", "_law_some"]
def d_l_of (ad : Ad) : TDS := (dRet (dBin rIx (dVar 1) (dCB (sp_l_take ad) (dCons (dVar 0) (dCons (dCL rLenU (dCons (dVar 1) dNil)) dNil)))))
abbrev N_l_frac : List Str := ["_law_above", "_law_under", "_law_a", "_law_b"]
def d_l_frac (ad : Ad) : TDS := (dSeq (dPar 2 3 (dCons (dCL rAbs (dCons (dVar 0) dNil)) (dCons (dVar 1) dNil)))
    (dSeq (dCutS (dWhile (dTst (dBin rGt (dVar 3) (dC (.int 0)))) (dPar 2 3 (dCons (dVar 3) (dCons (dBin rMod (dCL rIntS (dCons (dVar 2) dNil)) (dVar 3)) dNil)))))
    (dRet (dTup (dCons (dBin rFdv (dVar 0) (dVar 2)) (dCons (dBin rFdv (dVar 1) (dVar 2)) dNil))))))
abbrev N_l_whole : List Str := ["_law_jar_here"]
def d_l_whole (ad : Ad) : TDS := (dRet (dCB (sp_l_of ad) (dCons (dVar 0) (dCons (dLst (dCons (dC (.int 0)) (dCons (dC (.int 1)) (dCons (dUn rNeg (dC (.int 1))) (dCons (dC (.int 2)) (dCons (dUn rNeg (dC (.int 2))) (dCons (dC (.int 6)) (dCons (dC (.int 12)) (dCons (dC (.int 999999)) (dCons (dUn rNeg (dC (.int 999999))) (dCons (dBin rSub (dCB (sp_l_take ad) (dCons (dVar 0) (dCons (dC (.int 2001)) dNil))) (dC (.int 1000))) (dCons (dBin rSub (dCB (sp_l_take ad) (dCons (dVar 0) (dCons (dC (.int 13)) dNil))) (dC (.int 6))) dNil)))))))))))) dNil))))
abbrev N_l_worth_text : List Str := ["_law_pair"]
def d_l_worth_text (ad : Ad) : TDS := (dRet (dIf (dTst (dBin rEqS (dBin rIx (dVar 0) (dC (.int 1))) (dC (.int 1)))) (dCL rStr (dCons (dBin rIx (dVar 0) (dC (.int 0))) dNil)) (dBin rSS (dBin rSS (dCL rStr (dCons (dBin rIx (dVar 0) (dC (.int 0))) dNil)) (dC (.str "/"))) (dCL rStr (dCons (dBin rIx (dVar 0) (dC (.int 1))) dNil)))))
abbrev N_l_caught : List Str := ["_law_look", "_law_caught_here", "error"]
def d_l_caught (ad : Ad) (act : TDE) : TDS := (dSeq (dSet 1 (dC .non))
    (dSeq (dTry (ad.exm ad.SlipError) 2 (dDrop act) (dSet 1 (dVar 2)))
    (dRet (dVar 1))))
end K1
namespace K1
open PySem PySem.Spec PyProof.Rows L2 VX DL RQ TL
/-! ### comprehensions and loops -/
theorem tdel_put {T : Td} {P : Addr} {o : DO} (h : T P = none) : tdel (tput T P o) P = T := by
  funext b
  by_cases e : b = P
  · subst e; rw [tdel_same, h]
  · rw [tdel_ne e, tput_ne e]
theorem tput_put {T : Td} {P : Addr} {o o' : DO} : tput (tput T P o) P o' = tput T P o' := by
  funext b
  by_cases e : b = P
  · subst e; rw [tput_same, tput_same]
  · rw [tput_ne e, tput_ne e, tput_ne e]
section
variable {i : Nat} {te : TDE} {P : Addr} {k : Td → Prop} {sd : SD} {T : Td} {Q : KD}
/-- each item by itself, nothing changed -/
theorem lc_map (f : D → D) : ∀ (items : List D) (acc : List D), (∀ x ∈ items, ∀ (T : Td) (Q : KD), Q (f x) T → te (sd.set i (some x)) T Q (fun _ _ => False)) → acc.length + items.length ≤ sizeLine →
    k (tput T P (.lst (acc ++ items.map f))) → dLcL (dgName i) dYes te (fun _ => True) P k sd items (tput T P (.lst acc))
  | [], acc, _, _, h => ⟨trivial, by rw [List.map_nil, List.append_nil] at h; exact h⟩
  | x :: xs, acc, ht, hl, h => by
    refine ⟨trivial, ?_⟩
    refine IfP.t rfl (ht x List.mem_cons_self _ _ ?_)
    rw [List.length_cons] at hl
    show match tput T P (.lst acc) P with | some (.lst acc) => _ | _ => False
    rw [tput_same]
    refine ⟨by omega, ?_⟩
    rw [tput_put]
    refine lc_map f xs (acc ++ [f x]) (fun y hy => ht y (List.mem_cons_of_mem _ hy)) (by rw [List.length_append]; simp; omega) ?_
    rw [List.append_assoc]
    exact h
theorem lcc_map {wi : TDI} {vs : List Nat} {E : XD} (f : D → D) (items : List D) (hw : ∀ R E, R items (fun _ => True) T → wi sd T R E) (ht : ∀ x ∈ items, ∀ (T : Td) (Q : KD), Q (f x) T → te ((wipeD sd vs).set i (some x)) T Q (fun _ _ => False)) (hl : items.length ≤ sizeLine) (q : Q (.lst (items.map f)) T) :
    Cut (dLc wi (dgName i) dYes te vs sd) T Q E := ⟨hw _ _ fun P hP => by
  refine lc_map f items [] ht (by simpa using hl) ?_
  show match tput T P (.lst _) P with | some (.lst acc) => _ | _ => False
  rw [tput_same]
  show Q _ (tdel (tput T P _) P)
  rw [tdel_put hP]
  exact q⟩
/-- each item with a promise, while Inv holds -/
theorem lc_inv (N : Nat) (p : D → Prop) (Inv : Nat → Td → Prop) (hp : ∀ n T l, Inv n T → Inv n (tput T P (.lst l))) : ∀ (items : List D) (acc : List D) (n : Nat) (T : Td), n + items.length ≤ N →
    (∀ x ∈ items, ∀ (n : Nat) (T : Td) (l : List D) (Q : KD), n < N → Inv n T → T P = some (.lst l) → (∀ y T', p y → Inv (n + 1) T' → T' P = some (.lst l) → Q y T') → te (sd.set i (some x)) T Q (fun _ _ => False)) →
    T P = some (.lst acc) → Inv n T → acc.length + items.length ≤ sizeLine → (∀ ys T', ys.length = items.length → (∀ y ∈ ys, p y) → Inv (n + items.length) T' → T' P = some (.lst (acc ++ ys)) → k T') →
    dLcL (dgName i) dYes te (fun _ => True) P k sd items T
  | [], acc, n, T, _, _, hT, hI, _, h => ⟨trivial, h [] T rfl (fun _ z => nomatch z) hI (by rw [List.append_nil]; exact hT)⟩
  | x :: xs, acc, n, T, hN, ht, hT, hI, hl, h => by
    refine ⟨trivial, ?_⟩
    rw [List.length_cons] at hl
    refine IfP.t rfl (ht x List.mem_cons_self n T acc _ (by rw [List.length_cons] at hN; omega) hI hT fun y T' py I' hT' => ?_)
    show match T' P with | some (.lst acc) => _ | _ => False
    rw [hT']
    refine ⟨by omega, ?_⟩
    refine lc_inv N p Inv hp xs (acc ++ [y]) (n + 1) _ (by rw [List.length_cons] at hN; omega) (fun z hz => ht z (List.mem_cons_of_mem _ hz)) tput_same (hp _ _ _ I') (by rw [List.length_append]; simp; omega) fun ys T'' ly hy I'' e => ?_
    refine h (y :: ys) T'' (by rw [List.length_cons, List.length_cons, ly]) (fun z hz => ?_) (by rw [List.length_cons, show n + (xs.length + 1) = n + 1 + xs.length by omega]; exact I'') (by rw [e, List.append_assoc]; rfl)
    rcases List.mem_cons.1 hz with rfl | hz
    · exact py
    · exact hy z hz
theorem lcc_inv {wi : TDI} {vs : List Nat} {E : XD} (p : D → Prop) (Inv : Nat → Td → Prop) (items : List D) (hw : ∀ R E, R items (fun _ => True) T → wi sd T R E) (hp : ∀ (n : Nat) (T' : Td) (P : Addr) (o : DO), T P = none → Inv n T' → Inv n (tput T' P o)) (hd : ∀ (n : Nat) (T' : Td) (P : Addr), T P = none → Inv n T' → Inv n (tdel T' P))
    (n : Nat) (ht : ∀ x ∈ items, ∀ (P : Addr) (m : Nat) (T' : Td) (l : List D) (Q : KD), T P = none → m < n + items.length → Inv m T' → T' P = some (.lst l) → (∀ y T'', p y → Inv (m + 1) T'' → T'' P = some (.lst l) → Q y T'') → te ((wipeD sd vs).set i (some x)) T' Q (fun _ _ => False))
    (hI : Inv n T) (hl : items.length ≤ sizeLine) (q : ∀ ys T', ys.length = items.length → (∀ y ∈ ys, p y) → Inv (n + items.length) T' → Q (.lst ys) T') :
    Cut (dLc wi (dgName i) dYes te vs sd) T Q E := ⟨hw _ _ fun P hP => by
  refine lc_inv (P := P) (n + items.length) p Inv (fun m T' l h => hp m T' P _ hP h) items [] n _ (Nat.le_refl _) (fun x hx m T' l Q hm h e k => ht x hx P m T' l Q hP hm h e k) tput_same (hp _ _ _ _ hP hI) (by simpa using hl) fun ys T' ly hy I' e => ?_
  show match T' P with | some (.lst acc) => _ | _ => False
  rw [e]
  exact q ys _ ly hy (hd _ _ P hP I')⟩
theorem all_true : ∀ ys : List D, (∀ y ∈ ys, y = .bl true) → ys = (List.replicate ys.length true).map D.bl
  | [], _ => rfl
  | y :: ys, h => by
    rw [List.length_cons, List.replicate_succ, List.map_cons, ← all_true ys fun z hz => h z (List.mem_cons_of_mem _ hz), h y List.mem_cons_self]
theorem q_allT {ys : List D} {E : XD} (h : ∀ y ∈ ys, y = .bl true) (q : Q (.bl true) T) : OL (rAllD (·.all id)) [.lst ys] T Q E := by
  rw [all_true ys h]
  refine q_allL ?_
  have : (List.replicate ys.length true).all id = true := by simp
  rw [this]
  exact q
end
section
variable {g : TDG} {tb : TDS} {D : DEnds}
/-- a loop without an end of its own -/
theorem loop_inv (N : Nat) (Inv : Nat → SD → Td → Prop) : ∀ (items : List DL.D) (n : Nat) (sd : SD) (T : Td), n + items.length ≤ N →
    (∀ x ∈ items, ∀ (n : Nat) (sd : SD) (T : Td) (D' : DEnds), n < N → Inv n sd T → D'.rt = D.rt → D'.xe = D.xe → (∀ sd' T', Inv (n + 1) sd' T' → D'.nx sd' T') → (∀ sd' T', Inv (n + 1) sd' T' → D'.ct sd' T') → g x sd T fun sd2 T2 => tb D' sd2 T2) →
    Inv n sd T → (∀ sd' T', Inv (n + items.length) sd' T' → D.nx sd' T') → dLoop g tb (fun _ => True) D items sd T
  | [], n, sd, T, _, _, hI, h => ⟨trivial, h sd T hI⟩
  | x :: xs, n, sd, T, hN, ht, hI, h => ⟨trivial, ht x List.mem_cons_self n sd T _ (by rw [List.length_cons] at hN; omega) hI rfl rfl
      (fun sd' T' I' => loop_inv N Inv xs (n + 1) sd' T' (by rw [List.length_cons] at hN; omega) (fun z hz => ht z (List.mem_cons_of_mem _ hz)) I' fun a b c => h a b (by rw [List.length_cons, show n + (xs.length + 1) = n + 1 + xs.length by omega]; exact c))
      (fun sd' T' I' => loop_inv N Inv xs (n + 1) sd' T' (by rw [List.length_cons] at hN; omega) (fun z hz => ht z (List.mem_cons_of_mem _ hz)) I' fun a b c => h a b (by rw [List.length_cons, show n + (xs.length + 1) = n + 1 + xs.length by omega]; exact c))⟩
theorem for_inv {wi : TDI} (Inv : Nat → SD → Td → Prop) (items : List DL.D) {sd : SD} {T : Td} (hw : ∀ R E, R items (fun _ => True) T → wi sd T R E) (n : Nat)
    (ht : ∀ x ∈ items, ∀ (m : Nat) (sd : SD) (T : Td) (D' : DEnds), m < n + items.length → Inv m sd T → D'.rt = D.rt → D'.xe = D.xe → (∀ sd' T', Inv (m + 1) sd' T' → D'.nx sd' T') → (∀ sd' T', Inv (m + 1) sd' T' → D'.ct sd' T') → g x sd T fun sd2 T2 => tb D' sd2 T2)
    (hI : Inv n sd T) (h : ∀ sd' T', Inv (n + items.length) sd' T' → D.nx sd' T') : CutS (dFor wi g tb) D sd T := ⟨hw _ _ (loop_inv _ Inv items n sd T (Nat.le_refl _) ht hI h)⟩
end
/-! ### jars -/
section
variable {T T' : Td} {j P : Addr} {n : Nat}
theorem JOk.mono {n m : Nat} (h : JOk n T j) (hm : n ≤ m) : JOk m T j := by
  obtain ⟨x, y, z, q1, q2, q3, q4, q5, q6, q7⟩ := h
  exact ⟨x, y, z, q1, q2, q3, q4, q5, q6, by omega⟩
theorem JOk.ne (h : JOk n T j) (hP : T P = none) : j ≠ P := fun e => by
  obtain ⟨x, y, z, q, _⟩ := h
  rw [e, hP] at q
  cases q
theorem JOk.put {o : DO} (h : JOk n T j) (hP : j ≠ P) : JOk n (tput T P o) j := by
  obtain ⟨x, y, z, q, r⟩ := h
  exact ⟨x, y, z, by rw [tput_ne hP]; exact q, r⟩
theorem JOk.del (h : JOk n T j) (hP : j ≠ P) : JOk n (tdel T P) j := by
  obtain ⟨x, y, z, q, r⟩ := h
  exact ⟨x, y, z, by rw [tdel_ne hP]; exact q, r⟩
theorem Ag.refl : Ag j T T := fun _ _ => rfl
theorem Ag.tr {T1 T2 : Td} (a : Ag j T T1) (b : Ag j T1 T2) : Ag j T T2 := fun c h => (b c h).trans (a c h)
end
end K1
namespace K1
open PySem PySem.Spec PyProof.Rows L2 VX DL RQ TL
variable {ad : Ad} {ds : List D} {T : Td} {Q : KD} {E : XD}
theorem nx_non : NoExc .non := fun _ h => nomatch h
theorem nx_bl : NoExc .bl := fun _ h => nomatch h
theorem nx_int : NoExc .int := fun _ h => nomatch h
theorem nx_str : NoExc .str := fun _ h => nomatch h
theorem nx_tup : NoExc .tup := fun _ h => nomatch h
theorem nx_lst : NoExc .lst := fun _ h => nomatch h
theorem nx_dct : NoExc .dct := fun _ h => nomatch h
theorem nx_cls {C : Addr} : NoExc (.cls C) := fun _ h => nomatch h
theorem kd_w (o : AdW ad) (q : Rat) : kdD ad T (wq ad q) = some (.cls ad.Worth) := by
  show (if inS ad ad.Worth = true then some (Kd.cls ad.Worth) else none) = _
  rw [if_pos o.ws]
def isI : Kd → Bool
  | .int => true
  | _ => false
theorem is_int (k : Kd) : (k.is "int" && !k.is "bool") = isI k := by cases k <;> rfl
theorem h_is_integer (o : AdW ad) (h : sp_is_integer ad ds T Q E) : d_is_integer ad (endsD Q E) (startD N_is_integer ds) T := by
  obtain ⟨x, k, rfl, hk, he, hq⟩ := h.h
  refine q_isin o.toAdB hk he n_int ?_
  cases h1 : k.is "int" with
  | true =>
    refine q_isin o.toAdB hk he n_bool ?_
    rw [h1, Bool.true_and] at hq
    exact hq
  | false =>
    rw [h1, Bool.false_and] at hq
    exact hq
theorem u_is_integer {x : D} {k : Kd} (hk : kdD ad T x = some k) (he : NoExc k) (hq : Q (.bl (isI k)) T) : sp_is_integer ad [x] T Q E := ⟨x, k, rfl, hk, he, by rw [is_int]; exact hq⟩
theorem fmod_nat (a b : Nat) : (a : Int).fmod (b : Int) = ((a % b : Nat) : Int) := by
  rw [Int.fmod_eq_emod_of_nonneg _ (by omega)]
  rfl
theorem gcd_step (a b : Nat) : Nat.gcd a b = Nat.gcd b (a % b) := by rw [Nat.gcd_comm a b, Nat.gcd_rec b a, Nat.gcd_comm (a % b) b]
theorem h_common_divisor (h : sp_common_divisor ad ds T Q E) : d_common_divisor ad (endsD Q E) (startD N_common_divisor ds) T := by
  obtain ⟨a, b, rfl, hq⟩ := h.h
  have key : ∀ (n a b : Nat) (D : DEnds) (T : Td), b < n → D.nx [some (.int (Nat.gcd a b : Nat)), some (.int 0)] T →
      dIter (dTst (dBin rGt (dVar 1) (dC (.int 0)))) (dPar 0 1 (dCons (dVar 1) (dCons (dBin rMod (dVar 0) (dVar 1)) dNil))) D n [some (.int a), some (.int b)] T := by
    intro n
    induction n with
    | zero => intro a b D T h; omega
    | succ n ih =>
      intro a b D T h hn
      unfold dIter
      refine q_gt (IfP.by (fun hc => ?_) (fun hc => ?_))
      · have hb : (0 : Int) < b := of_decide_eq_true hc
        refine q_mod (by omega) ?_
        have e := fmod_nat a b
        have hlt : a % b < b := Nat.mod_lt _ (by omega)
        have q := ih b (a % b) D T (by omega) (by rw [gcd_step] at hn; exact hn)
        rw [← e] at q
        exact q
      · have hb : ¬ (0 : Int) < b := of_decide_eq_false hc
        have hb0 : b = 0 := by omega
        subst hb0
        rw [Nat.gcd_zero_right] at hn
        exact hn
  exact ⟨⟨b + 1, key (b + 1) a b _ T (by omega) hq⟩⟩
theorem u_gcd {a b : Nat} (hq : Q (.int (Nat.gcd a b)) T) : sp_common_divisor ad [.int a, .int b] T Q E := ⟨a, b, rfl, hq⟩
def digD : D → D
  | .str z => .bl (z.cps.toList.all isDig)
  | x => x
theorem sgn_map (s : Str) : (signsD s).map digD = ((tl s).map isDig).map D.bl := by
  unfold signsD
  rw [List.map_map, List.map_map]
  refine List.map_congr_left fun c _ => ?_
  show D.bl (([c] : List Nat).all isDig) = D.bl (isDig c)
  simp
theorem sgn_mem {s : Str} {x : D} (h : x ∈ signsD s) : ∃ c, c ∈ tl s ∧ x = .str ⟨#[c]⟩ := by
  unfold signsD at h
  obtain ⟨c, hc, e⟩ := List.mem_map.1 h
  exact ⟨c, hc, e.symm⟩
theorem sgn_len (s : Str) : (signsD s).length = s.length := by unfold signsD; rw [List.length_map]; exact (len_tl s).symm
theorem h_is_figures (h : sp_is_figures ad ds T Q E) : d_is_figures ad (endsD Q E) (startD N_is_figures ds) T := by
  obtain ⟨s, rfl, hl, hq⟩ := h.h
  refine q_neT ?_
  have e0 : (!decide (s = "")) = decide (s ≠ "") := by simp
  cases h1 : (!decide (s = "")) with
  | true =>
    refine lcc_map digD (signsD s) (fun R E h => h) (fun x hx T Q hq => ?_) (by rw [sgn_len]; exact sz hl) ?_
    · obtain ⟨c, hc, rfl⟩ := sgn_mem hx
      refine q_sign ?_
      have e : digD (.str ⟨#[c]⟩) = .bl (decide (c ∈ (("0123456789" : Str)).cps.toList)) := by
        show D.bl (([c] : List Nat).all isDig) = _
        simp [isDig]
      rw [← e]
      exact hq
    · rw [sgn_map]
      refine q_allL ?_
      have e : ((tl s).map isDig).all id = (tl s).all isDig := by rw [List.all_map]; rfl
      rw [e]
      unfold figs at hq
      rw [← e0, h1, Bool.true_and] at hq
      exact hq
  | false =>
    unfold figs at hq
    rw [← e0, h1, Bool.false_and] at hq
    exact hq
theorem u_figs {s : Str} (hl : s.length ≤ 10000) (hq : Q (.bl (figs s)) T) : sp_is_figures ad [.str s] T Q E := ⟨s, rfl, hl, hq⟩
/-! ### making -/
theorem q_above {q : Rat} (hq : Q (.int q.num) T) : O1 (rSlot ad.Worth 0) (wq ad q) T Q E := ⟨by simp [rSlot, slotsD, wq]; exact hq⟩
theorem q_below {q : Rat} (hq : Q (.int q.den) T) : O1 (rSlot ad.Worth 1) (wq ad q) T Q E := ⟨by simp [rSlot, slotsD, wq]; exact hq⟩
theorem h_Winit (h : sp_Winit ad ds T Q E) : d_Winit ad (endsD Q E) (startD N_Winit ds) T := by
  obtain ⟨a, n, u, rfl, hT, h'⟩ := h.h
  rcases h' with ⟨i, j, rfl, rfl, hj, hz, hq⟩ | ⟨p, q, hp, hq1, np, nq, hbad, hE⟩
  · refine u_is_integer (k := .int) rfl nx_int (IfP.f rfl ?_)
    refine u_is_integer (k := .int) rfl nx_int (IfP.f rfl ?_)
    refine q_eqI (IfP.f (decide_eq_false hj) ?_)
    refine q_abs (q_abs (u_gcd (a := i.natAbs) (b := j.natAbs) ?_))
    have hg : Nat.gcd i.natAbs j.natAbs ≠ 0 := fun z => hj (by have := Nat.eq_zero_of_gcd_eq_zero_right z; omega)
    have hg1 : Nat.gcd i.natAbs j.natAbs ≤ j.natAbs := Nat.gcd_le_right _ (by omega)
    have ew := w_q i j hj
    rw [← ew.1, ← ew.2] at hq
    have fin : ∀ g : Int, g = wG i j → (dSeq (dSlot ad.Worth 0 (dVar 0) (dBin rFdv (dVar 1) (dVar 3))) (dSlot ad.Worth 1 (dVar 0) (dBin rFdv (dVar 2) (dVar 3)))) (endsD Q E) [some (.ref a), some (.int i), some (.int j), some (.int g)] T := by
      intro g eg
      have c1 : g ≠ 0 := by rw [eg]; unfold wG; split <;> omega
      have c2 : g.natAbs < 2 ^ 8999 := Nat.lt_of_le_of_lt (show g.natAbs ≤ j.natAbs by rw [eg]; unfold wG; split <;> omega) hz
      refine q_fdv c1 c2 ?_
      show match T a with
        | some (.slo C' ds) => C' = ad.Worth ∧ _
        | _ => False
      rw [hT]
      refine ⟨rfl, q_fdv c1 c2 ?_⟩
      show match tput T a (.slo ad.Worth (putO 0 (.int (i.fdiv g)) [])) a with
        | some (.slo C' ds) => C' = ad.Worth ∧ _
        | _ => False
      rw [tput_same]
      refine ⟨rfl, ?_⟩
      show Q .non (tput (tput T a _) a _)
      rw [tput_put, eg]
      exact hq
    refine q_lt (IfP.by (fun hc => ?_) (fun hc => ?_))
    · refine q_neg (fin _ ?_)
      unfold wG
      rw [if_pos (of_decide_eq_true hc)]
    · exact fin _ (by unfold wG; rw [if_neg (of_decide_eq_false hc)])
  · have bad : ∀ DD : DEnds, DD.xe = (endsD Q E).xe → dRaise (.ref ad.BadWorth) (dTup (dCons (dVar 1) (dCons (dVar 2) dNil))) DD (startD N_Winit [.ref a, n, u]) T := fun DD e => ⟨sz (Nat.le_of_ble_eq_true rfl), by rw [e]; exact hE⟩
    refine u_is_integer hp np ?_
    refine IfP.by (fun h1 => IfP.t rfl (bad _ rfl)) (fun h1 => ?_)
    refine u_is_integer hq1 nq ?_
    refine IfP.by (fun h2 => IfP.t rfl (bad _ rfl)) (fun h2 => ?_)
    have k1 : p = .int := by cases p <;> first | rfl | cases h1
    have k2 : q = .int := by cases q <;> first | rfl | cases h2
    rcases hbad with h | h | h
    · exact absurd k1 h
    · exact absurd k2 h
    · subst h
      exact q_eqI (IfP.t rfl (bad _ rfl))
theorem mkW {i j : Int} (hj : j ≠ 0) (hz : j.natAbs < 2 ^ 8999) (hq : Q (wq ad (Rat.divInt i j)) T) : OL (rMake ad.Worth (sp_Winit ad)) [.int i, .int j] T Q E := ⟨by
  intro x hx
  refine ⟨x, _, _, rfl, tput_same, .inl ⟨i, j, rfl, rfl, hj, hz, ?_⟩⟩
  refine ⟨rfl, [.int (Rat.divInt i j).num, .int (Rat.divInt i j).den], tput_same, ?_⟩
  rw [tput_put, tdel_put hx]
  exact hq⟩
theorem mkQ {q : Rat} (hz : q.den < 2 ^ 8999) (hq : Q (wq ad q) T) : OL (rMake ad.Worth (sp_Winit ad)) [.int q.num, .int q.den] T Q E := mkW (den0 q) (by rw [Int.natAbs_natCast]; exact hz) (by rw [q_self]; exact hq)
theorem mk1W {i : Int} (hq : Q (wq ad (i : Rat)) T) : OL (rMake ad.Worth (sp1_Winit ad)) [.int i] T Q E := ⟨by
  intro x hx
  refine ⟨⟨x, _, _, rfl, tput_same, .inl ⟨i, 1, rfl, rfl, by decide, lt_8999 64 (by decide) (by decide), ?_⟩⟩⟩
  refine ⟨rfl, [.int (Rat.divInt i 1).num, .int (Rat.divInt i 1).den], tput_same, ?_⟩
  rw [tput_put, tdel_put hx, RQ.q_int]
  exact hq⟩
theorem h_Wnumber (h : sp_Wnumber ad ds T Q E) : d_Wnumber ad (endsD Q E) (startD N_Wnumber ds) T := by
  obtain ⟨q, rfl, hq⟩ := h.h
  exact q_above hq
theorem h_Wunder (h : sp_Wunder ad ds T Q E) : d_Wunder ad (endsD Q E) (startD N_Wunder ds) T := by
  obtain ⟨q, rfl, hq⟩ := h.h
  exact q_below hq
theorem il {i : Int} (h : i.natAbs < 2 ^ 1919) : (Str.ofString (toString i)).length ≤ 1921 := int_text_len_1921 (log2_lt h (by decide) (by decide))
theorem dl {n : Nat} (h : n < 2 ^ 1919) : (Str.ofString (toString (n : Int))).length ≤ 1921 := il (by rw [Int.natAbs_natCast]; exact h)
theorem lgn {i : Int} (h : i.natAbs < 2 ^ 1919) : i.natAbs.log2 < 1920 := log2_lt h (by decide) (by decide)
theorem lgd {n : Nat} (h : n < 2 ^ 1919) : ((n : Int)).natAbs.log2 < 1920 := lgn (by rw [Int.natAbs_natCast]; exact h)
theorem len_lit {s : String} {n : Nat} (h : s.length = n) : (Str.ofString s).length = n := by
  rw [len_tl, tl_ofString, List.length_map]
  exact h
theorem e0 : (Str.empty).length = 0 := rfl
theorem h_Wtext (h : sp_Wtext ad ds T Q E) : d_Wtext ad (endsD Q E) (startD N_Wtext ds) T := by
  obtain ⟨q, rfl, ⟨h1, h2⟩, hq⟩ := h.h
  have l1 := il h1
  have l2 := dl h2
  have l3 : ("/" : Str).length = 1 := len_lit rfl
  unfold qText at hq
  refine q_below (q_eqI (IfP.by (fun hc => ?_) (fun hc => ?_)))
  · have hc' : q.den = 1 := by have := of_decide_eq_true hc; omega
    rw [if_pos hc'] at hq
    exact q_above (q_str h1 hq)
  · have hc' : q.den ≠ 1 := by have := of_decide_eq_false hc; omega
    rw [if_neg hc'] at hq
    refine q_above ⟨lgn h1, ⟨sz (by rw [slen, e0]; omega), ?_⟩⟩
    refine ⟨sz (by rw [slen, slen, e0, l3]; omega), ?_⟩
    refine q_below ⟨lgd h2, ⟨sz (by rw [slen, slen, slen, e0, l3]; omega), ?_⟩⟩
    rw [eapp]
    exact hq
theorem h_Wrepr (h : sp_Wrepr ad ds T Q E) : d_Wrepr ad (endsD Q E) (startD N_Wrepr ds) T := by
  obtain ⟨q, rfl, ⟨h1, h2⟩, hq⟩ := h.h
  have l1 := il h1
  have l2 := dl h2
  have l3 : ("Worth(" : Str).length = 6 := len_lit rfl
  have l4 : (")" : Str).length = 1 := len_lit rfl
  have l5 : (", " : Str).length = 2 := len_lit rfl
  unfold rText at hq
  refine q_below (q_eqI (IfP.by (fun hc => ?_) (fun hc => ?_)))
  · have hc' : q.den = 1 := by have := of_decide_eq_true hc; omega
    rw [if_pos hc'] at hq
    refine ⟨sz (by rw [slen, e0, l3]; omega), ?_⟩
    refine q_above ⟨lgn h1, ⟨sz (by rw [slen, slen, e0, l3]; omega), ?_⟩⟩
    refine ⟨sz (by rw [slen, slen, slen, e0, l3, l4]; omega), ?_⟩
    rw [eapp]
    exact hq
  · have hc' : q.den ≠ 1 := by have := of_decide_eq_false hc; omega
    rw [if_neg hc'] at hq
    refine ⟨sz (by rw [slen, e0, l3]; omega), ?_⟩
    refine q_above ⟨lgn h1, ⟨sz (by rw [slen, slen, e0, l3]; omega), ?_⟩⟩
    refine ⟨sz (by rw [slen, slen, slen, e0, l3, l5]; omega), ?_⟩
    refine q_below ⟨lgd h2, ⟨sz (by rw [slen, slen, slen, slen, e0, l3, l5]; omega), ?_⟩⟩
    refine ⟨sz (by rw [slen, slen, slen, slen, slen, e0, l3, l4, l5]; omega), ?_⟩
    rw [eapp]
    exact hq
def isC (D : Addr) : Kd → Bool
  | .cls C => decide (C = D)
  | _ => false
theorem kd_known {ad : Ad} {T : Td} {x : D} {C : Addr} (h : kdD ad T x = some (.cls C)) : (inS ad C || inO ad C) = true := by
  unfold kdD at h
  split at h <;> try (cases h; done)
  · split at h
    · rename_i e; cases h; rw [e]; rfl
    · cases h
  · split at h
    · rename_i e; cases h; rw [e, Bool.or_true]
    · cases h
  · split at h <;> cases h
  · split at h <;> try (cases h; done)
    split at h
    · rename_i e; cases h; rw [e, Bool.or_true]
    · cases h
theorem q_isW (o : AdW ad) {x : D} {k : Kd} (hk : kdD ad T x = some k) (he : NoExc k) (hq : Q (.bl (isC ad.Worth k)) T) : OL (rIsiD (inS ad) (inE ad) (inO ad) ad.inst) [x, .val (.ref ad.Worth)] T Q E := by
  have hw : (inS ad ad.Worth || inO ad ad.Worth || inE ad ad.Worth) = true := by rw [o.ws]; rfl
  have hw2 : (inS ad ad.Worth || inO ad ad.Worth) = true := by rw [o.ws]; rfl
  refine q_isi hk rfl ?_ hq
  cases k with
  | cls C =>
    have hc := kd_known hk
    by_cases e : C = ad.Worth
    · subst e
      rw [show isC ad.Worth (.cls ad.Worth) = true from decide_eq_true rfl]
      exact o.cc _ hw
    · show ad.inst (.ref C) (.ref ad.Worth) = some (decide (C = ad.Worth))
      rw [decide_eq_false e]
      exact o.cd _ _ hc hw2 e
  | exc C => exact absurd rfl (he C)
  | non => exact o.nc _ hw _ (by simp [names7])
  | bl => exact o.nc _ hw _ (by simp [names7])
  | int => exact o.nc _ hw _ (by simp [names7])
  | str => exact o.nc _ hw _ (by simp [names7])
  | tup => exact o.nc _ hw _ (by simp [names7])
  | lst => exact o.nc _ hw _ (by simp [names7])
  | dct => exact o.nc _ hw _ (by simp [names7])
theorem h_Weq (o : AdW ad) (h : sp_Weq ad ds T Q E) : d_Weq ad (endsD Q E) (startD N_Weq ds) T := by
  obtain ⟨p, y, rfl, h'⟩ := h.h
  rcases h' with ⟨q, rfl, hq⟩ | ⟨k, hk, he, hne, hq⟩
  · refine q_isW o (kd_w o q) nx_cls ?_
    rw [show isC ad.Worth (.cls ad.Worth) = true from decide_eq_true rfl]
    refine q_above (q_above (q_eqI ?_))
    cases hc : decide (p.num = q.num) with
    | true =>
      refine q_below (q_below (q_eqI ?_))
      have e : decide ((p.den : Int) = q.den) = decide (p = q) := by
        rw [decide_eq_decide]
        exact ⟨fun h => q_ext (of_decide_eq_true hc) h, fun h => by rw [h]⟩
      rw [e]
      exact hq
    | false =>
      have : decide (p = q) = false := decide_eq_false fun e => of_decide_eq_false hc (by rw [e])
      rw [this] at hq
      exact hq
  · refine q_isW o hk he ?_
    have e : isC ad.Worth k = false := by
      cases k with
      | cls C => exact decide_eq_false fun e => hne (by rw [e])
      | _ => rfl
    rw [e]
    exact hq
end K1
namespace K1
open PySem PySem.Spec PyProof.Rows L2 VX DL RQ TL
variable {ad : Ad} {ds : List D} {T : Td} {Q : KD} {E : XD}
theorem parts_cnt (s : Str) : (partsS s).length ≤ s.length + 1 := by
  have e := congrArg Str.length (StrLaws.join_split (bodyS s) "/")
  have l1 : ("/" : Str).length = 1 := len_lit rfl
  have key : ∀ l : List Str, l.length ≤ (Str.join "/" l).length + 1 := by
    intro l
    induction l with
    | nil => exact Nat.zero_le _
    | cons a l ih =>
      cases l with
      | nil => exact Nat.succ_le_succ (Nat.zero_le _)
      | cons b l =>
        show (b :: l).length + 1 ≤ (a ++ "/" ++ Str.join "/" (b :: l)).length + 1
        rw [slen, slen, l1]
        omega
  have k := key (Txt.split (bodyS s) "/")
  have := body_len s
  show (Txt.split (bodyS s) "/").length ≤ _
  omega
theorem body1 {s : Str} (h : negS s = true) : bodyS s = cutS s (some 1) none := if_pos h
theorem body0 {s : Str} (h : negS s = false) : bodyS s = s := if_neg (by rw [h]; exact Bool.false_ne_true)
theorem sg1 {s : Str} (h : negS s = true) (n : Int) : sgS s n = -n := if_pos h
theorem sg0 {s : Str} (h : negS s = false) (n : Int) : sgS s n = n := if_neg (by rw [h]; exact Bool.false_ne_true)
theorem part_le {s p : Str} (h : p ∈ partsS s) : p.length ≤ s.length := by
  have h1 : tl ("/" : Str) ≠ [] := by rw [slash]; exact List.cons_ne_nil _ _
  exact Nat.le_trans (part_len h1 h) (body_len s)
theorem p10 {n : Nat} (h : n ≤ 500) : 10 ^ n ≤ 2 ^ 1700 := Nat.le_trans (Nat.pow_le_pow_right (by decide) h) (by decide +kernel)
theorem fig_nat {s p : Str} (hp : p ∈ partsS s) (hf : figs p = true) (hl : s.length ≤ 500) : intText? p = some (natS p) ∧ 0 ≤ natS p ∧ (natS p).natAbs < 2 ^ 1700 ∧ p.length ≤ 640 := by
  have := part_le hp
  obtain ⟨n, e1, e2, e3⟩ := figs_int hf (by omega)
  refine ⟨by rw [e2]; exact e1, by omega, ?_, by omega⟩
  rw [e2, Int.natAbs_natCast]
  exact Nat.lt_of_lt_of_le e3 (p10 (by omega))
theorem q_Wtext {q : Rat} (h : TxtOk q) (hq : Q (.str (qText q)) T) : O1 (rProp ad.Worth (sp_Wtext ad)) (wq ad q) T Q E := ⟨⟨by simp [slotsD, wq], ⟨q, rfl, h, hq⟩⟩⟩
theorem txt_ok {a b : Int} (hb : b ≠ 0) (h1 : a.natAbs < 2 ^ 1700) (h2 : b.natAbs < 2 ^ 1700) : TxtOk (Rat.divInt a b) := by
  have h := div_sz hb (k := 1700) (by decide) h1 h2
  obtain ⟨p, q⟩ := sz_of h
  exact ⟨Nat.lt_of_lt_of_le p (Nat.pow_le_pow_right (by decide) (by decide)), Nat.lt_of_lt_of_le q (Nat.pow_le_pow_right (by decide) (by decide))⟩
def figD : D → D
  | .str z => .bl (figs z)
  | x => x
theorem fig_map (l : List Str) : (l.map D.str).map figD = (l.map figs).map D.bl := by rw [List.map_map, List.map_map]; rfl
theorem cut_body {sd : SD} {s : Str} {i : Nat} (e : sd[i]? = some (some (.str s))) (hl : s.length ≤ 10000) (hq : Q (.str (bodyS s)) T) :
    Cut (dIf (dTst (dBin rEqS (dSl (dVar i) dNoPart (dPart (dC (.int 1)))) (dC (.str "-")))) (dSl (dVar i) (dPart (dC (.int 1))) dNoPart) (dVar i) sd) T Q E := ⟨by
  simp only [dIf, dTst, dBin, dSl, dVar, e, dNoPart, dPart, dC]
  refine ⟨sz hl, q_eqT ?_⟩
  refine IfP.by (fun h => ?_) (fun h => ?_)
  · rw [body1 h] at hq
    exact ⟨sz hl, hq⟩
  · rw [body0 h] at hq
    exact hq⟩
def lowR : List Str → Int
  | [l] => natS l
  | _ => 1
theorem figs_ok {s : Str} (h : figs s = true) : PyData.canLay0 (.str s) = true := by
  have h1 := (figs_all h).1
  unfold PyData.canLay0 PyData.strOk
  rw [Array.all_eq_true']
  intro c hc
  have := h1 c (Array.mem_toList_iff.2 hc)
  simp
  omega
theorem sh1 {s : Str} (h : PyData.canLay0 (.str s) = true) : SeqAt.shaped (.list [.str s]) = true := by
  unfold SeqAt.shaped
  rw [Bool.and_eq_true]
  refine ⟨?_, rfl⟩
  show (PyData.canLay0 (.str s) && true) = true
  rw [h]
  rfl
theorem u_Wof_s {s : Str} (hl : s.length ≤ 500) (hs : ∀ q, parseS s = some q → Q (wq ad q) T) (hn : parseS s = none → E (excD ad.BadText (.str s)) T) : sp_Wof ad [.str s] T Q E := ⟨_, rfl, .inl ⟨s, rfl, hl, hs, hn⟩⟩
theorem u_Wof_n {x : D} {k : Kd} (hk : kdD ad T x = some k) (he : NoExc k) (hne : k ≠ .str) (h : E (excD ad.BadText x) T) : sp_Wof ad [x] T Q E := ⟨_, rfl, .inr ⟨k, hk, he, hne, h⟩⟩
theorem h_Wof (o : AdW ad) (h : sp_Wof ad ds T Q E) : d_Wof ad (endsD Q E) (startD N_Wof ds) T := by
  obtain ⟨x, rfl, h'⟩ := h.h
  rcases h' with ⟨s, rfl, hl, hs, hn⟩ | ⟨k, hk, he, hne, hE⟩
  · refine q_isin o.toAdB (k := .str) rfl nx_str n_str (IfP.f (by decide) ?_)
    refine q_lenS (sz (by omega)) (q_gt (IfP.f (decide_eq_false (by omega)) ?_))
    refine cut_body (i := 0) rfl (by omega) ?_
    refine ⟨rfl, by rw [len_lit (n := 1) rfl]; rfl, sz (by have := body_len s; omega), ?_⟩
    obtain ⟨p, r, ep⟩ : ∃ p r, partsS s = p :: r := by
      cases e : partsS s with
      | nil => exact absurd e (parts_ne s)
      | cons p r => exact ⟨p, r, rfl⟩
    have ep' : Txt.split (bodyS s) "/" = p :: r := ep
    rw [ep']
    have hc := parts_cnt s
    rw [ep, List.length_cons] at hc
    refine ⟨rfl, by rw [List.length_map]; omega, ?_⟩
    have pn : ∀ z, z ∈ p :: r → z ∈ partsS s := fun z hz => by rw [ep]; exact hz
    refine ⟨rfl, ?_⟩
    refine q_lenL ?_
    refine q_gt ?_
    refine IfP.by (fun h1 => ?_) (fun h1 => ?_)
    · refine IfP.t rfl (hn ?_)
      have h1' := of_decide_eq_true h1
      rw [List.length_map] at h1'
      refine if_neg fun z => ?_
      have z1 := z.1
      unfold okS at z1
      rw [Bool.and_eq_true, ep, List.length_cons] at z1
      have := of_decide_eq_true z1.1
      omega
    · have h1' := of_decide_eq_false h1
      rw [List.length_map] at h1'
      refine lcc_map figD ((p :: r).map D.str) (fun R E h => ⟨_, rfl, sz (by simp; omega), by rw [List.append_nil]; exact h⟩) (fun x hx T Q hq => ?_) (sz (by simp; omega)) ?_
      · obtain ⟨z, hz, rfl⟩ := List.mem_map.1 hx
        have := part_le (pn z hz)
        exact u_figs (by omega) hq
      · rw [fig_map]
        refine q_allL ?_
        have ea : ((p :: r).map figs).all id = (p :: r).all figs := by rw [List.all_map]; rfl
        rw [ea]
        refine IfP.by (fun h2 => ?_) (fun h2 => ?_)
        · refine hn (if_neg fun z => ?_)
          have z1 := z.1
          unfold okS at z1
          rw [Bool.and_eq_true, ep] at z1
          rw [z1.2] at h2
          cases h2
        · have h2' : (p :: r).all figs = true := by
            cases z : (p :: r).all figs with
            | true => rfl
            | false => rw [z] at h2; cases h2
          have hf : ∀ z ∈ p :: r, figs z = true := List.all_eq_true.1 h2'
          have ok : okS s = true := by
            unfold okS
            rw [ep, h2', Bool.and_true]
            exact decide_eq_true (by rw [List.length_cons]; omega)
          have rc : r = [] ∨ ∃ l, r = [l] := by
            cases r with
            | nil => exact .inl rfl
            | cons l r =>
              cases r with
              | nil => exact .inr ⟨l, rfl⟩
              | cons _ _ => rw [List.length_cons, List.length_cons] at h1'; omega
          have low : lowS s = lowR r := by
            unfold lowS
            rcases rc with rfl | ⟨l, rfl⟩
            · rw [ep]; rfl
            · rw [ep]; rfl
          have top : topS s = sgS s (natS p) := by unfold topS; rw [ep]; rfl
          have fp := fig_nat (pn p List.mem_cons_self) (hf p List.mem_cons_self) hl
          have hlow : (lowS s).natAbs < 2 ^ 1700 := by
            rw [low]
            rcases rc with rfl | ⟨l, rfl⟩
            · exact Nat.lt_of_lt_of_le (by decide) (Nat.one_lt_two_pow (n := 1700) (by decide))
            · exact (fig_nat (pn l (by simp)) (hf l (by simp)) hl).2.2.1
          have htop : (topS s).natAbs < 2 ^ 1700 := by
            rw [top]
            unfold sgS
            split
            · rw [Int.natAbs_neg]; exact fp.2.2.1
            · exact fp.2.2.1
          refine cut_to (.int (lowS s)) (fun Q hQ => ?_) ?_
          · rw [low] at hQ
            rcases rc with rfl | ⟨l, rfl⟩
            · exact ⟨sz (Nat.zero_le _), q_eqN (d := .list []) (e := .list []) rfl rfl rfl rfl (IfP.f rfl hQ)⟩
            · have fl := fig_nat (pn l (by simp)) (hf l (by simp)) hl
              exact ⟨sz (Nat.zero_le _), q_eqN (d := .list [.str l]) (e := .list []) rfl rfl (sh1 (figs_ok (hf l (by simp)))) rfl (IfP.t rfl (q_ix0 rfl (q_intS fl.1 fl.2.2.2 hQ)))⟩
          refine q_eqI (IfP.by (fun h3 => ?_) (fun h3 => ?_))
          · exact hn (if_neg fun z => z.2.1 (of_decide_eq_true h3))
          · have h3' : lowS s ≠ 0 := of_decide_eq_false h3
            refine cut_to (.int (topS s)) (fun Q hQ => ?_) ?_
            · refine ⟨sz (by omega), q_eqT ?_⟩
              rw [top] at hQ
              refine IfP.by (fun h4 => ?_) (fun h4 => ?_)
              · rw [sg1 h4] at hQ
                exact q_intS fp.1 fp.2.2.2 (q_neg hQ)
              · rw [sg0 h4] at hQ
                exact q_intS fp.1 fp.2.2.2 hQ
            · refine mkW h3' (lt_8999 1700 hlow (by decide)) ?_
              refine q_Wtext (txt_ok h3' htop hlow) (q_neT ?_)
              refine IfP.by (fun h5 => ?_) (fun h5 => ?_)
              · refine hn (if_neg fun z => ?_)
                rw [z.2.2] at h5
                simp at h5
              · have h5' : qText (Rat.divInt (topS s) (lowS s)) = s := by simpa using h5
                exact hs _ (if_pos ⟨ok, h3', h5'⟩)
  · refine q_isin o.toAdB hk he n_str (IfP.t ?_ (IfP.t rfl hE))
    cases k <;> first | rfl | exact absurd rfl hne
end K1
namespace K1
open PySem PySem.Spec PyProof.Rows L2 VX DL RQ TL
variable {ad : Ad} {ds : List D} {T : Td} {Q : KD} {E : XD}
theorem itR {j : Addr} {xs : List D} (h : T j = some (.lst xs)) : itemsD T (.ref j) = some xs := by simp [itemsD, h]
theorem set_ix {j : Addr} {xs : List D} {i : Int} {n : Nat} {x : D} {k : Td → Prop} (h : T j = some (.lst xs)) (hi : ixN xs.length i = some n) (hk : k (tput T j (.lst (xs.set n x)))) :
    (match D.ref j, D.int i with
      | .ref a, .int i => match T a with
        | some (.lst xs) => match ixN xs.length i with
          | some n => k (tput T a (.lst (xs.set n x)))
          | none => False
        | _ => False
      | _, _ => False) := by
  simp only [h, hi]
  exact hk
theorem h_l_take (h : sp_l_take ad ds T Q E) : d_l_take ad (endsD Q E) (startD N_l_take ds) T := by
  obtain ⟨j, m, n, rfl, ⟨a, b, c, hT, h0, h1, h2, h3, h4, h5⟩, hn, hm1, hm2, hq⟩ := h.h
  have hT2 : tput T j (.lst [.int a, .int b, .int (c + 1)]) j = some (.lst [.int a, .int b, .int (c + 1)]) := tput_same
  have m0 : m ≠ 0 := by omega
  have ms : m.natAbs < 2 ^ 64 := by omega
  refine q_ix0 (itR hT) (q_gt (IfP.by (fun hc => ?_) (fun hc => ?_)))
  · refine q_ix0 (itR hT) (q_int (q_mod m0 ?_))
    refine q_ix0 (itR hT) (q_fdvS m0 ms ?_)
    show match T j with | some (.lst xs) => _ | _ => False
    rw [hT]
    refine hq _ _ (Int.fmod_nonneg_of_pos _ (by omega)) (Int.fmod_lt_of_pos _ (by omega)) ⟨_, _, _, tput_same, Int.fdiv_nonneg h0 (by omega), Nat.lt_of_le_of_lt (natAbs_fdiv_le a m) h1, h2, h3, h4, by omega⟩ fun b hb => tput_ne hb
  · refine q_ix2 (itR hT) (q_add ?_)
    show match T j with | some (.lst xs) => _ | _ => False
    rw [hT]
    have k0 : (((b + 65521 * (c + 1) * (c + 1) + 53) * 48271).fmod 2305843009213693921).natAbs < 2 ^ 64 := by
      have q1 := Int.fmod_nonneg_of_pos ((b + 65521 * (c + 1) * (c + 1) + 53) * 48271) (b := 2305843009213693921) (by decide)
      have q2 := Int.fmod_lt_of_pos ((b + 65521 * (c + 1) * (c + 1) + 53) * 48271) (b := 2305843009213693921) (by decide)
      generalize ((b + 65521 * (c + 1) * (c + 1) + 53) * 48271).fmod 2305843009213693921 = z at *
      omega
    refine q_ix1 (itR hT2) ?_
    refine q_ix2 (itR hT2) (q_mulL (by decide) ?_)
    refine q_ix2 (itR hT2) (q_mulR (by omega) ?_)
    refine q_add (q_add (q_mulR (by decide) (q_int (q_mod (by decide) ?_))))
    refine q_int (q_mod (by decide) ?_)
    refine q_ix2 (itR hT2) (q_mulL (by decide) ?_)
    refine q_add (q_mulL k0 (q_int (q_mod (by decide) ?_)))
    refine q_fdvS (by decide) (by decide) (q_fdvS (by decide) (by decide) ?_)
    refine q_add (q_int (q_mod m0 ?_))
    exact hq _ _ (Int.fmod_nonneg_of_pos _ (by omega)) (Int.fmod_lt_of_pos _ (by omega)) ⟨a, b, c + 1, tput_same, h0, h1, h2, h3, by omega, by omega⟩ fun b hb => tput_ne hb
theorem u_take {j : Addr} {m : Int} {n : Nat} (hj : JOk n T j) (hn : n ≤ 2 ^ 40) (h1 : 1 ≤ m) (h2 : m ≤ 10 ^ 8) (hq : ∀ (r : Int) T', 0 ≤ r → r < m → JOk (n + 1) T' j → Ag j T T' → Q (.int r) T') : sp_l_take ad [.ref j, .int m] T Q E := ⟨j, m, n, rfl, hj, hn, h1, h2, hq⟩
theorem h_l_of (h : sp_l_of ad ds T Q E) : d_l_of ad (endsD Q E) (startD N_l_of ds) T := by
  obtain ⟨j, ds, n, rfl, hj, hn, h0, h1, hq⟩ := h.h
  have hl : 0 < ds.length := List.length_pos_iff.2 h0
  refine q_lenL ?_
  refine u_take (m := ds.length) hj hn (by omega) (by omega) fun r T' r0 r1 hj' ha => ?_
  have hr : r.toNat < ds.length := by omega
  exact q_ixI (y := ds[r.toNat]) (xs := ds) rfl r0 (List.getElem?_eq_getElem hr) (hq _ _ (List.getElem_mem hr) hj' ha)
theorem u_of {j : Addr} {xs : List D} {n : Nat} (hj : JOk n T j) (hn : n ≤ 2 ^ 40) (h0 : xs ≠ []) (h1 : xs.length ≤ 1000) (hq : ∀ d T', d ∈ xs → JOk (n + 1) T' j → Ag j T T' → Q d T') : sp_l_of ad [.ref j, .lst xs] T Q E := ⟨j, xs, n, rfl, hj, hn, h0, h1, hq⟩
theorem fr_eq {a b : Int} (h0 : 0 < b) : fq (Rat.divInt a b) = .tup [.int (a.fdiv (Nat.gcd a.natAbs b.natAbs : Int)), .int (b.fdiv (Nat.gcd a.natAbs b.natAbs : Int))] := by
  have e := w_q a b (by omega)
  unfold fq
  rw [← e.1, ← e.2]
  unfold wN wD wG
  rw [if_neg (by omega)]
theorem h_l_frac (h : sp_l_frac ad ds T Q E) : d_l_frac ad (endsD Q E) (startD N_l_frac ds) T := by
  obtain ⟨x, y, rfl, hy, hz, hq⟩ := h.h
  rw [fr_eq hy] at hq
  have key : ∀ (n a b : Nat) (D : DEnds) (T : Td), b < n → D.nx [some (.int x), some (.int y), some (.int (Nat.gcd a b : Nat)), some (.int 0)] T →
      dIter (dTst (dBin rGt (dVar 3) (dC (.int 0)))) (dPar 2 3 (dCons (dVar 3) (dCons (dBin rMod (dCL rIntS (dCons (dVar 2) dNil)) (dVar 3)) dNil))) D n [some (.int x), some (.int y), some (.int a), some (.int b)] T := by
    intro n
    induction n with
    | zero => intro a b D T h; omega
    | succ n ih =>
      intro a b D T h hn
      unfold dIter
      refine q_gt (IfP.by (fun hc => ?_) (fun hc => ?_))
      · have hb : (0 : Int) < b := of_decide_eq_true hc
        refine q_int (q_mod (by omega) ?_)
        have e := fmod_nat a b
        have hlt : a % b < b := Nat.mod_lt _ (by omega)
        have q := ih b (a % b) D T (by omega) (by rw [gcd_step] at hn; exact hn)
        rw [← e] at q
        exact q
      · have hb : ¬ (0 : Int) < b := of_decide_eq_false hc
        have hb0 : b = 0 := by omega
        subst hb0
        rw [Nat.gcd_zero_right] at hn
        exact hn
  refine q_abs ⟨⟨y.natAbs + 1, ?_⟩⟩
  have ey : ((y.natAbs : Nat) : Int) = y := by omega
  have g1 : Nat.gcd x.natAbs y.natAbs ≤ y.natAbs := Nat.gcd_le_right _ (by omega)
  have g0 : Nat.gcd x.natAbs y.natAbs ≠ 0 := fun z => by have := Nat.eq_zero_of_gcd_eq_zero_right z; omega
  have c1 : ((Nat.gcd x.natAbs y.natAbs : Nat) : Int) ≠ 0 := by omega
  have c2 : ((Nat.gcd x.natAbs y.natAbs : Nat) : Int).natAbs < 2 ^ 8999 := by rw [Int.natAbs_natCast]; exact Nat.lt_of_le_of_lt g1 hz
  have q := key (y.natAbs + 1) x.natAbs y.natAbs { nx := dRet (dTup (dCons (dBin rFdv (dVar 0) (dVar 2)) (dCons (dBin rFdv (dVar 1) (dVar 2)) dNil))) (endsD Q E), rt := (endsD Q E).rt, bk := (endsD Q E).bk, ct := (endsD Q E).ct, xe := (endsD Q E).xe } T (by omega) (q_fdv c1 c2 (q_fdv c1 c2 ⟨sz (Nat.le_of_ble_eq_true rfl), hq⟩))
  rw [ey] at q
  exact q
theorem u_frac {a b : Int} (h0 : 0 < b) (hz : b.natAbs < 2 ^ 8999) (hq : Q (fq (Rat.divInt a b)) T) : sp_l_frac ad [.int a, .int b] T Q E := ⟨a, b, rfl, h0, hz, hq⟩
theorem h_l_whole (h : sp_l_whole ad ds T Q E) : d_l_whole ad (endsD Q E) (startD N_l_whole ds) T := by
  obtain ⟨j, n, rfl, hj, hn, hq⟩ := h.h
  refine q_neg (q_neg (q_neg ?_))
  refine u_take (m := 2001) hj (by omega) (by decide) (by decide) fun r T1 r0 r1 hj1 a1 => q_sub ?_
  refine u_take (m := 13) hj1 (by omega) (by decide) (by decide) fun r' T2 r0' r1' hj2 a2 => q_sub ⟨sz (Nat.le_of_ble_eq_true rfl), ?_⟩
  refine u_of hj2 (by omega) (fun z => nomatch z) (Nat.le_of_ble_eq_true rfl) fun d T3 hd hj3 a3 => ?_
  have : ∃ i : Int, d = .int i ∧ i.natAbs ≤ 999999 := by
    simp only [List.mem_cons, List.not_mem_nil, or_false] at hd
    rcases hd with h | h | h | h | h | h | h | h | h | h | h
    all_goals (subst h; refine ⟨_, rfl, ?_⟩; first | decide | omega)
  obtain ⟨i, rfl, hi⟩ := this
  exact hq i T3 hi hj3 (a1.tr (a2.tr a3))
theorem u_whole {j : Addr} {n : Nat} (hj : JOk n T j) (hn : n ≤ 2 ^ 39) (hq : ∀ (i : Int) T', i.natAbs ≤ 999999 → JOk (n + 3) T' j → Ag j T T' → Q (.int i) T') : sp_l_whole ad [.ref j] T Q E := ⟨j, n, rfl, hj, hn, hq⟩
theorem q_f0 {q : Rat} (hq : Q (.int q.num) T) : O2 DL.rIx (fq q) (.int 0) T Q E := q_ix0 rfl hq
theorem q_f1 {q : Rat} (hq : Q (.int q.den) T) : O2 DL.rIx (fq q) (.int 1) T Q E := q_ix1 rfl hq
theorem h_l_worth_text (h : sp_l_worth_text ad ds T Q E) : d_l_worth_text ad (endsD Q E) (startD N_l_worth_text ds) T := by
  obtain ⟨q, rfl, ⟨h1, h2⟩, hq⟩ := h.h
  have l1 := il h1
  have l2 := dl h2
  have l3 : ("/" : Str).length = 1 := len_lit rfl
  have h2' : ((q.den : Int)).natAbs < 2 ^ 1919 := by rw [Int.natAbs_natCast]; exact h2
  unfold qText at hq
  refine q_f1 (q_eqI (IfP.by (fun hc => ?_) (fun hc => ?_)))
  · have hc' : q.den = 1 := by have := of_decide_eq_true hc; omega
    rw [if_pos hc'] at hq
    exact q_f0 (q_str h1 hq)
  · have hc' : q.den ≠ 1 := by have := of_decide_eq_false hc; omega
    rw [if_neg hc'] at hq
    refine q_f0 (q_str h1 (q_addS (sz (by rw [l3]; omega)) ?_))
    exact q_f1 (q_str h2' (q_addS (sz (by rw [slen, l3]; omega)) hq))
theorem u_worth_text {q : Rat} (h : TxtOk q) (hq : Q (.str (qText q)) T) : sp_l_worth_text ad [fq q] T Q E := ⟨q, rfl, h, hq⟩
theorem pw1 : CPw 10 60 := ⟨by decide, by decide +kernel⟩
theorem pw2 : CPw ((10 : Int) ^ (60 : Int).toNat) 5 := ⟨by decide, by decide +kernel⟩
theorem pw3 : CPw 10 18 := ⟨by decide, by decide +kernel⟩
theorem h_l_jar (h : sp_l_jar ad ds T Q E) : d_l_jar ad (endsD Q E) (startD N_l_jar ds) T := by
  obtain ⟨zs, k, rfl, hk, hz, hq⟩ := h.h
  refine cut_by (fun x T' => ∃ v : Int, x = .int v ∧ T' = T) (fun Q hQ => ?_) ?_
  · refine q_lenL ?_
    refine q_lt (IfP.by (fun hc => ?_) (fun hc => ?_))
    · have hc' : (k : Int) < (zs.map D.int).length := of_decide_eq_true hc
      have h2 : k < (zs.map D.int).length := by omega
      rw [List.length_map] at h2
      exact q_ix (n := k) (xs := zs.map D.int) (y := .int zs[k]) rfl (by rw [List.getElem?_map, List.getElem?_eq_getElem h2]; rfl) (hQ _ _ ⟨_, rfl, rfl⟩)
    · exact q_mulL (by decide) (q_add (hQ _ _ ⟨_, rfl, rfl⟩))
  · rintro _ _ ⟨v, rfl, rfl⟩
    have hM : (0 : Int) < (10 ^ (60 : Int).toNat) ^ (5 : Int).toNat := by decide +kernel
    have f0 := Int.fmod_nonneg_of_pos (v.natAbs : Int) hM
    have f1 := Int.fmod_lt_of_pos (v.natAbs : Int) hM
    have hL : ((10 ^ (60 : Int).toNat) ^ (5 : Int).toNat : Int) < 2 ^ 2000 := by decide +kernel
    have g0 := Int.fmod_nonneg_of_pos (v.fmod 2305843009213693951 * 69991 + 8861 * k * k + 83) (b := 2305843009213693921) (by decide)
    have g1 := Int.fmod_lt_of_pos (v.fmod 2305843009213693951 * 69991 + 8861 * k * k + 83) (b := 2305843009213693921) (by decide)
    have b1 : (k : Int).natAbs < 2 ^ 64 := by omega
    have db : ∀ b : Bool, (if b = true then (1 : Int) else 0).natAbs < 2 ^ 64 := by intro b; cases b <;> decide
    refine q_abs (q_int (q_pow pw1 (q_pow pw2 (q_mod (Int.ne_of_gt hM) ?_))))
    refine q_abs (q_pow pw3 (q_ge (q_intb (q_mulR (db _) ?_))))
    refine q_int (q_mod (by decide) (q_mulR (by decide) ?_))
    refine q_mulL (by decide) (q_mulR b1 (q_add (q_add ?_)))
    refine q_int (q_mod (by decide) ⟨sz (Nat.le_of_ble_eq_true rfl), ?_⟩)
    intro p hp
    refine hq p _ hp ⟨_, _, _, tput_same, ?_, ?_, g0, by omega, by decide, by decide⟩ fun b hb => tput_ne hb
    · split <;> omega
    · generalize (v.natAbs : Int).fmod ((10 ^ (60 : Int).toNat) ^ (5 : Int).toNat) = m at *
      have : m.natAbs < 2 ^ 2000 := by omega
      split
      · rw [Int.mul_one]; exact this
      · rw [Int.mul_zero]; exact Nat.two_pow_pos _
end K1
namespace K1
open PySem PySem.Spec PyProof.Rows L2 VX DL RQ TL
theorem tabIn_of {K : PySem.W.Frag} {x : Str} {f c P : Addr} {oc : Value} {od : Option Addr} {fd : FuncData} {osl : Array (Option Value)} {cl : Value} {cd : Option Addr} {vs : Array Value} {cs : Array (Option Value)} (a : PySem.W.nsIn K mainGlobals x = some (some (.ref f))) (l : K.lookup f = some ⟨oc, od, .func fd, osl⟩) (hc : fd.code = .ref c)
    (lc : K.lookup c = some ⟨cl, cd, .fields vs, cs⟩) (hv : vs[11]? = some (.ref P)) : PySem.W.tabIn K x = some (c, P) := by
  unfold PySem.W.tabIn
  rw [a]
  simp only [l, hc, lc, hv]
theorem kit_sub {K : PySem.W.Frag} {C : Addr} {n : String} {r : Bool} (hn : PySem.W.kitMeta n = true) (h : PySem.W.subIn K (.ref C) (.type n) = some r) : PySem.W.kitOne K (.ref C) (.type n) = some r := by
  have e : (Value.ref C == Value.type n) = false := rfl
  show (if (Value.ref C == Value.type n) = true then some true else if PySem.W.kitMeta n = true then PySem.W.subIn K (.ref C) (.type n) else none) = some r
  rw [e, if_neg Bool.false_ne_true, if_pos hn, h]
theorem kit_self {K : PySem.W.Frag} {C : Addr} : PySem.W.kitOne K (.ref C) (.ref C) = some true := by
  unfold PySem.W.kitOne
  rw [if_pos (beq_self_eq_true _)]
theorem exm_of {K : PySem.W.Frag} {B S : Addr} (h1 : PySem.W.subIn K (.ref S) (.type "BaseException") = some true) (h2 : PySem.W.isClsIn K S = true) (h3 : PySem.W.typeIn K (.ref S) = some (.type "type")) (h4 : PySem.W.subIn K (.ref B) (.ref S) = some true) : PySem.W.exmOne K (.ref B) (.ref S) = some true := by
  have e1 : (PySem.W.subIn K (.ref S) (.type "BaseException") == some true) = true := by rw [h1] <;> rfl
  have e2 : ((PySem.W.clsIn K S).isSome && PySem.W.typeIn K (.ref S) == some (.type "type")) = true := by
    have h2' : (PySem.W.clsIn K S).isSome = true := h2
    rw [h2', h3] <;> rfl
  show (if (PySem.W.subIn K (.ref S) (.type "BaseException") == some true) = true then (if ((PySem.W.clsIn K S).isSome && PySem.W.typeIn K (.ref S) == some (.type "type")) = true then PySem.W.subIn K (.ref B) (.ref S) else none) else none) = some true
  rw [if_pos e1, if_pos e2]
  exact h4
theorem kit_nf {K : PySem.W.Frag} {C : Addr} {n : String} (hc : PySem.W.isClsIn K C = true) (ht : PySem.W.typeIn K (.ref C) = some (.type "type")) (h : nfT C (.type n) = true) : PySem.W.kitOne K (.type n) (.ref C) = some false := by
  have q := nfT_ok (K := K) h
  unfold PySem.W.notFirst at q
  have hne : (Value.type n == Value.ref C) = false := Bool.eq_false_iff.mpr fun q => by cases beq_iff_eq.mp q
  have e : PySem.W.subIn K (.type n) (.ref C) = some false := by
    rcases Bool.or_eq_true_iff.mp q with e | e
    · rw [hne] at e; cases e
    · exact beq_iff_eq.mp e
  have e2 : ((PySem.W.clsIn K C).isSome && PySem.W.typeIn K (.ref C) == some (.type "type")) = true := by
    have h2' : (PySem.W.clsIn K C).isSome = true := hc
    rw [h2', ht] <;> rfl
  show (if (Value.type n == Value.ref C) = true then some true else if ((PySem.W.clsIn K C).isSome && PySem.W.typeIn K (.ref C) == some (.type "type")) = true then PySem.W.subIn K (.type n) (.ref C) else none) = some false
  rw [hne, if_neg Bool.false_ne_true, if_pos e2, e]
theorem t0_1 {c P : Addr} {q : Str} {r : List (Addr × Addr × Str)} : T0 ((c, P, q) :: r) P = some (.tbl q) := by simp [T0]
theorem t0_2 {c P P' : Addr} {q : Str} {r : List (Addr × Addr × Str)} (h : (P' == P) = false) : T0 ((c, P', q) :: r) P = T0 r P := by simp [T0, List.find?_cons, h]
theorem meta6 {n : String} (hn : n ∈ names6) : PySem.W.kitMeta n = true := by
  unfold names6 at hn
  simp only [List.mem_cons, List.not_mem_nil, or_false] at hn
  rcases hn with rfl | rfl | rfl | rfl | rfl | rfl <;> decide +kernel
theorem adB_one {K : PySem.W.Frag} {ad : Ad} {W : Addr} {es : List Addr} (hi : ad.inst = PySem.W.kitOne K) (hc : ad.cls = [W]) (ho : ad.obj = []) (he : ad.exs = es) (h6 : ∀ n ∈ names6, PySem.W.subIn K (.ref W) (.type n) = some false)
    (hw : PySem.W.isClsIn K W = true ∧ PySem.W.typeIn K (.ref W) = some (.type "type")) (hes : ∀ C ∈ es, PySem.W.isClsIn K C = true ∧ PySem.W.typeIn K (.ref C) = some (.type "type")) : AdB ad where
  b := fun m n r h => by rw [hi]; exact kit_ty h
  ct := fun C h n hn => by
    have : C = W := by simpa [inS, inO, hc, ho] using h
    subst this
    rw [hi]
    exact kit_sub (meta6 hn) (h6 n hn)
  cc := fun C _ => by rw [hi]; exact kit_self
  nc := fun C h n hn => by
    have hk : PySem.W.isClsIn K C = true ∧ PySem.W.typeIn K (.ref C) = some (.type "type") := by
      rcases Bool.or_eq_true_iff.1 h with h | h
      · have : C = W := by simpa [inS, inO, hc, ho] using h
        subst this
        exact hw
      · refine hes C ?_
        unfold inE at h
        rw [he] at h
        exact List.contains_iff_mem.1 h
    rw [hi]
    exact kit_nf hk.1 hk.2 (List.contains_iff_mem.2 hn)
  cd := fun C D h1 h2 hn => by
    have e1 : C = W := by simpa [inS, inO, hc, ho] using h1
    have e2 : D = W := by simpa [inS, inO, hc, ho] using h2
    exact absurd (e1.trans e2.symm) hn
def ownW (W : Addr) : Addr → Option (List Str) → List D → Option Str
  | C, none, [.int a, .int b] => if C = W ∧ (Rat.divInt a b).num = a ∧ ((Rat.divInt a b).den : Int) = b ∧ (Rat.divInt a b).num.natAbs < 2 ^ 1919 ∧ (Rat.divInt a b).den < 2 ^ 1919 then some (rText (Rat.divInt a b)) else none
  | _, _, _ => none
theorem ownW_ok {W : Addr} {q : Rat} (h : TxtOk q) : ownW W W none [.int q.num, .int q.den] = some (rText q) := by
  show (if W = W ∧ (Rat.divInt q.num q.den).num = q.num ∧ ((Rat.divInt q.num q.den).den : Int) = q.den ∧ (Rat.divInt q.num q.den).num.natAbs < 2 ^ 1919 ∧ (Rat.divInt q.num q.den).den < 2 ^ 1919 then some (rText (Rat.divInt q.num q.den)) else none) = _
  rw [q_self]
  exact if_pos ⟨rfl, rfl, rfl, h.1, h.2⟩
theorem ownW_inv {W C : Addr} {n : Option (List Str)} {xs : List D} {t : Str} (h : ownW W C n xs = some t) : ∃ q : Rat, C = W ∧ n = none ∧ xs = [.int q.num, .int q.den] ∧ t = rText q ∧ TxtOk q := by
  unfold ownW at h
  split at h
  · split at h
    · rename_i e
      cases h
      exact ⟨_, e.1, rfl, by rw [e.2.1, e.2.2.1], rfl, e.2.2.2⟩
    · cases h
  · cases h
theorem len_Winit1 {ad : Ad} {ds : List D} {T : Td} {Q : KD} {E : XD} (q : sp1_Winit ad ds T Q E) : (ds ++ [D.int 1]).length = 3 := by
  obtain ⟨_, _, _, e, _⟩ := q.h.h
  rw [e]
  rfl
theorem six {p : String → Prop} (h1 : p "int") (h2 : p "bool") (h3 : p "str") (h4 : p "tuple") (h5 : p "list") (h6 : p "dict") : ∀ n ∈ names6, p n := fun n hn => by
  unfold names6 at hn
  simp only [List.mem_cons, List.not_mem_nil, or_false] at hn
  rcases hn with rfl | rfl | rfl | rfl | rfl | rfl <;> assumption
end K1
namespace K1
open PySem PySem.Spec PyProof.Rows L2 VX DL RQ TL
structure Tb (ad : Ad) (T : Td) : Prop where
  a : T ad.P_l_text_right = some (.tbl "_law_text_right.<locals>.<lambda>")
  b : T ad.P_l_fine = some (.tbl "_law_fine.<locals>.<lambda>")
def Asc (s : Str) : Prop := ∀ c ∈ tl s, c < 128
structure AdX (ad : Ad) : Prop extends AdW ad where
  e1 : inE ad ad.BadText = true
  e2 : ad.exm ad.SlipError (.ref ad.BadText) = some true
structure sp_l_pair_in (ad : Ad) (xs : List D) (T : Td) (Q : KD) (E : XD) : Prop where
  h : ∃ s, xs = [.str s] ∧ s.length ≤ 500 ∧ (∀ q, parseS s = some q → Q (fq q) T) ∧ (parseS s = none → Q (.tup []) T)
structure sp_l_is_long (ad : Ad) (xs : List D) (T : Td) (Q : KD) (E : XD) : Prop where
  h : ∃ s, xs = [.str s] ∧ s.length ≤ 500 ∧ ∀ b, Q (.bl b) T
structure sp_l_text_right (ad : Ad) (xs : List D) (T : Td) (Q : KD) (E : XD) : Prop where
  h : ∃ s, xs = [.str s] ∧ s.length ≤ 500 ∧ Asc s ∧ Tb ad T ∧ Q (.bl true) T
structure sp_l_bent (ad : Ad) (xs : List D) (T : Td) (Q : KD) (E : XD) : Prop where
  h : ∃ (j : Addr) (s : Str) (n : Nat), xs = [.ref j, .str s] ∧ JOk n T j ∧ n ≤ 2 ^ 39 ∧ s.length ≤ 200 ∧ Asc s ∧ ∀ s' T', s'.length ≤ 500 → Asc s' → JOk (n + 3) T' j → Ag j T T' → Q (.str s') T'
structure sp_l_repr_due (ad : Ad) (xs : List D) (T : Td) (Q : KD) (E : XD) : Prop where
  h : ∃ q, xs = [fq q] ∧ TxtOk q ∧ Q (.str (rText q)) T
def Kp (j : Addr) (T T' : Td) : Prop := ∀ b o, b ≠ j → T b = some o → T' b = some o
structure sp_l_fine (ad : Ad) (xs : List D) (T : Td) (Q : KD) (E : XD) : Prop where
  h : ∃ j : Addr, xs = [.ref j] ∧ JOk 0 T j ∧ Tb ad T ∧ ∀ T', Kp j T T' → Q (.bl true) T'
structure sp_law (ad : Ad) (xs : List D) (T : Td) (Q : KD) (E : XD) : Prop where
  h : ∃ zs : List Int, xs = [.lst (zs.map D.int)] ∧ (∀ z ∈ zs, Builtin.Int.intBits z ≤ 1048576) ∧ zs.length ≤ 63 ∧ Tb ad T ∧ ∀ T', Q (.bl true) T'
end K1
namespace K1
open PySem PySem.Spec PyProof.Rows L2 VX DL RQ TL
abbrev N_l_pair_in : List Str := ["_law_word", "_law_body", "_law_parts", "_law_part", "_law_sign", "_law_low", "_law_pair"]
def d_l_pair_in (ad : Ad) : TDS := (dSeq (dSet 1 (dCut (dIf (dTst (dBin rEqS (dSl (dVar 0) dNoPart (dPart (dC (.int 1)))) (dC (.str "-")))) (dSl (dVar 0) (dPart (dC (.int 1))) dNoPart) (dVar 0))))
    (dSeq (dSet 2 (dM1S rSplit (dVar 1) (dC (.str "/"))))
    (dSeq (dIfS (dOr (dTst (dBin rGt (dCL rLenU (dCons (dVar 2) dNil)) (dC (.int 2)))) (dNot (dTst (dCL (rAllD (·.all id)) (dCons (dCut (dLc (diSeqL (dVar 2)) (dgName 3) dYes (dBin rNeS (dVar 3) (dC (.str ""))) [3])) dNil))))) (dRet (dTup dNil)) dNext)
    (dSeq (dIfS (dNot (dTst (dCL (rAllD (·.all id)) (dCons (dCut (dLc (diStr (dM1S rJoin (dC (.str "")) (dVar 2))) (dgName 4) dYes (dBin (rSign false) (dVar 4) (dC (.str "0123456789"))) [4])) dNil)))) (dRet (dTup dNil)) dNext)
    (dSeq (dSet 5 (dCut (dIf (dTst (dBin rEqS (dCL rLenU (dCons (dVar 2) dNil)) (dC (.int 2)))) (dCL rIntS (dCons (dBin rIx (dVar 2) (dC (.int 1))) dNil)) (dC (.int 1)))))
    (dSeq (dIfS (dTst (dBin rEqS (dVar 5) (dC (.int 0)))) (dRet (dTup dNil)) dNext)
    (dSeq (dSet 6 (dCB (sp_l_frac ad) (dCons (dCut (dIf (dTst (dBin rEqS (dSl (dVar 0) dNoPart (dPart (dC (.int 1)))) (dC (.str "-")))) (dUn rNeg (dCL rIntS (dCons (dBin rIx (dVar 2) (dC (.int 0))) dNil))) (dCL rIntS (dCons (dBin rIx (dVar 2) (dC (.int 0))) dNil)))) (dCons (dVar 5) dNil))))
    (dRet (dIf (dTst (dBin rEqS (dCB (sp_l_worth_text ad) (dCons (dVar 6) dNil)) (dVar 0))) (dVar 6) (dTup dNil))))))))))
abbrev N_l_is_long : List Str := ["_law_word", "_law_many", "_law_most", "_law_sign"]
def d_l_is_long (ad : Ad) : TDS := (dSeq (dAsg (dTup (dCons (dC (.int 0)) (dCons (dC (.int 0)) dNil))) (dgTup 2 (dgCons (dgName 1) (dgCons (dgName 2) dgNil))))
    (dSeq (dCutS (dFor (diStr (dVar 0)) (dgName 3) (dSeq (dSet 1 (dCut (dIf (dTst (dBin (rSign false) (dVar 3) (dC (.str "0123456789")))) (dBin rAdd (dVar 1) (dC (.int 1))) (dC (.int 0)))))
    (dSet 2 (dCut (dIf (dTst (dBin rGt (dVar 1) (dVar 2))) (dVar 1) (dVar 2)))))))
    (dRet (dBin rGt (dVar 2) (dC (.int 6))))))
abbrev N_l_text_right : List Str := ["_law_word", "_law_pair", "_law_caught_here"]
abbrev q_l_text_right : Str := "_law_text_right.<locals>.<lambda>"
def d_l_text_right (ad : Ad) : TDS := (dSeq (dIfS (dTst (dCB (sp_l_is_long ad) (dCons (dVar 0) dNil))) (dRet (dC (.bl true))) dNext)
    (dSeq (dPar 1 2 (dCons (dCB (sp_l_pair_in ad) (dCons (dVar 0) dNil)) (dCons (dLam ad.P_l_text_right q_l_text_right 3 [0] N_l_caught (dCB (sp_Wof ad) (dCons (dVar 0) dNil)) (d_l_caught ad)) dNil)))
    (dSeq (dIfS (dTst (dBin (rEqN id) (dVar 1) (dTup dNil))) (dRet (dAndV (dCL (rIsiD (inS ad) (inE ad) (inO ad) ad.inst) (dCons (dVar 2) (dCons (dC (.val (.ref ad.BadText))) dNil))) (dBin rEqS (dCL (rRepr ad.own 8) (dCons (dUn (rFld (inE ad) "value") (dVar 2)) dNil)) (dCL (rRepr ad.own 8) (dCons (dVar 0) dNil))))) dNext)
    (dRet (dAndV (dBin rIsN (dVar 2) (dC .non)) (dAndV (dBin (rEqA ad.Worth (inS ad) (inE ad) (inO ad) (sp_Weq ad)) (dCB (sp_Wof ad) (dCons (dVar 0) dNil)) (dCL (rMake ad.Worth (sp_Winit ad)) (dCons (dBin rIx (dVar 1) (dC (.int 0))) (dCons (dBin rIx (dVar 1) (dC (.int 1))) dNil)))) (dBin rEqS (dUn (rProp ad.Worth (sp_Wtext ad)) (dCB (sp_Wof ad) (dCons (dVar 0) dNil))) (dVar 0))))))))
abbrev N_l_bent : List Str := ["_law_jar_here", "_law_word", "_law_at", "_law_way", "_law_sign"]
def d_l_bent (ad : Ad) : TDS := (dSeq (dPar 2 3 (dCons (dCB (sp_l_take ad) (dCons (dVar 0) (dCons (dBin rAdd (dCL rLenU (dCons (dVar 1) dNil)) (dC (.int 1))) dNil))) (dCons (dCB (sp_l_take ad) (dCons (dVar 0) (dCons (dC (.int 3)) dNil))) dNil)))
    (dSeq (dSet 4 (dCB (sp_l_of ad) (dCons (dVar 0) (dCons (dLst (dCons (dC (.str "0")) (dCons (dC (.str "1")) (dCons (dC (.str "2")) (dCons (dC (.str "-")) (dCons (dC (.str "/")) (dCons (dC (.str " ")) (dCons (dC (.str "+")) (dCons (dC (.str ".")) (dCons (dC (.str "x")) (dCons (dC (.str "")) (dCons (dC (.str "_")) (dCons (dC (.str "\n")) dNil))))))))))))) dNil))))
    (dSeq (dIfS (dTst (dBin rEqS (dVar 3) (dC (.int 0)))) (dRet (dBin rSS (dBin rSS (dSl (dVar 1) dNoPart (dPart (dVar 2))) (dVar 4)) (dSl (dVar 1) (dPart (dVar 2)) dNoPart))) dNext)
    (dRet (dIf (dTst (dBin rEqS (dVar 3) (dC (.int 1)))) (dBin rSS (dSl (dVar 1) dNoPart (dPart (dVar 2))) (dSl (dVar 1) (dPart (dBin rAdd (dVar 2) (dC (.int 1)))) dNoPart)) (dBin rSS (dBin rSS (dSl (dVar 1) dNoPart (dPart (dVar 2))) (dVar 4)) (dSl (dVar 1) (dPart (dBin rAdd (dVar 2) (dC (.int 1)))) dNoPart)))))))
abbrev N_l_repr_due : List Str := ["_law_pair"]
def d_l_repr_due (ad : Ad) : TDS := (dRet (dIf (dTst (dBin rEqS (dBin rIx (dVar 0) (dC (.int 1))) (dC (.int 1)))) (dBin rSS (dBin rSS (dC (.str "Worth(")) (dCL rStr (dCons (dBin rIx (dVar 0) (dC (.int 0))) dNil))) (dC (.str ")"))) (dBin rSS (dBin rSS (dBin rSS (dBin rSS (dC (.str "Worth(")) (dCL rStr (dCons (dBin rIx (dVar 0) (dC (.int 0))) dNil))) (dC (.str ", "))) (dCL rStr (dCons (dBin rIx (dVar 0) (dC (.int 1))) dNil))) (dC (.str ")")))))
abbrev N_l_fine : List Str := ["_law_jar_here", "_law_turn", "_law_pair", "_law_number", "_law_some", "_law_odd", "_law_caught_here", "_law_worth", "_law_word", "_law_lap", "_law_one"]
abbrev q_l_fine : Str := "_law_fine.<locals>.<lambda>"
def d_l_fine (ad : Ad) : TDS := (dSeq (dCutS (dFor (diRng1 (dCons (dC (.int 8)) dNil)) (dgName 1) (dSeq (dSet 2 (dCB (sp_l_frac ad) (dCons (dCB (sp_l_whole ad) (dCons (dVar 0) dNil)) (dCons (dBin rAdd (dC (.int 1)) (dBin rMul (dCB (sp_l_take ad) (dCons (dVar 0) (dCons (dC (.int 20)) dNil))) (dCB (sp_l_take ad) (dCons (dVar 0) (dCons (dC (.int 2)) dNil))))) dNil))))
    (dSeq (dAsg (dTup (dCons (dCL (rMake ad.Worth (sp_Winit ad)) (dCons (dBin rIx (dVar 2) (dC (.int 0))) (dCons (dBin rIx (dVar 2) (dC (.int 1))) dNil))) (dCons (dCB (sp_l_worth_text ad) (dCons (dVar 2) dNil)) dNil))) (dgTup 2 (dgCons (dgName 7) (dgCons (dgName 8) dgNil))))
    (dSeq (dIfS (dOr (dTst (dBin rNeS (dCL (rRepr ad.own 8) (dCons (dUn (rProp ad.Worth (sp_Wtext ad)) (dVar 7)) dNil)) (dCL (rRepr ad.own 8) (dCons (dVar 8) dNil)))) (dOr (dTst (dBin rNeS (dCL (rRepr ad.own 8) (dCons (dVar 7) dNil)) (dCB (sp_l_repr_due ad) (dCons (dVar 2) dNil)))) (dNot (dTst (dBin (rEqA ad.Worth (inS ad) (inE ad) (inO ad) (sp_Weq ad)) (dCB (fun ds => sp_Wof ad (permL [0] ds)) (dCnt 0 1 dNil (dCons (dVar 8) dNil))) (dVar 7)))))) (dRet (dC (.bl false))) dNext)
    (dSeq (dIfS (dNot (dTst (dCL (rAllD (·.all id)) (dCons (dCut (dLc (diRng1 (dCons (dC (.int 3)) dNil)) (dgName 9) dYes (dCB (sp_l_text_right ad) (dCons (dCB (sp_l_bent ad) (dCons (dVar 0) (dCons (dVar 8) dNil))) dNil)) [9])) dNil)))) (dRet (dC (.bl false))) dNext)
    (dSeq (dSet 3 (dCL rStr (dCons (dBin rAdd (dC (.int 1)) (dCB (sp_l_take ad) (dCons (dVar 0) (dCons (dC (.int 9)) dNil)))) dNil)))
    (dSeq (dSet 4 (dLst (dCons (dC (.str "")) (dCons (dC (.str "-")) (dCons (dC (.str "-0")) (dCons (dBin rSS (dC (.str "+")) (dVar 3)) (dCons (dBin rSS (dC (.str "0")) (dVar 3)) (dCons (dBin rSS (dVar 3) (dC (.str "/1"))) (dCons (dBin rSS (dBin rSS (dVar 3) (dC (.str "/"))) (dVar 3)) (dCons (dBin rSS (dC (.str "1/-")) (dVar 3)) (dCons (dC (.str "1/0")) dNil)))))))))))
    (dSeq (dSet 4 (dBin rLL (dVar 4) (dLst (dCons (dBin rSS (dC (.str " ")) (dVar 3)) (dCons (dBin rSS (dVar 3) (dC (.str " "))) (dCons (dBin rSS (dC (.str "--")) (dVar 3)) (dCons (dC (.str "1/2/3")) (dCons (dBin rSS (dC (.str "0/")) (dVar 3)) (dCons (dC (.str "/2")) (dCons (dC (.str "2/")) (dCons (dC (.str "2/4")) (dCons (dC (.str "-1/02")) dNil))))))))))))
    (dSeq (dIfS (dNot (dTst (dCL (rAllD (·.all id)) (dCons (dCut (dLc (diSeqL (dVar 4)) (dgName 10) dYes (dCB (sp_l_text_right ad) (dCons (dVar 10) dNil)) [10])) dNil)))) (dRet (dC (.bl false))) dNext)
    (dSeq (dSet 5 (dCB (sp_l_of ad) (dCons (dVar 0) (dCons (dLst (dCons (dC .non) (dCons (dC (.int 1)) (dCons (dC (.bl true)) (dCons (dVar 7) (dCons (dTup (dCons (dVar 8) dNil)) (dCons (dLst (dCons (dVar 8) dNil)) (dCons (dC (.dct [] [])) dNil)))))))) dNil))))
    (dSeq (dSet 6 (dLam ad.P_l_fine q_l_fine 11 [5] N_l_caught (dCB (sp_Wof ad) (dCons (dVar 5) dNil)) (d_l_caught ad)))
    (dIfS (dOr (dNot (dTst (dCL (rIsiD (inS ad) (inE ad) (inO ad) ad.inst) (dCons (dVar 6) (dCons (dC (.val (.ref ad.BadText))) dNil))))) (dTst (dBin rNeS (dCL (rRepr ad.own 8) (dCons (dUn (rFld (inE ad) "value") (dVar 6)) dNil)) (dCL (rRepr ad.own 8) (dCons (dVar 5) dNil))))) (dRet (dC (.bl false))) dNext)))))))))))))
    (dRet (dC (.bl true))))
abbrev N_law : List Str := ["_law_script", "_law_k"]
def d_law (ad : Ad) : TDS := (dRet (dCL (rAllD (·.all id)) (dCons (dCut (dLc (diRng1 (dCons (dCL rMax (dCons (dC (.int 1)) (dCons (dCL rMin (dCons (dCL rLenU (dCons (dVar 0) dNil)) (dCons (dC (.int 3)) dNil))) dNil))) dNil)) (dgName 1) dYes (dCB (sp_l_fine ad) (dCons (dCB (sp_l_jar ad) (dCons (dVar 0) (dCons (dVar 1) dNil))) dNil)) [1])) dNil)))
end K1
namespace K1
open PySem PySem.Spec PyProof.Rows L2 VX DL RQ TL
variable {ad : Ad} {ds : List D} {T : Td} {Q : KD} {E : XD}
theorem strs_map (l : List Str) : strsOf (l.map D.str) = some l := by
  induction l with
  | nil => rfl
  | cons a l ih => rw [List.map_cons, strsOf, ih]; rfl
theorem joinL_nil : ∀ l : List (List Nat), joinL [] l = l.flatten
  | [] => rfl
  | [p] => by simp [joinL]
  | p :: q :: r => by
    show p ++ ([] ++ joinL [] (q :: r)) = _
    rw [List.nil_append, joinL_nil (q :: r)]
    simp
theorem tl_join0 (l : List Str) : tl (Txt.join "" l) = (l.map tl).flatten := by
  rw [join_eq, tl_join, show tl ("" : Str) = [] by rw [tl_ofString]; rfl, joinL_nil]
/-- what the texts' parts are, with their worths -/
theorem ok_bounds {s : Str} (hl : s.length ≤ 500) (ok : okS s = true) : (∃ p r, partsS s = p :: r ∧ (r = [] ∨ ∃ l, r = [l]) ∧ (∀ z ∈ p :: r, intText? z = some (natS z) ∧ 0 ≤ natS z ∧ (natS z).natAbs < 2 ^ 1700 ∧ z.length ≤ 640)) ∧ (topS s).natAbs < 2 ^ 1700 ∧ 0 ≤ lowS s ∧ (lowS s).natAbs < 2 ^ 1700 := by
  unfold okS at ok
  rw [Bool.and_eq_true] at ok
  obtain ⟨o1, o2⟩ := ok
  have o1 := of_decide_eq_true o1
  obtain ⟨p, r, ep⟩ : ∃ p r, partsS s = p :: r := by
    cases e : partsS s with
    | nil => exact absurd e (parts_ne s)
    | cons p r => exact ⟨p, r, rfl⟩
  have hf : ∀ z ∈ p :: r, intText? z = some (natS z) ∧ 0 ≤ natS z ∧ (natS z).natAbs < 2 ^ 1700 ∧ z.length ≤ 640 := fun z hz => fig_nat (by rw [ep]; exact hz) (List.all_eq_true.1 o2 z (by rw [ep]; exact hz)) hl
  have rc : r = [] ∨ ∃ l, r = [l] := by
    rw [ep] at o1
    cases r with
    | nil => exact .inl rfl
    | cons l r =>
      cases r with
      | nil => exact .inr ⟨l, rfl⟩
      | cons _ _ => simp at o1
  refine ⟨⟨p, r, ep, rc, hf⟩, ?_, ?_⟩
  · have : topS s = sgS s (natS p) := by unfold topS; rw [ep]; rfl
    rw [this]
    unfold sgS
    split
    · rw [Int.natAbs_neg]; exact (hf p List.mem_cons_self).2.2.1
    · exact (hf p List.mem_cons_self).2.2.1
  · unfold lowS
    rw [ep]
    rcases rc with rfl | ⟨l, rfl⟩
    · exact ⟨show (0 : Int) ≤ 1 by decide, show (1 : Int).natAbs < 2 ^ 1700 from Nat.one_lt_two_pow (n := 1700) (by decide)⟩
    · have := hf l (by simp)
      exact ⟨this.2.1, this.2.2.1⟩
theorem parse_ok {s : Str} {q : Rat} (hl : s.length ≤ 500) (h : parseS s = some q) : qText q = s ∧ TxtOk q ∧ q.den < 2 ^ 8999 := by
  unfold parseS at h
  split at h
  · rename_i z
    cases h
    obtain ⟨_, h1, h2, h3⟩ := ok_bounds hl z.1
    have t := txt_ok z.2.1 h1 h3
    exact ⟨z.2.2, t, lt_8999 1919 t.2 (by decide)⟩
  · cases h
def neD : D → D
  | .str z => .bl (!decide (z = ""))
  | x => x
theorem h_l_pair_in (h : sp_l_pair_in ad ds T Q E) : d_l_pair_in ad (endsD Q E) (startD N_l_pair_in ds) T := by
  obtain ⟨s, rfl, hl, hs, hn⟩ := h.h
  refine cut_body (i := 0) rfl (by omega) ?_
  refine ⟨rfl, by rw [len_lit (n := 1) rfl]; rfl, sz (by have := body_len s; omega), ?_⟩
  have ep' : Txt.split (bodyS s) "/" = partsS s := rfl
  rw [ep']
  have hc := parts_cnt s
  refine q_lenL ?_
  refine q_gt ?_
  have bad : okS s = false → parseS s = none := fun z => if_neg fun y => by rw [z] at y; cases y.1
  have bad1 : ∀ DD : DEnds, DD.rt = Q → okS s = false → dRet (dTup dNil) DD [some (.str s), some (.str (bodyS s)), some (.lst ((partsS s).map D.str)), none, none, none, none] T := fun DD e z => ⟨sz (Nat.zero_le _), by rw [e]; exact hn (bad z)⟩
  refine IfP.by (fun h1 => ?_) (fun h1 => ?_)
  · refine IfP.t rfl (bad1 _ rfl ?_)
    have h1' := of_decide_eq_true h1
    rw [List.length_map] at h1'
    unfold okS
    rw [decide_eq_false (by omega)]
    rfl
  · have h1' := of_decide_eq_false h1
    rw [List.length_map] at h1'
    refine lcc_map neD ((partsS s).map D.str) (fun R E h => h) (fun x hx T Q hq => ?_) (sz (by rw [List.length_map]; omega)) ?_
    · obtain ⟨z, hz, rfl⟩ := List.mem_map.1 hx
      exact q_neT hq
    · have en : ((partsS s).map D.str).map neD = ((partsS s).map fun z : Str => !decide (z = "")).map D.bl := by rw [List.map_map, List.map_map]; rfl
      rw [en]
      refine q_allL ?_
      have ea : ((partsS s).map fun z : Str => !decide (z = "")).all id = (partsS s).all fun z : Str => !decide (z = "") := by rw [List.all_map]; rfl
      rw [ea]
      refine IfP.by (fun h2 => ?_) (fun h2 => ?_)
      · refine bad1 _ rfl ?_
        have h2' : ((partsS s).all fun z : Str => !decide (z = "")) = false := by simpa using h2
        rw [Bool.eq_false_iff]
        intro z
        unfold okS at z
        rw [Bool.and_eq_true] at z
        rw [List.all_eq_false] at h2'
        obtain ⟨x, hx, e⟩ := h2'
        have := List.all_eq_true.1 z.2 x hx
        unfold figs at this
        rw [Bool.and_eq_true] at this
        exact e (by simpa using this.1)
      · have h2' : ((partsS s).all fun z : Str => !decide (z = "")) = true := by simpa using h2
        have hlen : ∀ (l : List Str), (∀ p ∈ l, p.length ≤ 500) → (l.map (·.length)).sum ≤ l.length * 500 := by
          intro l
          induction l with
          | nil => intro _; simp
          | cons a l ih =>
            intro h
            have h1 := h a List.mem_cons_self
            have h2 := ih fun p hp => h p (List.mem_cons_of_mem _ hp)
            rw [List.map_cons, List.sum_cons, List.length_cons, Nat.succ_mul]
            omega
        have hsum := hlen (partsS s) fun p hp => Nat.le_trans (part_le hp) hl
        have l0 : ("" : Str).length = 0 := len_lit rfl
        have hj : (Txt.join "" (partsS s)).length ≤ 10000 := by
          rw [len_tl, tl_join0, List.length_flatten, List.map_map]
          have e : (List.length ∘ tl : Str → Nat) = fun p => p.length := by funext p; exact (len_tl p).symm
          rw [e]
          omega
        refine lcc_map digD (signsD (Txt.join "" (partsS s))) (fun R E h => ?_) (fun x hx T Q hq => ?_) (by rw [sgn_len]; exact sz hj) ?_
        · refine ⟨rfl, ?_⟩
          show match strsOf ((partsS s).map D.str) with | some ys => _ | none => False
          rw [strs_map]
          exact ⟨by rw [l0]; omega, h⟩
        · obtain ⟨c, hc, rfl⟩ := sgn_mem hx
          refine q_sign ?_
          have e : digD (.str ⟨#[c]⟩) = .bl (decide (c ∈ (("0123456789" : Str)).cps.toList)) := by
            show D.bl (([c] : List Nat).all isDig) = _
            simp [isDig]
          rw [← e]
          exact hq
        · rw [sgn_map]
          refine q_allL ?_
          have e : ((tl (Txt.join "" (partsS s))).map isDig).all id = (tl (Txt.join "" (partsS s))).all isDig := by rw [List.all_map]; rfl
          rw [e, tl_join0]
          have okk : (((partsS s).map tl).flatten).all isDig = true ↔ okS s = true := by
            rw [List.all_flatten, List.all_map]
            unfold okS
            rw [Bool.and_eq_true, List.all_eq_true, List.all_eq_true]
            constructor
            · intro h
              refine ⟨decide_eq_true (by omega), fun z hz => ?_⟩
              unfold figs
              rw [Bool.and_eq_true]
              exact ⟨by have := List.all_eq_true.1 h2' z hz; simpa using this, h z hz⟩
            · intro h z hz
              have := h.2 z hz
              unfold figs at this
              rw [Bool.and_eq_true] at this
              exact this.2
          refine IfP.by (fun h3 => ?_) (fun h3 => ?_)
          · refine bad1 _ rfl ?_
            rw [Bool.eq_false_iff]
            intro z
            rw [okk.2 z] at h3
            cases h3
          · have ok : okS s = true := okk.1 (by simpa using h3)
            obtain ⟨⟨p, r, ep, rc, hf⟩, ht, h0, hz⟩ := ok_bounds hl ok
            have top : topS s = sgS s (natS p) := by unfold topS; rw [ep]; rfl
            rw [ep]
            refine cut_to (.int (lowS s)) (fun Q hQ => ?_) ?_
            · refine q_lenL ?_
              refine q_eqI ?_
              unfold lowS at hQ
              rw [ep] at hQ
              rcases rc with rfl | ⟨l, rfl⟩
              · exact IfP.f rfl hQ
              · have fl := hf l (by simp)
                exact IfP.t rfl (q_ix1 rfl (q_intS fl.1 fl.2.2.2 hQ))
            refine q_eqI (IfP.by (fun h4 => ?_) (fun h4 => ?_))
            · exact ⟨sz (Nat.zero_le _), hn (if_neg fun z => z.2.1 (of_decide_eq_true h4))⟩
            · have h4' : lowS s ≠ 0 := of_decide_eq_false h4
              refine cut_to (.int (topS s)) (fun Q hQ => ?_) ?_
              · refine ⟨sz (by omega), q_eqT ?_⟩
                have fp := hf p List.mem_cons_self
                rw [top] at hQ
                refine IfP.by (fun h5 => ?_) (fun h5 => ?_)
                · rw [sg1 h5] at hQ
                  exact q_ix0 rfl (q_intS fp.1 fp.2.2.2 (q_neg hQ))
                · rw [sg0 h5] at hQ
                  exact q_ix0 rfl (q_intS fp.1 fp.2.2.2 hQ)
              · refine u_frac (by omega) (lt_8999 1700 hz (by decide)) ?_
                refine u_worth_text (txt_ok h4' ht hz) (q_eqT ?_)
                refine IfP.by (fun h5 => ?_) (fun h5 => ?_)
                · exact hs _ (if_pos ⟨ok, h4', of_decide_eq_true h5⟩)
                · exact ⟨sz (Nat.zero_le _), hn (if_neg fun z => of_decide_eq_false h5 z.2.2)⟩
theorem u_pair_in {s : Str} (hl : s.length ≤ 500) (hs : ∀ q, parseS s = some q → Q (fq q) T) (hn : parseS s = none → Q (.tup []) T) : sp_l_pair_in ad [.str s] T Q E := ⟨s, rfl, hl, hs, hn⟩
theorem h_l_is_long (h : sp_l_is_long ad ds T Q E) : d_l_is_long ad (endsD Q E) (startD N_l_is_long ds) T := by
  obtain ⟨s, rfl, hl, hq⟩ := h.h
  refine ⟨sz (Nat.le_of_ble_eq_true rfl), rfl, rfl, ?_⟩
  refine for_inv (fun n sd T' => T' = T ∧ ∃ (a b : Int) (x : Option D), sd = [some (.str s), some (.int a), some (.int b), x]) (signsD s) (fun R E h => h) 0 (fun x hx n sd T' D' hm hI e1 e2 hnx hct => ?_) ⟨rfl, 0, 0, _, rfl⟩ fun sd' T' hI => ?_
  · obtain ⟨rfl, a, b, x0, rfl⟩ := hI
    obtain ⟨c, hc, rfl⟩ := sgn_mem hx
    refine cut_by (fun x T'' => T'' = T' ∧ ∃ i : Int, x = .int i) (fun Q hQ => ?_) ?_
    · refine q_sign (IfP.by (fun _ => ?_) (fun _ => ?_))
      · exact q_add (hQ _ _ ⟨rfl, _, rfl⟩)
      · exact hQ _ _ ⟨rfl, _, rfl⟩
    · rintro _ T2 ⟨rfl, i, rfl⟩
      refine cut_by (fun x T'' => T'' = T2 ∧ ∃ i : Int, x = .int i) (fun Q hQ => ?_) ?_
      · refine q_gt (IfP.by (fun _ => ?_) (fun _ => ?_))
        · exact hQ _ _ ⟨rfl, _, rfl⟩
        · exact hQ _ _ ⟨rfl, _, rfl⟩
      · rintro _ _ ⟨rfl, k, rfl⟩
        exact hnx _ _ ⟨rfl, i, k, _, rfl⟩
  · obtain ⟨rfl, a, b, x0, rfl⟩ := hI
    exact q_gt (hq _)
theorem h_l_repr_due (h : sp_l_repr_due ad ds T Q E) : d_l_repr_due ad (endsD Q E) (startD N_l_repr_due ds) T := by
  obtain ⟨q, rfl, ⟨h1, h2⟩, hq⟩ := h.h
  have l1 := il h1
  have l2 := dl h2
  have l3 : ("Worth(" : Str).length = 6 := len_lit rfl
  have l4 : (")" : Str).length = 1 := len_lit rfl
  have l5 : (", " : Str).length = 2 := len_lit rfl
  have h2' : ((q.den : Int)).natAbs < 2 ^ 1919 := by rw [Int.natAbs_natCast]; exact h2
  unfold rText at hq
  refine q_f1 (q_eqI (IfP.by (fun hc => ?_) (fun hc => ?_)))
  · have hc' : q.den = 1 := by have := of_decide_eq_true hc; omega
    rw [if_pos hc'] at hq
    exact q_f0 (q_str h1 (q_addS (sz (by rw [l3]; omega)) (q_addS (sz (by rw [slen, l3, l4]; omega)) hq)))
  · have hc' : q.den ≠ 1 := by have := of_decide_eq_false hc; omega
    rw [if_neg hc'] at hq
    refine q_f0 (q_str h1 (q_addS (sz (by rw [l3]; omega)) (q_addS (sz (by rw [slen, l3, l5]; omega)) ?_)))
    exact q_f1 (q_str h2' (q_addS (sz (by rw [slen, slen, l3, l5]; omega)) (q_addS (sz (by rw [slen, slen, slen, l3, l4, l5]; omega)) hq)))
end K1
namespace K1
open PySem PySem.Spec PyProof.Rows L2 VX DL RQ TL
variable {ad : Ad} {ds : List D} {T : Td} {Q : KD} {E : XD}
theorem u_is_long {s : Str} (hl : s.length ≤ 500) (hq : ∀ b, Q (.bl b) T) : sp_l_is_long ad [.str s] T Q E := ⟨s, rfl, hl, hq⟩
theorem u_repr_due {q : Rat} (h : TxtOk q) (hq : Q (.str (rText q)) T) : sp_l_repr_due ad [fq q] T Q E := ⟨q, rfl, h, hq⟩
theorem asc_app {s t : Str} (h1 : Asc s) (h2 : Asc t) : Asc (s ++ t) := fun c hc => by
  rw [tl_append, List.mem_append] at hc
  exact hc.elim (h1 c) (h2 c)
theorem asc_cut {s : Str} (h : Asc s) (lo hi : Option Int) : Asc (cutS s lo hi) := fun c hc => h c (List.mem_of_mem_drop (List.mem_of_mem_take hc))
theorem asc_lit {s : String} (h : s.toList.all (fun c => decide (c.toNat < 128)) = true) : Asc (Str.ofString s) := fun c hc => by
  rw [tl_ofString] at hc
  obtain ⟨d, hd, rfl⟩ := List.mem_map.1 hc
  exact of_decide_eq_true (List.all_eq_true.1 h d hd)
theorem asc_int (i : Int) : Asc (Str.ofString (toString i)) := fun c hc => by
  rw [tl_int] at hc
  split at hc
  · rcases List.mem_cons.1 hc with h | h
    · omega
    · have := numL_digits _ c h; omega
  · have := numL_digits _ c hc; omega
theorem h_l_bent (h : sp_l_bent ad ds T Q E) : d_l_bent ad (endsD Q E) (startD N_l_bent ds) T := by
  obtain ⟨j, s, n, rfl, hj, hn, hl, ha, hq⟩ := h.h
  refine q_lenS (sz (by omega)) (q_add ?_)
  refine u_take (m := s.length + 1) hj (by omega) (by omega) (by omega) fun r T1 r0 r1 hj1 a1 => ?_
  refine u_take (m := 3) hj1 (by omega) (by decide) (by decide) fun w T2 w0 w1 hj2 a2 => ?_
  refine ⟨sz (Nat.le_of_ble_eq_true rfl), ?_⟩
  refine u_of hj2 (by omega) (fun z => nomatch z) (Nat.le_of_ble_eq_true rfl) fun d T3 hd hj3 a3 => ?_
  have : ∃ x : Str, d = .str x ∧ x.length ≤ 1 ∧ Asc x := by
    simp only [List.mem_cons, List.not_mem_nil, or_false] at hd
    rcases hd with h | h | h | h | h | h | h | h | h | h | h | h
    all_goals (subst h; exact ⟨_, rfl, by first | exact Nat.le_of_eq (len_lit rfl) | (rw [len_lit (n := 0) rfl]; decide), asc_lit (by decide)⟩)
  obtain ⟨x, rfl, hx, ax⟩ := this
  have c1 : ∀ lo hi, (cutS s lo hi).length ≤ 200 := fun lo hi => Nat.le_trans (cutS_length s lo hi) hl
  have fin : ∀ lo hi lo' hi', Q (.str (cutS s lo hi ++ x ++ cutS s lo' hi')) T3 := fun lo hi lo' hi' => hq _ _ (by rw [slen, slen]; have := c1 lo hi; have := c1 lo' hi'; omega) (asc_app (asc_app (asc_cut ha _ _) ax) (asc_cut ha _ _)) hj3 (a1.tr (a2.tr a3))
  have fin2 : ∀ lo hi lo' hi', Q (.str (cutS s lo hi ++ cutS s lo' hi')) T3 := fun lo hi lo' hi' => hq _ _ (by rw [slen]; have := c1 lo hi; have := c1 lo' hi'; omega) (asc_app (asc_cut ha _ _) (asc_cut ha _ _)) hj3 (a1.tr (a2.tr a3))
  refine q_eqI (IfP.by (fun hc => ?_) (fun hc => ?_))
  · refine ⟨sz (by omega), q_addS (sz (by have := c1 none (some r); omega)) ⟨sz (by omega), q_addS (sz (by rw [slen]; have := c1 none (some r); have := c1 (some r) none; omega)) (fin _ _ _ _)⟩⟩
  · refine q_eqI (IfP.by (fun hc => ?_) (fun hc => ?_))
    · refine ⟨sz (by omega), ?_⟩
      refine q_add ⟨sz (by omega), ?_⟩
      exact q_addS (sz (by have := c1 none (some r); have := c1 (some (r + 1)) none; omega)) (fin2 _ _ _ _)
    · refine ⟨sz (by omega), q_addS (sz (by have := c1 none (some r); omega)) ?_⟩
      refine q_add ⟨sz (by omega), ?_⟩
      exact q_addS (sz (by rw [slen]; have := c1 none (some r); have := c1 (some (r + 1)) none; omega)) (fin _ _ _ _)
theorem u_bent {j : Addr} {s : Str} {n : Nat} (hj : JOk n T j) (hn : n ≤ 2 ^ 39) (hl : s.length ≤ 200) (ha : Asc s) (hq : ∀ s' T', s'.length ≤ 500 → Asc s' → JOk (n + 3) T' j → Ag j T T' → Q (.str s') T') : sp_l_bent ad [.ref j, .str s] T Q E := ⟨j, s, n, rfl, hj, hn, hl, ha, hq⟩
theorem rp_str {s : Str} (hl : s.length ≤ 500) (ha : Asc s) : reprD ad.own (.str s) = some (reprText s) := by
  have h := StrLaws.reprText_len s fun c hc => Nat.lt_trans (ha c hc) (by decide)
  unfold reprD
  rw [if_pos (sz (by omega))]
theorem kd_exc {C : Addr} (he : inE ad C = true) (ns : List Str) (xs : List D) : kdD ad T (.exc (.ref C) ns xs) = some (.exc C) := by
  show (if inE ad C = true then some (Kd.exc C) else none) = _
  rw [if_pos he]
theorem q_val {C : Addr} {x : D} (he : inE ad C = true) (hq : Q x T) : O1 (rFld (inE ad) "value") (.exc (.ref C) ["value"] [x]) T Q E := ⟨by
  refine ⟨he, ?_⟩
  show match lookD "value" ["value"] [x] with | some d => _ | none => False
  have : lookD "value" ["value"] [x] = some x := by simp [lookD]
  rw [this]
  exact hq⟩
theorem q_isE (o : AdB ad) {C : Addr} (he : inE ad C = true) {ns : List Str} {xs : List D} (hq : Q (.bl true) T) : OL (rIsiD (inS ad) (inE ad) (inO ad) ad.inst) [.exc (.ref C) ns xs, .val (.ref C)] T Q E :=
  q_isi (kd_exc he ns xs) rfl (o.cc C (by rw [he, Bool.or_true])) hq
theorem q_eqW (o : AdW ad) {p q : Rat} (hq : Q (.bl (decide (p = q))) T) : O2 (rEqA ad.Worth (inS ad) (inE ad) (inO ad) (sp_Weq ad)) (wq ad p) (wq ad q) T Q E := ⟨by
  show (slotsD ad.Worth T (wq ad p)).isSome = true ∧ (∃ t, tyD (inS ad) (inE ad) (inO ad) T (wq ad q) = some t ∧ nfT ad.Worth t = true) ∧ sp_Weq ad [wq ad p, wq ad q] T Q E
  refine ⟨by simp [slotsD, wq], ⟨_, ty_kd (kd_w o q), by simp [nfT, Kd.ty]⟩, ⟨p, _, rfl, .inl ⟨q, rfl, hq⟩⟩⟩⟩
theorem cond_ok (o : AdX ad) {ts : TDS} {D : DEnds} {sd : SD} {x : DL.D} (h : ts { nx := fun s2 T2 => D.nx (s2.set 2 none) T2, rt := D.rt, bk := fun s2 T2 => D.bk (s2.set 2 none) T2, ct := fun s2 T2 => D.ct (s2.set 2 none) T2, xe := fun _ _ _ => False } (sd.set 2 (some (.exc (.ref ad.BadText) ["value"] [x]))) T) :
    hCond (ad.exm ad.SlipError) 2 ts D (excD ad.BadText x) sd T := ⟨true, o.e2, fun _ => ⟨fun z => (nomatch z), h⟩, fun z => (nomatch z)⟩
theorem h_l_text_right (o : AdX ad) (h : sp_l_text_right ad ds T Q E) : d_l_text_right ad (endsD Q E) (startD N_l_text_right ds) T := by
  obtain ⟨s, rfl, hl, ha, tb, hq⟩ := h.h
  refine u_is_long hl fun b => ?_
  refine IfP.by (fun _ => hq) (fun _ => ?_)
  refine u_pair_in hl (fun q hp => ?_) (fun hn => ?_)
  · obtain ⟨e1, t, hd⟩ := parse_ok hl hp
    have wof : ∀ (Q' : KD) (E' : XD), Q' (wq ad q) T → sp_Wof ad [.str s] T Q' E' := fun Q' E' h => u_Wof_s hl (fun q' h' => by rw [hp] at h'; cases h'; exact h) (fun h' => by rw [hp] at h'; cases h')
    refine ⟨tb.a, fun f c vs => ⟨rfl, wof _ _ ?_⟩⟩
    refine ⟨sz (Nat.zero_le _), ?_⟩
    refine q_eqN (d := .tuple [.int q.num, .int q.den]) (e := .tuple []) rfl rfl rfl rfl ?_
    refine IfP.f rfl ?_
    refine q_isN (b := true) rfl ?_
    refine wof _ _ ?_
    refine q_f0 (q_f1 (mkQ hd ?_))
    refine q_eqW o.toAdW ?_
    rw [decide_eq_true rfl]
    refine wof _ _ ?_
    refine q_Wtext t (q_eqT ?_)
    rw [e1, decide_eq_true rfl]
    exact hq
  · refine ⟨tb.a, fun f c vs => ⟨rfl, u_Wof_s hl (fun q' h' => by rw [hn] at h'; cases h') fun _ => cond_ok o ?_⟩⟩
    refine ⟨sz (Nat.zero_le _), ?_⟩
    refine q_eqN (d := .tuple []) (e := .tuple []) rfl rfl rfl rfl ?_
    refine IfP.t rfl ?_
    refine q_isE o.toAdB o.e1 ?_
    refine q_val o.e1 ?_
    refine q_repr (rp_str hl ha) (Nat.le_of_ble_eq_true rfl) ?_
    refine q_repr (rp_str hl ha) (Nat.le_of_ble_eq_true rfl) ?_
    refine q_eqT ?_
    rw [decide_eq_true rfl]
    exact hq
theorem u_text_right {s : Str} (hl : s.length ≤ 500) (ha : Asc s) (tb : Tb ad T) (hq : Q (.bl true) T) : sp_l_text_right ad [.str s] T Q E := ⟨s, rfl, hl, ha, tb, hq⟩
end K1
namespace K1
open PySem PySem.Spec PyProof.Rows L2 VX DL RQ TL
variable {ad : Ad} {ds : List D} {T : Td} {Q : KD} {E : XD}
theorem Tb.put {P : Addr} {o : DO} (h : Tb ad T) {T0 : Td} (hP : T0 P = none) (h0 : Tb ad T0) : Tb ad (tput T P o) :=
  ⟨by rw [tput_ne fun e => by rw [← e, h0.a] at hP; cases hP]; exact h.a, by rw [tput_ne fun e => by rw [← e, h0.b] at hP; cases hP]; exact h.b⟩
theorem Tb.del {P : Addr} (h : Tb ad T) {T0 : Td} (hP : T0 P = none) (h0 : Tb ad T0) : Tb ad (tdel T P) :=
  ⟨by rw [tdel_ne fun e => by rw [← e, h0.a] at hP; cases hP]; exact h.a, by rw [tdel_ne fun e => by rw [← e, h0.b] at hP; cases hP]; exact h.b⟩
theorem Tb.ag {j : Addr} {n : Nat} {T' : Td} (h : Tb ad T) (hj : JOk n T j) (a : Ag j T T') : Tb ad T' := by
  obtain ⟨x, y, z, q, _⟩ := hj
  exact ⟨by rw [a _ fun e => by rw [← e, h.a] at q; cases q]; exact h.a, by rw [a _ fun e => by rw [← e, h.b] at q; cases q]; exact h.b⟩
theorem Kp.refl {j : Addr} : Kp j T T := fun _ _ _ h => h
theorem Kp.ag {j : Addr} {T1 T2 : Td} (h : Kp j T T1) (a : Ag j T1 T2) : Kp j T T2 := fun b o hb e => by rw [a b hb]; exact h b o hb e
theorem Kp.put {j P : Addr} {ob : DO} {T0 T' : Td} (h : Kp j T T') (hP : T0 P = none) (h0 : Kp j T T0) : Kp j T (tput T' P ob) := fun b o hb e => by
  rw [tput_ne fun z => by have := h0 b o hb e; rw [z, hP] at this; cases this]
  exact h b o hb e
theorem Kp.del {j P : Addr} {T0 T' : Td} (h : Kp j T T') (hP : T0 P = none) (h0 : Kp j T T0) : Kp j T (tdel T' P) := fun b o hb e => by
  rw [tdel_ne fun z => by have := h0 b o hb e; rw [z, hP] at this; cases this]
  exact h b o hb e
theorem Kp.tb {j : Addr} {n : Nat} {T' : Td} (h : Kp j T T') (hj : JOk n T j) (t : Tb ad T) : Tb ad T' := by
  obtain ⟨x, y, z, q, _⟩ := hj
  exact ⟨h _ _ (fun e => by rw [← e, t.a] at q; cases q) t.a, h _ _ (fun e => by rw [← e, t.b] at q; cases q) t.b⟩
theorem JOk.keep {j : Addr} {n : Nat} (h : JOk n T j) {P : Addr} {l : List D} {T' : Td} (e : T P = some (.lst l)) (hj : j ≠ P) (a : Ag j T T') : T' P = some (.lst l) := by
  rw [a P fun z => hj z.symm]
  exact e
/-- texts in a row -/
structure Tx1 (d : D) : Prop where
  h : ∃ s, d = .str s ∧ s.length ≤ 500 ∧ Asc s
theorem tl_len {i : Int} (h : i.natAbs < 10 ^ 7) : (Str.ofString (toString i)).length ≤ 8 := by
  have h1 : ∀ n : Nat, n < 10 ^ 7 → (numL n).length ≤ 7 := fun n hn => numL_len (by decide) hn
  rw [len_tl, tl_int]
  split
  · rw [List.length_cons]; have := h1 _ h; omega
  · have := h1 _ h; omega
theorem rp_w (o : AdW ad) {q : Rat} (h : TxtOk q) : reprD ad.own (wq ad q) = some (rText q) := by
  have l1 := il h.1
  have l2 := dl h.2
  have l3 : ("Worth(" : Str).length = 6 := len_lit rfl
  have l4 : (")" : Str).length = 1 := len_lit rfl
  have l5 : (", " : Str).length = 2 := len_lit rfl
  have hl : (rText q).length ≤ sizeLine := by
    refine sz ?_
    unfold rText
    split
    · rw [slen, slen, l3, l4]; omega
    · rw [slen, slen, slen, slen, l3, l4, l5]; omega
  unfold wq reprD
  rw [o.wo q h]
  show (if (rText q).length ≤ sizeLine then some (rText q) else none) = some (rText q)
  rw [if_pos hl]
/-- what stands in the place of a text -/
theorem odd_ok (o : AdW ad) {q : Rat} (h : TxtOk q) {s : Str} (hl : s.length ≤ 100) (ha : Asc s) {d : D} (hd : d ∈ [D.non, .int 1, .bl true, wq ad q, .tup [.str s], .lst [.str s], .dct [] []]) :
    ∃ k t, kdD ad T d = some k ∧ NoExc k ∧ k ≠ .str ∧ reprD ad.own d = some t ∧ depthD d ≤ 8 := by
  have r1 := rp_str (ad := ad) (s := s) (by omega) ha
  have hr := StrLaws.reprText_len s fun c hc => Nat.lt_trans (ha c hc) (by decide)
  have l1 : ("(" : Str).length = 1 := len_lit rfl
  simp only [List.mem_cons, List.not_mem_nil, or_false] at hd
  rcases hd with rfl | rfl | rfl | rfl | rfl | rfl | rfl
  · exact ⟨.non, _, rfl, nx_non, fun z => (nomatch z), rfl, Nat.le_of_ble_eq_true rfl⟩
  · exact ⟨.int, _, rfl, nx_int, fun z => (nomatch z), rfl, Nat.le_of_ble_eq_true rfl⟩
  · exact ⟨.bl, _, rfl, nx_bl, fun z => (nomatch z), rfl, Nat.le_of_ble_eq_true rfl⟩
  · exact ⟨.cls ad.Worth, _, kd_w o q, nx_cls, fun z => (nomatch z), rp_w o h, Nat.le_of_ble_eq_true rfl⟩
  · refine ⟨.tup, tupleText [reprText s], rfl, nx_tup, fun z => (nomatch z), ?_, Nat.le_of_ble_eq_true rfl⟩
    have hz : (tupleText [reprText s]).length ≤ sizeLine := by
      refine sz ?_
      show ("(" ++ reprText s ++ ",)" : Str).length ≤ 10000
      rw [slen, slen, l1, len_lit (n := 2) rfl]
      omega
    simp only [reprD, reprDs] at r1 ⊢
    rw [r1]
    simp only
    rw [if_pos hz]
  · refine ⟨.lst, listText [reprText s], rfl, nx_lst, fun z => (nomatch z), ?_, Nat.le_of_ble_eq_true rfl⟩
    have hz : (listText [reprText s]).length ≤ sizeLine := by
      refine sz ?_
      show ("[" ++ reprText s ++ "]" : Str).length ≤ 10000
      rw [slen, slen, len_lit (n := 1) rfl, len_lit (n := 1) rfl]
      omega
    simp only [reprD, reprDs] at r1 ⊢
    rw [r1]
    simp only
    rw [if_pos hz]
  · exact ⟨.dct, _, rfl, nx_dct, fun z => (nomatch z), rfl, Nat.le_of_ble_eq_true rfl⟩
end K1
namespace K1
open PySem PySem.Spec PyProof.Rows L2 VX DL RQ TL
variable {ad : Ad} {ds : List D} {T : Td} {Q : KD} {E : XD}
structure Tn (n : Nat) (s : Str) : Prop where
  l : s.length ≤ n
  a : Asc s
theorem Tn.lit {s : String} (h : s.length ≤ 20) (ha : s.toList.all (fun c => decide (c.toNat < 128)) = true) : Tn 20 (Str.ofString s) := ⟨by rw [len_lit rfl]; exact h, asc_lit ha⟩
theorem Tn.app {m n : Nat} {s t : Str} (h1 : Tn m s) (h2 : Tn n t) : Tn (m + n) (s ++ t) := ⟨by rw [slen]; have := h1.l; have := h2.l; omega, asc_app h1.a h2.a⟩
theorem Tn.tx {n : Nat} {s : Str} (h : Tn n s) (hn : n ≤ 500) : Tx1 (.str s) := ⟨⟨s, rfl, Nat.le_trans h.l hn, h.a⟩⟩
theorem q_addT {m n : Nat} {s t : Str} (h1 : Tn m s) (h2 : Tn n t) (hn : m + n ≤ 10000) (q : Q (.str (s ++ t)) T) : O2 rSS (.str s) (.str t) T Q E := q_addS (sz (by have := h1.l; have := h2.l; omega)) q
theorem q_addL {xs ys : List D} (h : xs.length + ys.length ≤ 10000) (q : Q (.lst (xs ++ ys)) T) : O2 rLL (.lst xs) (.lst ys) T Q E := ⟨⟨rfl, rfl, sz h, q⟩⟩
theorem frac_ok {a b : Int} (hb : 0 < b) (h1 : a.natAbs < 2 ^ 21) (h2 : b.natAbs < 2 ^ 21) : TxtOk (Rat.divInt a b) ∧ (Rat.divInt a b).den < 2 ^ 8999 ∧ (Rat.divInt a b).num.natAbs < 10 ^ 300 ∧ (Rat.divInt a b).den < 10 ^ 300 ∧ (qText (Rat.divInt a b)).length ≤ 100 := by
  have h := div_sz (a := a) (b := b) (by omega) (k := 21) (by decide) h1 h2
  obtain ⟨p, q⟩ := sz_of h
  have m : (2 : Nat) ^ 21 ≤ 10 ^ 7 := by decide
  refine ⟨⟨Nat.lt_of_lt_of_le p (Nat.pow_le_pow_right (by decide) (by decide)), Nat.lt_of_lt_of_le q (Nat.pow_le_pow_right (by decide) (by decide))⟩, lt_8999 21 q (by decide), Nat.lt_of_lt_of_le p (Nat.le_trans m (Nat.pow_le_pow_right (by decide) (by decide))), Nat.lt_of_lt_of_le q (Nat.le_trans m (Nat.pow_le_pow_right (by decide) (by decide))), ?_⟩
  have t1 := tl_len (i := (Rat.divInt a b).num) (Nat.lt_of_lt_of_le p m)
  have t2 := tl_len (i := ((Rat.divInt a b).den : Int)) (by rw [Int.natAbs_natCast]; exact Nat.lt_of_lt_of_le q m)
  have l3 : ("/" : Str).length = 1 := len_lit rfl
  unfold qText
  split
  · omega
  · rw [slen, slen, l3]; omega
theorem asc_q (q : Rat) : Asc (qText q) := by
  unfold qText
  split
  · exact asc_int _
  · exact asc_app (asc_app (asc_int _) (asc_lit (by decide))) (asc_int _)
theorem rng_len (n : Nat) : (rangeD 0 n).length = n := by unfold rangeD; rw [List.length_map, List.length_range]
theorem h_l_fine (o : AdX ad) (h : sp_l_fine ad ds T Q E) : d_l_fine ad (endsD Q E) (startD N_l_fine ds) T := by
  obtain ⟨j, rfl, hj, tb, hq⟩ := h.h
  refine for_inv (fun n sd T' => JOk (100 * n) T' j ∧ Kp j T T' ∧ ∃ x1 x2 x3 x4 x5 x6 x7 x8 x9 x10 : Option DL.D, sd = [some (.ref j), x1, x2, x3, x4, x5, x6, x7, x8, x9, x10]) (rangeD 0 8) (fun R E h => ⟨by decide, by decide, h⟩) 0 (fun x hx n sd T1 D' hm hI er ex hnx hct => ?_) ⟨hj, Kp.refl, _, _, _, _, _, _, _, _, _, _, rfl⟩ fun sd' T' hI => hq _ hI.2.1
  rw [rng_len] at hm
  obtain ⟨hj1, kp1, x1, x2, x3, x4, x5, x6, x7, x8, x9, x10, rfl⟩ := hI
  refine u_whole hj1 (by omega) fun i T2 hi hj2 a2 => ?_
  refine u_take (m := 20) hj2 (by omega) (by decide) (by decide) fun r T3 r0 r1 hj3 a3 => ?_
  refine u_take (m := 2) hj3 (by omega) (by decide) (by decide) fun r' T4 r0' r1' hj4 a4 => ?_
  refine q_mulL (by omega) (q_add ?_)
  have kp4 : Kp j T T4 := ((kp1.ag a2).ag a3).ag a4
  have hb : 0 < 1 + r * r' ∧ 1 + r * r' ≤ 20 := by
    have : r' = 0 ∨ r' = 1 := by omega
    rcases this with rfl | rfl <;> omega
  obtain ⟨t, hd, n1, n2, ql⟩ := frac_ok (a := i) (b := 1 + r * r') hb.1 (by omega) (by omega)
  refine u_frac hb.1 (lt_8999 64 (by omega) (by decide)) ?_
  generalize Rat.divInt i (1 + r * r') = q at t hd n1 n2 ql
  have aq := asc_q q
  have pq := parse_text q n1 n2
  refine q_f0 (q_f1 (mkQ hd ?_))
  refine u_worth_text t ⟨sz (Nat.le_of_ble_eq_true rfl), rfl, rfl, ?_⟩
  refine q_Wtext t ?_
  refine q_repr (rp_str (by omega) aq) (Nat.le_of_ble_eq_true rfl) ?_
  refine q_repr (rp_str (by omega) aq) (Nat.le_of_ble_eq_true rfl) ?_
  refine q_neT (IfP.f (by simp) ?_)
  refine q_repr (rp_w o.toAdW t) (Nat.le_of_ble_eq_true rfl) ?_
  refine u_repr_due t (q_neT (IfP.f (by simp) ?_))
  refine ⟨rfl, rfl, u_Wof_s (by omega) (fun q' h' => ?_) (fun h' => by rw [pq] at h'; cases h')⟩
  rw [pq] at h'
  cases h'
  refine q_eqW o.toAdW ?_
  rw [decide_eq_true rfl]
  refine IfP.f rfl ?_
  have jn : ∀ P, T4 P = none → j ≠ P := fun P hP => hj4.ne hP
  refine lcc_inv (fun y => y = .bl true) (fun m T' => JOk (100 * n + 5 + 4 * m) T' j ∧ Kp j T T') (rangeD 0 3) (fun R E h => ⟨by decide, by decide, h⟩) (fun m T' P ob hP h => ⟨h.1.put (jn P hP), h.2.put hP kp4⟩) (fun m T' P hP h => ⟨h.1.del (jn P hP), h.2.del hP kp4⟩) 0
    (fun x hx P m T' l Q hP hm' h e k => u_bent h.1 (by rw [rng_len] at hm'; omega) (by omega) aq fun s' T'' hs' as' hj' ag => u_text_right hs' as' ((h.2.ag ag).tb hj tb) (k _ _ rfl ⟨hj'.mono (by omega), h.2.ag ag⟩ (h.1.keep e (jn P hP) ag))) ⟨hj4.mono (by omega), kp4⟩ (sz (by rw [rng_len]; omega)) fun ys T5 ly hy h5 => ?_
  rw [rng_len] at h5
  obtain ⟨hj5, kp5⟩ := h5
  refine q_allT hy (IfP.f rfl ?_)
  refine u_take (m := 9) hj5 (by omega) (by decide) (by decide) fun k T6 k0 k1 hj6 a6 => ?_
  have kp6 := kp5.ag a6
  refine q_add (q_str (Nat.lt_trans (show (1 + k).natAbs < 2 ^ 64 by omega) (Nat.pow_lt_pow_right (by decide) (by decide))) ?_)
  have hz : Tn 20 (Str.ofString (toString (1 + k))) := ⟨Nat.le_trans (tl_len (by omega)) (by decide), asc_int _⟩
  generalize (Str.ofString (toString (1 + k))) = z at hz
  have L : ∀ (s : String), s.length ≤ 20 → s.toList.all (fun c => decide (c.toNat < 128)) = true → Tn 20 (Str.ofString s) := fun s h1 h2 => Tn.lit h1 h2
  refine q_addT (L _ (by decide) (by decide)) hz (by decide) ?_
  refine q_addT (L _ (by decide) (by decide)) hz (by decide) ?_
  refine q_addT hz (L _ (by decide) (by decide)) (by decide) ?_
  refine q_addT hz (L _ (by decide) (by decide)) (by decide) ?_
  refine q_addT (hz.app (L _ (by decide) (by decide))) hz (by decide) ?_
  refine q_addT (L _ (by decide) (by decide)) hz (by decide) ⟨sz (Nat.le_of_ble_eq_true rfl), ?_⟩
  refine q_addT (L _ (by decide) (by decide)) hz (by decide) ?_
  refine q_addT hz (L _ (by decide) (by decide)) (by decide) ?_
  refine q_addT (L _ (by decide) (by decide)) hz (by decide) ?_
  refine q_addT (L _ (by decide) (by decide)) hz (by decide) ⟨sz (Nat.le_of_ble_eq_true rfl), ?_⟩
  refine q_addL (Nat.le_of_ble_eq_true rfl) ?_
  have jn6 : ∀ P, T6 P = none → j ≠ P := fun P hP => hj6.ne hP
  refine lcc_inv (fun y => y = .bl true) (fun m T' => JOk (100 * n + 40) T' j ∧ Kp j T T') _ (fun R E h => h) (fun m T' P ob hP h => ⟨h.1.put (jn6 P hP), h.2.put hP kp6⟩) (fun m T' P hP h => ⟨h.1.del (jn6 P hP), h.2.del hP kp6⟩) 0
    (fun x hx P m T' l Q hP hm' h e k => ?_) ⟨hj6.mono (by omega), kp6⟩ (sz (Nat.le_of_ble_eq_true rfl)) fun ys T7 ly hy h7 => ?_
  · have tx : Tx1 x := by
      simp only [List.mem_append, List.mem_cons, List.not_mem_nil, or_false] at hx
      rcases hx with (h | h | h | h | h | h | h | h | h) | (h | h | h | h | h | h | h | h | h)
      all_goals (subst h; first
        | exact (L _ (by decide) (by decide)).tx (by decide)
        | exact ((hz.app (L _ (by decide) (by decide))).app hz).tx (by decide)
        | exact ((L _ (by decide) (by decide)).app hz).tx (by decide)
        | exact (hz.app (L _ (by decide) (by decide))).tx (by decide))
    obtain ⟨s', rfl, ls, as⟩ := tx.h
    exact u_text_right ls as (h.2.tb hj tb) (k _ _ rfl h e)
  obtain ⟨hj7, kp7⟩ := h7
  refine q_allT hy (IfP.f rfl ?_)
  refine ⟨sz (Nat.le_of_ble_eq_true rfl), sz (Nat.le_of_ble_eq_true rfl), sz (Nat.le_of_ble_eq_true rfl), ?_⟩
  refine u_of hj7 (by omega) (fun z => (nomatch z)) (Nat.le_of_ble_eq_true rfl) fun d T8 hd8 hj8 a8 => ?_
  have kp8 := kp7.ag a8
  obtain ⟨kd, rt, hk, he, hne, hr, hdp⟩ := odd_ok (T := T8) o.toAdW t ql aq hd8
  refine ⟨(kp8.tb hj tb).b, fun f c vs => ⟨rfl, u_Wof_n hk he hne (cond_ok o ?_)⟩⟩
  refine q_isE o.toAdB o.e1 (IfP.f rfl ?_)
  refine q_val o.e1 ?_
  refine q_repr hr hdp ?_
  refine q_repr hr hdp ?_
  refine q_neT (IfP.f (by simp) ?_)
  exact hnx _ _ ⟨hj8.mono (by omega), kp8, _, _, _, _, _, _, _, _, _, _, rfl⟩
theorem u_l_fine {j : Addr} (hj : JOk 0 T j) (tb : Tb ad T) (hq : ∀ T', Kp j T T' → Q (.bl true) T') : sp_l_fine ad [.ref j] T Q E := ⟨j, rfl, hj, tb, hq⟩
theorem u_l_jar {zs : List Int} {k : Nat} (hk : k ≤ 100) (hz : ∀ z ∈ zs, Builtin.Int.intBits z ≤ 1048576) (hq : ∀ j T', T j = none → JOk 0 T' j → Ag j T T' → Q (.ref j) T') : sp_l_jar ad [.lst (zs.map D.int), .int k] T Q E := ⟨zs, k, rfl, hk, hz, hq⟩
theorem h_law (h : sp_law ad ds T Q E) : d_law ad (endsD Q E) (startD N_law ds) T := by
  obtain ⟨zs, rfl, hz, hl, tb, hq⟩ := h.h
  refine lcc_inv (fun y => y = .bl true) (fun _ T' => Tb ad T') (rangeD 0 (max (1 : Int) (min ((zs.map D.int).length : Int) 3)).toNat) (fun R E h => ?_) (fun m T' P ob hP h => h.put hP tb) (fun m T' P hP h => h.del hP tb) 0
    (fun x hx P m T' l Q hP hm h e k => ?_) tb (sz (by rw [rng_len]; omega)) fun ys T' ly hy hT => q_allT hy (hq _)
  · refine q_lenL ?_
    refine q_min ?_
    refine q_max ?_
    exact ⟨by omega, by omega, h⟩
  · unfold rangeD at hx
    obtain ⟨i, hi, rfl⟩ := List.mem_map.1 hx
    rw [List.mem_range] at hi
    have e0 : (0 : Int) + (i : Int) = ((i : Nat) : Int) := by omega
    rw [e0]
    refine u_l_jar (k := i) (by omega) hz fun j T'' hj hj0 ag => ?_
    have tb' : Tb ad T'' := ⟨by rw [ag _ fun z => by rw [← z, h.a] at hj; cases hj]; exact h.a, by rw [ag _ fun z => by rw [← z, h.b] at hj; cases hj]; exact h.b⟩
    have jP : P ≠ j := fun z => by rw [← z, e] at hj; cases hj
    exact u_l_fine hj0 tb' fun T3 kp => k _ _ rfl (kp.tb hj0 tb') (kp P _ jP (by rw [ag P jP]; exact e))
end K1
namespace K1
open PySem PySem.Spec PyProof.Rows L2 VX DL RQ TL
/-- what is known of the text behind the top -/
structure Tx (P : Program) (w : World) (K : PySem.W.Frag) (mg : Str → Option Value) (base : Heap) (ad : Ad) : Prop where
  hS : ∀ C, inS ad C = true → SlX.SCls K C ∧ SlX.SIsi K C
  hE : ∀ C, inE ad C = true → ExC K C
  hO : ∀ C, inO ad C = true → OCls K C
  hI : ∀ t u b, ad.inst t u = some b → PySem.W.kitOne K t u = some b
  n_isinstance : mg "isinstance" = none
  n_int : mg "int" = none
  n_bool : mg "bool" = none
  n_all : mg "all" = none
  gc_DIGITS : ∃ t, mg "DIGITS" = some (.str "0123456789" t)
  sc_BadWorth : SlC K ad.SlipError ad.BadWorth
  ic_BadWorth : PySem.W.findIn K (.ref ad.BadWorth) "__init__" = some (some (.ref ad.slip))
  tI : PySem.W.typeIn K (.ref ad.slip) = some (.type "function")
  slip : FnOk P w K mg base (L2.CX P w) 1 ad.slip ad.fdS ["self", "value"] (slSp K ad.SlipError)
  slipB : L2.Binds K ad.fdS ["self", "value"] []
  m_BadWorth : mg "BadWorth" = some (.ref ad.BadWorth)
  n_abs : mg "abs" = none
  cl_Worth : SlX.SCls K ad.Worth
  sl_above : SlX.Slot1 K ad.Worth "above" ad.p_above 0
  sl_below : SlX.Slot1 K ad.Worth "below" ad.p_below 1
  n_str : mg "str" = none
  n_len : mg "len" = none
  gc_MOST_SIGNS : ∃ t, mg "MOST_SIGNS" = some (.int 900 t)
  sc_BadText : SlC K ad.SlipError ad.BadText
  ic_BadText : PySem.W.findIn K (.ref ad.BadText) "__init__" = some (some (.ref ad.slip))
  m_BadText : mg "BadText" = some (.ref ad.BadText)
  mk_Worth : Mk K ad.Worth ad.m_Winit
  m_Worth : mg "Worth" = some (.ref ad.Worth)
  k_Worth : PySem.W.keepIn K (.ref ad.Worth) = true
  pr_Wtext : PrS K ad.Worth "text" ad.p_Wtext ad.m_Wtext
  m_SlipError : mg "SlipError" = some (.ref ad.SlipError)
  hx_SlipError : ∀ v b, ad.exm ad.SlipError v = some b → PySem.W.exmOne K v (.ref ad.SlipError) = some b
  m_l_caught : mg "_law_caught" = some (.ref ad.m_l_caught)
  k_l_caught : PySem.W.keepIn K (.ref ad.m_l_caught) = true
  st_Wof : StM K ad.Worth "of" ad.p_Wof ad.m_Wof
  n_repr : mg "repr" = none
  hV : ∀ C, inE ad C = true → ExC K C ∧ PySem.W.findIn K (.ref C) "value" = some none
  ow_Worth : OwnC K ad.Worth
  e_Weq : PySem.W.findIn K (.ref ad.Worth) "__eq__" = some (some (.ref ad.m_Weq))
  e_Weqf : PySem.W.isFn K (.ref ad.m_Weq) = true
  n_range : mg "range" = none
  n_max : mg "max" = none
  n_min : mg "min" = none
end K1
namespace K1
open PySem PySem.Spec PyProof.Rows L2 VX DL RQ TL
abbrev top (i : Nat) : Stmt := PySem.Challenge.pw_sharedslip_k04_texts_of_worths.main.body.getD i (.Pass ⟨0, 0, 0, 0⟩)
abbrev s_is_integer : Stmt := top 8
abbrev s_common_divisor : Stmt := top 9
abbrev s_is_figures : Stmt := top 10
abbrev s_Winit : Stmt := inClass (top 11) 1
abbrev s_Wnumber : Stmt := inClass (top 11) 2
abbrev s_Wunder : Stmt := inClass (top 11) 3
abbrev s_Wtext : Stmt := inClass (top 11) 4
abbrev s_Wof : Stmt := inClass (top 11) 5
abbrev s_Wrepr : Stmt := inClass (top 11) 6
abbrev s_Weq : Stmt := inClass (top 11) 7
abbrev s_l_jar : Stmt := top 20
abbrev s_l_take : Stmt := top 21
abbrev s_l_of : Stmt := top 22
abbrev s_l_frac : Stmt := top 23
abbrev s_l_whole : Stmt := top 25
abbrev s_l_worth_text : Stmt := top 24
abbrev s_l_caught : Stmt := top 26
abbrev s_l_pair_in : Stmt := top 27
abbrev s_l_is_long : Stmt := top 28
abbrev s_l_text_right : Stmt := top 29
abbrev s_l_bent : Stmt := top 30
abbrev s_l_repr_due : Stmt := top 31
abbrev s_l_fine : Stmt := top 32
abbrev s_law : Stmt := top 33
theorem S_is_integer : FnScope N_is_integer ["value"] (defScope s_is_integer) := ⟨rfl, rfl, rfl, by decide +kernel, rfl, by decide +kernel, by decide +kernel⟩
theorem w_is_integer {P : Program} {w : World} {K : PySem.W.Frag} {mg : Str → Option Value} {base : Heap} {ad : Ad} (t : Tx P w K mg base ad) {f : Addr} {cdv : Value} {A : Around} {outer : List Env} {s : Shared} {H : Hp} {E : XK} (b : Bd 4 (cxOf (L2.CX P w) P w K mg base N_is_integer "is_integer" (defScope s_is_integer) f cdv A outer s H E) (WE0 E)) :
    DSs (cxOf (L2.CX P w) P w K mg base N_is_integer "is_integer" (defScope s_is_integer) f cdv A outer s H E) (WE0 E) (defBody s_is_integer) (d_is_integer ad) := by
  have nd : N_is_integer.Nodup := S_is_integer.nd
  have hp : PassesOwn (model P w) (cxOf (L2.CX P w) P w K mg base N_is_integer "is_integer" (defScope s_is_integer) f cdv A outer s H E).A (cxOf (L2.CX P w) P w K mg base N_is_integer "is_integer" (defScope s_is_integer) f cdv A outer s H E).env (cxOf (L2.CX P w) P w K mg base N_is_integer "is_integer" (defScope s_is_integer) f cdv A outer s H E).xe := L2.passes_of rfl
  exact (dss_one (ds_ret (de_and (de_callB (cd_isi t.hS t.hE t.hO t.hI) rfl t.n_isinstance rfl (da_cons (dv 0) (da_cons (de_bty rfl t.n_int rfl) da_nil))) (de_one (de_not (de_callB (cd_isi t.hS t.hE t.hO t.hI) rfl t.n_isinstance rfl (da_cons (dv 0) (da_cons (de_bty rfl t.n_bool rfl) da_nil))))))))
theorem S_common_divisor : FnScope N_common_divisor ["one", "other"] (defScope s_common_divisor) := ⟨rfl, rfl, rfl, by decide +kernel, rfl, by decide +kernel, by decide +kernel⟩
theorem w_common_divisor {P : Program} {w : World} {K : PySem.W.Frag} {mg : Str → Option Value} {base : Heap} {ad : Ad} (t : Tx P w K mg base ad) {f : Addr} {cdv : Value} {A : Around} {outer : List Env} {s : Shared} {H : Hp} {E : XK} (b : Bd 4 (cxOf (L2.CX P w) P w K mg base N_common_divisor "common_divisor" (defScope s_common_divisor) f cdv A outer s H E) (WE0 E)) :
    DSs (cxOf (L2.CX P w) P w K mg base N_common_divisor "common_divisor" (defScope s_common_divisor) f cdv A outer s H E) (WE0 E) (defBody s_common_divisor) (d_common_divisor ad) := by
  have nd : N_common_divisor.Nodup := S_common_divisor.nd
  have hp : PassesOwn (model P w) (cxOf (L2.CX P w) P w K mg base N_common_divisor "common_divisor" (defScope s_common_divisor) f cdv A outer s H E).A (cxOf (L2.CX P w) P w K mg base N_common_divisor "common_divisor" (defScope s_common_divisor) f cdv A outer s H E).env (cxOf (L2.CX P w) P w K mg base N_common_divisor "common_divisor" (defScope s_common_divisor) f cdv A outer s H E).xe := L2.passes_of rfl
  exact (dss_cons (ds_cut (ds_while hp (dt_cmp od_gtI (dv 1) de_int (nomark _)) (dss_one (ds_par (i := 0) (j := 1) rfl nd rfl rfl (by decide) rfl rfl (da_cons (dv 1) (da_cons (de_op od_mod (dv 0) (dv 1)) da_nil)) (by rfl)))))
    (dss_one (ds_ret (dv 0))))
theorem S_is_figures : FnScope N_is_figures ["text"] (defScope s_is_figures) := ⟨rfl, rfl, rfl, by decide +kernel, rfl, by decide +kernel, by decide +kernel⟩
theorem w_is_figures {P : Program} {w : World} {K : PySem.W.Frag} {mg : Str → Option Value} {base : Heap} {ad : Ad} (t : Tx P w K mg base ad) {f : Addr} {cdv : Value} {A : Around} {outer : List Env} {s : Shared} {H : Hp} {E : XK} (b : Bd 4 (cxOf (L2.CX P w) P w K mg base N_is_figures "is_figures" (defScope s_is_figures) f cdv A outer s H E) (WE0 E)) :
    DSs (cxOf (L2.CX P w) P w K mg base N_is_figures "is_figures" (defScope s_is_figures) f cdv A outer s H E) (WE0 E) (defBody s_is_figures) (d_is_figures ad) := by
  have nd : N_is_figures.Nodup := S_is_figures.nd
  have hp : PassesOwn (model P w) (cxOf (L2.CX P w) P w K mg base N_is_figures "is_figures" (defScope s_is_figures) f cdv A outer s H E).A (cxOf (L2.CX P w) P w K mg base N_is_figures "is_figures" (defScope s_is_figures) f cdv A outer s H E).env (cxOf (L2.CX P w) P w K mg base N_is_figures "is_figures" (defScope s_is_figures) f cdv A outer s H E).xe := L2.passes_of rfl
  exact (dss_one (ds_ret (de_and (de_cmp od_neS (dv 0) de_str (nomark _)) (de_one (de_callB (cd_all rfl) rfl t.n_all rfl (da_cons (de_cut (de_lc (own := [("sign", 1)]) rfl nd (di_str (dv 0)) (blkOk_by (N := N_is_figures) (sc := defScope s_is_figures) (by decide +kernel)) (fun s H C cl fp => (dgw_name rfl nd (by first | exact Or.inl rfl | exact Or.inr rfl) (by decide))) (fun s H C cl fp => dts_nil) (fun s H C cl fp => (de_cmp od_sign (dv 1) (de_globS rfl t.gc_DIGITS) rfl)))) da_nil))))))
theorem S_Winit : FnScope N_Winit ["self", "number", "under"] (defScope s_Winit) := ⟨rfl, rfl, rfl, by decide +kernel, rfl, by decide +kernel, by decide +kernel⟩
theorem w_Winit {P : Program} {w : World} {K : PySem.W.Frag} {mg : Str → Option Value} {base : Heap} {ad : Ad} (t : Tx P w K mg base ad) (g_is_integer : GF P w K mg base "is_integer" 5 (sp_is_integer ad)) (g_common_divisor : GF P w K mg base "common_divisor" 5 (sp_common_divisor ad)) {f : Addr} {cdv : Value} {A : Around} {outer : List Env} {s : Shared} {H : Hp} {E : XK} (b : Bd 9 (cxOf (L2.CX P w) P w K mg base N_Winit "Worth.__init__" (defScope s_Winit) f cdv A outer s H E) (WE0 E)) :
    DSs (cxOf (L2.CX P w) P w K mg base N_Winit "Worth.__init__" (defScope s_Winit) f cdv A outer s H E) (WE0 E) (defBody s_Winit) (d_Winit ad) := by
  have nd : N_Winit.Nodup := S_Winit.nd
  have hp : PassesOwn (model P w) (cxOf (L2.CX P w) P w K mg base N_Winit "Worth.__init__" (defScope s_Winit) f cdv A outer s H E).A (cxOf (L2.CX P w) P w K mg base N_Winit "Worth.__init__" (defScope s_Winit) f cdv A outer s H E).env (cxOf (L2.CX P w) P w K mg base N_Winit "Worth.__init__" (defScope s_Winit) f cdv A outer s H E).xe := L2.passes_of rfl
  exact (dss_cons (ds_if (DWh.dt (dw_or (dt_not (dt_val (de_call b g_is_integer (by decide) rfl (da_cons (dv 1) da_nil)))) (dw_or (dt_not (dt_val (de_call b g_is_integer (by decide) rfl (da_cons (dv 2) da_nil)))) (dw_or1 (dt_cmp od_eqS (dv 2) de_int (nomark _)))))) (dss_one (ds_raise1 rfl b.tk t.sc_BadWorth t.ic_BadWorth t.tI t.slip (b.hr.mono (by decide)) t.slipB rfl t.m_BadWorth (de_tup (da_cons (dv 1) (da_cons (dv 2) da_nil))))) dss_nil)
    (dss_cons (ds_set (i := 3) nd rfl (by first | exact Or.inl rfl | exact Or.inr rfl) (de_call b g_common_divisor (by decide) rfl (da_cons (de_callB cd_abs rfl t.n_abs rfl (da_cons (dv 1) da_nil)) (da_cons (de_callB cd_abs rfl t.n_abs rfl (da_cons (dv 2) da_nil)) da_nil))))
    (dss_cons (ds_if (dt_cmp od_ltI (dv 2) de_int (nomark _)) (dss_one (ds_set (i := 3) nd rfl (by first | exact Or.inl rfl | exact Or.inr rfl) (de_un ud_negI (dv 3)))) dss_nil)
    (dss_cons (ds_slot t.cl_Worth t.sl_above (dv 0) (de_op od_fdiv (dv 1) (dv 3)))
    (dss_one (ds_slot t.cl_Worth t.sl_below (dv 0) (de_op od_fdiv (dv 2) (dv 3))))))))
theorem S_Wnumber : FnScope N_Wnumber ["self"] (defScope s_Wnumber) := ⟨rfl, rfl, rfl, by decide +kernel, rfl, by decide +kernel, by decide +kernel⟩
theorem w_Wnumber {P : Program} {w : World} {K : PySem.W.Frag} {mg : Str → Option Value} {base : Heap} {ad : Ad} (t : Tx P w K mg base ad) {f : Addr} {cdv : Value} {A : Around} {outer : List Env} {s : Shared} {H : Hp} {E : XK} (b : Bd 4 (cxOf (L2.CX P w) P w K mg base N_Wnumber "Worth.number" (defScope s_Wnumber) f cdv A outer s H E) (WE0 E)) :
    DSs (cxOf (L2.CX P w) P w K mg base N_Wnumber "Worth.number" (defScope s_Wnumber) f cdv A outer s H E) (WE0 E) (defBody s_Wnumber) (d_Wnumber ad) := by
  have nd : N_Wnumber.Nodup := S_Wnumber.nd
  have hp : PassesOwn (model P w) (cxOf (L2.CX P w) P w K mg base N_Wnumber "Worth.number" (defScope s_Wnumber) f cdv A outer s H E).A (cxOf (L2.CX P w) P w K mg base N_Wnumber "Worth.number" (defScope s_Wnumber) f cdv A outer s H E).env (cxOf (L2.CX P w) P w K mg base N_Wnumber "Worth.number" (defScope s_Wnumber) f cdv A outer s H E).xe := L2.passes_of rfl
  exact (dss_one (ds_ret (de_attr (ad_slot t.cl_Worth t.sl_above) (dv 0))))
theorem S_Wunder : FnScope N_Wunder ["self"] (defScope s_Wunder) := ⟨rfl, rfl, rfl, by decide +kernel, rfl, by decide +kernel, by decide +kernel⟩
theorem w_Wunder {P : Program} {w : World} {K : PySem.W.Frag} {mg : Str → Option Value} {base : Heap} {ad : Ad} (t : Tx P w K mg base ad) {f : Addr} {cdv : Value} {A : Around} {outer : List Env} {s : Shared} {H : Hp} {E : XK} (b : Bd 4 (cxOf (L2.CX P w) P w K mg base N_Wunder "Worth.under" (defScope s_Wunder) f cdv A outer s H E) (WE0 E)) :
    DSs (cxOf (L2.CX P w) P w K mg base N_Wunder "Worth.under" (defScope s_Wunder) f cdv A outer s H E) (WE0 E) (defBody s_Wunder) (d_Wunder ad) := by
  have nd : N_Wunder.Nodup := S_Wunder.nd
  have hp : PassesOwn (model P w) (cxOf (L2.CX P w) P w K mg base N_Wunder "Worth.under" (defScope s_Wunder) f cdv A outer s H E).A (cxOf (L2.CX P w) P w K mg base N_Wunder "Worth.under" (defScope s_Wunder) f cdv A outer s H E).env (cxOf (L2.CX P w) P w K mg base N_Wunder "Worth.under" (defScope s_Wunder) f cdv A outer s H E).xe := L2.passes_of rfl
  exact (dss_one (ds_ret (de_attr (ad_slot t.cl_Worth t.sl_below) (dv 0))))
theorem S_Wtext : FnScope N_Wtext ["self"] (defScope s_Wtext) := ⟨rfl, rfl, rfl, by decide +kernel, rfl, by decide +kernel, by decide +kernel⟩
theorem w_Wtext {P : Program} {w : World} {K : PySem.W.Frag} {mg : Str → Option Value} {base : Heap} {ad : Ad} (t : Tx P w K mg base ad) {f : Addr} {cdv : Value} {A : Around} {outer : List Env} {s : Shared} {H : Hp} {E : XK} (b : Bd 4 (cxOf (L2.CX P w) P w K mg base N_Wtext "Worth.text" (defScope s_Wtext) f cdv A outer s H E) (WE0 E)) :
    DSs (cxOf (L2.CX P w) P w K mg base N_Wtext "Worth.text" (defScope s_Wtext) f cdv A outer s H E) (WE0 E) (defBody s_Wtext) (d_Wtext ad) := by
  have nd : N_Wtext.Nodup := S_Wtext.nd
  have hp : PassesOwn (model P w) (cxOf (L2.CX P w) P w K mg base N_Wtext "Worth.text" (defScope s_Wtext) f cdv A outer s H E).A (cxOf (L2.CX P w) P w K mg base N_Wtext "Worth.text" (defScope s_Wtext) f cdv A outer s H E).env (cxOf (L2.CX P w) P w K mg base N_Wtext "Worth.text" (defScope s_Wtext) f cdv A outer s H E).xe := L2.passes_of rfl
  exact (dss_one (ds_ret (de_ifExp (dt_cmp od_eqS (de_attr (ad_slot t.cl_Worth t.sl_below) (dv 0)) de_int (nomark _)) (de_callTy cd_str rfl t.n_str rfl (da_cons (de_attr (ad_slot t.cl_Worth t.sl_above) (dv 0)) da_nil)) (de_joined (DJ.cons (de_fmt (de_attr (ad_slot t.cl_Worth t.sl_above) (dv 0))) (DJ.cons de_str (DJ.cons (de_fmt (de_attr (ad_slot t.cl_Worth t.sl_below) (dv 0))) DJ.nil)))))))
theorem S_Wof : FnScope N_Wof ["text"] (defScope s_Wof) := ⟨rfl, rfl, rfl, by decide +kernel, rfl, by decide +kernel, by decide +kernel⟩
theorem w_Wof {P : Program} {w : World} {K : PySem.W.Frag} {mg : Str → Option Value} {base : Heap} {ad : Ad} (t : Tx P w K mg base ad) (g_is_figures : GF P w K mg base "is_figures" 5 (sp_is_figures ad)) (f_Winit2 : GR P w K mg base ad.m_Winit 10 (sp_Winit ad)) (f_Wtext : GR P w K mg base ad.m_Wtext 5 (sp_Wtext ad)) {f : Addr} {cdv : Value} {A : Around} {outer : List Env} {s : Shared} {H : Hp} {E : XK} (b : Bd 14 (cxOf (L2.CX P w) P w K mg base N_Wof "Worth.of" (defScope s_Wof) f cdv A outer s H E) (WE0 E)) :
    DSs (cxOf (L2.CX P w) P w K mg base N_Wof "Worth.of" (defScope s_Wof) f cdv A outer s H E) (WE0 E) (defBody s_Wof) (d_Wof ad) := by
  have nd : N_Wof.Nodup := S_Wof.nd
  have hp : PassesOwn (model P w) (cxOf (L2.CX P w) P w K mg base N_Wof "Worth.of" (defScope s_Wof) f cdv A outer s H E).A (cxOf (L2.CX P w) P w K mg base N_Wof "Worth.of" (defScope s_Wof) f cdv A outer s H E).env (cxOf (L2.CX P w) P w K mg base N_Wof "Worth.of" (defScope s_Wof) f cdv A outer s H E).xe := L2.passes_of rfl
  exact (dss_cons (ds_if (DWh.dt (dw_or (dt_not (dt_val (de_callB (cd_isi t.hS t.hE t.hO t.hI) rfl t.n_isinstance rfl (da_cons (dv 0) (da_cons (de_bty rfl t.n_str rfl) da_nil))))) (dw_or1 (dt_cmp od_gtI (de_callB cd_lenU rfl t.n_len rfl (da_cons (dv 0) da_nil)) (de_globI rfl t.gc_MOST_SIGNS) (nomark _))))) (dss_one (ds_raise1 rfl b.tk t.sc_BadText t.ic_BadText t.tI t.slip (b.hr.mono (by decide)) t.slipB rfl t.m_BadText (dv 0))) dss_nil)
    (dss_cons (ds_asg (de_split (de_cut (de_ifExp (dt_cmp od_eqS (de_slice (dv 0) dp_none (dp_some de_int)) de_str (nomark _)) (de_slice (dv 0) (dp_some de_int) dp_none) (dv 0))) de_str) (dg_star rfl (dgs_cons (dg_name (i := 1) nd rfl (by first | exact Or.inl rfl | exact Or.inr rfl)) (dgs_cons (dg_name (i := 2) nd rfl (by first | exact Or.inl rfl | exact Or.inr rfl)) dgs_nil))))
    (dss_cons (ds_if (DWh.dt (dw_or (dt_cmp od_gtI (de_callB cd_lenU rfl t.n_len rfl (da_cons (dv 2) da_nil)) de_int (nomark _)) (dw_or1 (dt_not (dt_val (de_callB (cd_all rfl) rfl t.n_all rfl (da_cons (de_cut (de_lc (own := [("part", 3)]) rfl nd (di_list (de_lst (da_cons (dv 1) (da_star (dv 2) da_nil)))) (blkOk_by (N := N_Wof) (sc := defScope s_Wof) (by decide +kernel)) (fun s H C cl fp => (dgw_name rfl nd (by first | exact Or.inl rfl | exact Or.inr rfl) (by decide))) (fun s H C cl fp => dts_nil) (fun s H C cl fp => (de_call (b.blk s H _ _ fp) g_is_figures (by decide) rfl (da_cons (dv 3) da_nil))))) da_nil))))))) (dss_one (ds_raise1 rfl b.tk t.sc_BadText t.ic_BadText t.tI t.slip (b.hr.mono (by decide)) t.slipB rfl t.m_BadText (dv 0))) dss_nil)
    (dss_cons (ds_set (i := 4) nd rfl (by first | exact Or.inl rfl | exact Or.inr rfl) (de_cut (de_ifExp (dt_cmp (od_neN b) (dv 2) (de_lst da_nil) (nomark _)) (de_callTy cd_intS rfl t.n_int rfl (da_cons (de_ix ixd_seq (dv 2) de_int) da_nil)) de_int)))
    (dss_cons (ds_if (dt_cmp od_eqS (dv 4) de_int (nomark _)) (dss_one (ds_raise1 rfl b.tk t.sc_BadText t.ic_BadText t.tI t.slip (b.hr.mono (by decide)) t.slipB rfl t.m_BadText (dv 0))) dss_nil)
    (dss_cons (ds_set (i := 5) nd rfl (by first | exact Or.inl rfl | exact Or.inr rfl) (de_callM (cd_make (b.le (by decide : 11 ≤ 14)) t.mk_Worth f_Winit2) rfl t.m_Worth t.k_Worth (da_cons (de_cut (de_ifExp (dt_cmp od_eqS (de_slice (dv 0) dp_none (dp_some de_int)) de_str (nomark _)) (de_un ud_negI (de_callTy cd_intS rfl t.n_int rfl (da_cons (dv 1) da_nil))) (de_callTy cd_intS rfl t.n_int rfl (da_cons (dv 1) da_nil)))) (da_cons (dv 4) da_nil))))
    (dss_cons (ds_if (dt_cmp od_neS (de_attr (ad_prop (b.le (by decide)) t.cl_Worth t.pr_Wtext f_Wtext) (dv 5)) (dv 0) (nomark _)) (dss_one (ds_raise1 rfl b.tk t.sc_BadText t.ic_BadText t.tI t.slip (b.hr.mono (by decide)) t.slipB rfl t.m_BadText (dv 0))) dss_nil)
    (dss_one (ds_ret (dv 5))))))))))
theorem S_Wrepr : FnScope N_Wrepr ["self"] (defScope s_Wrepr) := ⟨rfl, rfl, rfl, by decide +kernel, rfl, by decide +kernel, by decide +kernel⟩
theorem w_Wrepr {P : Program} {w : World} {K : PySem.W.Frag} {mg : Str → Option Value} {base : Heap} {ad : Ad} (t : Tx P w K mg base ad) {f : Addr} {cdv : Value} {A : Around} {outer : List Env} {s : Shared} {H : Hp} {E : XK} :
    DSs (cxOf (L2.CX P w) P w K mg base N_Wrepr "Worth.__repr__" (defScope s_Wrepr) f cdv A outer s H E) (WE0 E) (defBody s_Wrepr) (d_Wrepr ad) := by
  have nd : N_Wrepr.Nodup := S_Wrepr.nd
  have hp : PassesOwn (model P w) (cxOf (L2.CX P w) P w K mg base N_Wrepr "Worth.__repr__" (defScope s_Wrepr) f cdv A outer s H E).A (cxOf (L2.CX P w) P w K mg base N_Wrepr "Worth.__repr__" (defScope s_Wrepr) f cdv A outer s H E).env (cxOf (L2.CX P w) P w K mg base N_Wrepr "Worth.__repr__" (defScope s_Wrepr) f cdv A outer s H E).xe := L2.passes_of rfl
  exact (dss_cons (ds_if (dt_cmp od_eqS (de_attr (ad_slot t.cl_Worth t.sl_below) (dv 0)) de_int (nomark _)) (dss_one (ds_ret (de_joined (DJ.cons de_str (DJ.cons (de_fmt (de_attr (ad_slot t.cl_Worth t.sl_above) (dv 0))) (DJ.cons de_str DJ.nil)))))) dss_nil)
    (dss_one (ds_ret (de_joined (DJ.cons de_str (DJ.cons (de_fmt (de_attr (ad_slot t.cl_Worth t.sl_above) (dv 0))) (DJ.cons de_str (DJ.cons (de_fmt (de_attr (ad_slot t.cl_Worth t.sl_below) (dv 0))) (DJ.cons de_str DJ.nil)))))))))
theorem S_Weq : FnScope N_Weq ["self", "other"] (defScope s_Weq) := ⟨rfl, rfl, rfl, by decide +kernel, rfl, by decide +kernel, by decide +kernel⟩
theorem w_Weq {P : Program} {w : World} {K : PySem.W.Frag} {mg : Str → Option Value} {base : Heap} {ad : Ad} (t : Tx P w K mg base ad) {f : Addr} {cdv : Value} {A : Around} {outer : List Env} {s : Shared} {H : Hp} {E : XK} (b : Bd 4 (cxOf (L2.CX P w) P w K mg base N_Weq "Worth.__eq__" (defScope s_Weq) f cdv A outer s H E) (WE0 E)) :
    DSs (cxOf (L2.CX P w) P w K mg base N_Weq "Worth.__eq__" (defScope s_Weq) f cdv A outer s H E) (WE0 E) (defBody s_Weq) (d_Weq ad) := by
  have nd : N_Weq.Nodup := S_Weq.nd
  have hp : PassesOwn (model P w) (cxOf (L2.CX P w) P w K mg base N_Weq "Worth.__eq__" (defScope s_Weq) f cdv A outer s H E).A (cxOf (L2.CX P w) P w K mg base N_Weq "Worth.__eq__" (defScope s_Weq) f cdv A outer s H E).env (cxOf (L2.CX P w) P w K mg base N_Weq "Worth.__eq__" (defScope s_Weq) f cdv A outer s H E).xe := L2.passes_of rfl
  exact (dss_one (ds_ret (de_and (de_callB (cd_isi t.hS t.hE t.hO t.hI) rfl t.n_isinstance rfl (da_cons (dv 1) (da_cons (de_glob rfl t.m_Worth) da_nil))) (de_and (de_cmp od_eqS (de_attr (ad_slot t.cl_Worth t.sl_above) (dv 0)) (de_attr (ad_slot t.cl_Worth t.sl_above) (dv 1)) (nomark _)) (de_one (de_cmp od_eqS (de_attr (ad_slot t.cl_Worth t.sl_below) (dv 0)) (de_attr (ad_slot t.cl_Worth t.sl_below) (dv 1)) (nomark _)))))))
theorem S_l_jar : FnScope N_l_jar ["_law_script", "_law_k"] (defScope s_l_jar) := ⟨rfl, rfl, rfl, by decide +kernel, rfl, by decide +kernel, by decide +kernel⟩
theorem w_l_jar {P : Program} {w : World} {K : PySem.W.Frag} {mg : Str → Option Value} {base : Heap} {ad : Ad} (t : Tx P w K mg base ad) {f : Addr} {cdv : Value} {A : Around} {outer : List Env} {s : Shared} {H : Hp} {E : XK} (b : Bd 4 (cxOf (L2.CX P w) P w K mg base N_l_jar "_law_jar" (defScope s_l_jar) f cdv A outer s H E) (WE0 E)) :
    DSs (cxOf (L2.CX P w) P w K mg base N_l_jar "_law_jar" (defScope s_l_jar) f cdv A outer s H E) (WE0 E) (defBody s_l_jar) (d_l_jar ad) := by
  have nd : N_l_jar.Nodup := S_l_jar.nd
  have hp : PassesOwn (model P w) (cxOf (L2.CX P w) P w K mg base N_l_jar "_law_jar" (defScope s_l_jar) f cdv A outer s H E).A (cxOf (L2.CX P w) P w K mg base N_l_jar "_law_jar" (defScope s_l_jar) f cdv A outer s H E).env (cxOf (L2.CX P w) P w K mg base N_l_jar "_law_jar" (defScope s_l_jar) f cdv A outer s H E).xe := L2.passes_of rfl
  exact (dss_cons (ds_set (i := 2) nd rfl (by first | exact Or.inl rfl | exact Or.inr rfl) (de_cut (de_ifExp (dt_cmp od_ltI (dv 1) (de_callB cd_lenU rfl t.n_len rfl (da_cons (dv 0) da_nil)) (nomark _)) (de_ix ixd_seq (dv 0) (dv 1)) (de_op od_addI (de_op od_mul de_int (dv 1)) de_int))))
    (dss_cons (ds_set (i := 3) nd rfl (by first | exact Or.inl rfl | exact Or.inr rfl) (de_op od_mul (de_op od_mod (de_callTy cd_intS rfl t.n_int rfl (da_cons (de_callB cd_abs rfl t.n_abs rfl (da_cons (dv 2) da_nil)) da_nil)) (de_op od_pow (de_op od_pow de_int de_int) de_int)) (de_callTy cd_intS rfl t.n_int rfl (da_cons (de_cmp od_geI (de_callB cd_abs rfl t.n_abs rfl (da_cons (dv 2) da_nil)) (de_op od_pow de_int de_int) (nomark _)) da_nil))))
    (dss_cons (ds_set (i := 4) nd rfl (by first | exact Or.inl rfl | exact Or.inr rfl) (de_op od_addI (de_op od_addI (de_op od_mul (de_op od_mod (de_callTy cd_intS rfl t.n_int rfl (da_cons (dv 2) da_nil)) de_int) de_int) (de_op od_mul (de_op od_mul de_int (dv 1)) (dv 1))) de_int))
    (dss_one (ds_ret (de_lstM (da_cons (dv 3) (da_cons (de_op od_mod (de_callTy cd_intS rfl t.n_int rfl (da_cons (dv 4) da_nil)) de_int) (da_cons de_int da_nil)))))))))
theorem S_l_take : FnScope N_l_take ["_law_jar_here", "_law_many"] (defScope s_l_take) := ⟨rfl, rfl, rfl, by decide +kernel, rfl, by decide +kernel, by decide +kernel⟩
theorem w_l_take {P : Program} {w : World} {K : PySem.W.Frag} {mg : Str → Option Value} {base : Heap} {ad : Ad} (t : Tx P w K mg base ad) {f : Addr} {cdv : Value} {A : Around} {outer : List Env} {s : Shared} {H : Hp} {E : XK} (b : Bd 4 (cxOf (L2.CX P w) P w K mg base N_l_take "_law_take" (defScope s_l_take) f cdv A outer s H E) (WE0 E)) :
    DSs (cxOf (L2.CX P w) P w K mg base N_l_take "_law_take" (defScope s_l_take) f cdv A outer s H E) (WE0 E) (defBody s_l_take) (d_l_take ad) := by
  have nd : N_l_take.Nodup := S_l_take.nd
  have hp : PassesOwn (model P w) (cxOf (L2.CX P w) P w K mg base N_l_take "_law_take" (defScope s_l_take) f cdv A outer s H E).A (cxOf (L2.CX P w) P w K mg base N_l_take "_law_take" (defScope s_l_take) f cdv A outer s H E).env (cxOf (L2.CX P w) P w K mg base N_l_take "_law_take" (defScope s_l_take) f cdv A outer s H E).xe := L2.passes_of rfl
  exact (dss_cons (ds_if (dt_cmp od_gtI (de_ix ixd_seq (dv 0) de_int) de_int (nomark _)) (dss_cons (ds_set (i := 2) nd rfl (by first | exact Or.inl rfl | exact Or.inr rfl) (de_op od_mod (de_callTy cd_intS rfl t.n_int rfl (da_cons (de_ix ixd_seq (dv 0) de_int) da_nil)) (dv 1)))
    (dss_cons (ds_setIx (dv 0) de_int (de_op od_fdiv (de_ix ixd_seq (dv 0) de_int) (dv 1)))
    (dss_one (ds_ret (dv 2))))) dss_nil)
    (dss_cons (ds_setIx (dv 0) de_int (de_op od_addI (de_ix ixd_seq (dv 0) de_int) de_int))
    (dss_cons (ds_set (i := 3) nd rfl (by first | exact Or.inl rfl | exact Or.inr rfl) (de_op od_mod (de_callTy cd_intS rfl t.n_int rfl (da_cons (de_op od_mul (de_op od_addI (de_op od_addI (de_ix ixd_seq (dv 0) de_int) (de_op od_mul (de_op od_mul de_int (de_ix ixd_seq (dv 0) de_int)) (de_ix ixd_seq (dv 0) de_int))) de_int) de_int) da_nil)) de_int))
    (dss_cons (ds_set (i := 3) nd rfl (by first | exact Or.inl rfl | exact Or.inr rfl) (de_op od_mod (de_callTy cd_intS rfl t.n_int rfl (da_cons (de_op od_mul (dv 3) (de_op od_addI (de_op od_mod (de_callTy cd_intS rfl t.n_int rfl (da_cons (dv 3) da_nil)) de_int) (de_op od_mul de_int (de_ix ixd_seq (dv 0) de_int)))) da_nil)) de_int))
    (dss_one (ds_ret (de_op od_mod (de_callTy cd_intS rfl t.n_int rfl (da_cons (de_op od_addI (de_op od_fdiv (dv 3) de_int) (de_op od_fdiv (dv 3) de_int)) da_nil)) (dv 1))))))))
theorem S_l_of : FnScope N_l_of ["_law_jar_here", "_law_some"] (defScope s_l_of) := ⟨rfl, rfl, rfl, by decide +kernel, rfl, by decide +kernel, by decide +kernel⟩
theorem w_l_of {P : Program} {w : World} {K : PySem.W.Frag} {mg : Str → Option Value} {base : Heap} {ad : Ad} (t : Tx P w K mg base ad) (g_l_take : GF P w K mg base "_law_take" 5 (sp_l_take ad)) {f : Addr} {cdv : Value} {A : Around} {outer : List Env} {s : Shared} {H : Hp} {E : XK} (b : Bd 9 (cxOf (L2.CX P w) P w K mg base N_l_of "_law_of" (defScope s_l_of) f cdv A outer s H E) (WE0 E)) :
    DSs (cxOf (L2.CX P w) P w K mg base N_l_of "_law_of" (defScope s_l_of) f cdv A outer s H E) (WE0 E) (defBody s_l_of) (d_l_of ad) := by
  have nd : N_l_of.Nodup := S_l_of.nd
  have hp : PassesOwn (model P w) (cxOf (L2.CX P w) P w K mg base N_l_of "_law_of" (defScope s_l_of) f cdv A outer s H E).A (cxOf (L2.CX P w) P w K mg base N_l_of "_law_of" (defScope s_l_of) f cdv A outer s H E).env (cxOf (L2.CX P w) P w K mg base N_l_of "_law_of" (defScope s_l_of) f cdv A outer s H E).xe := L2.passes_of rfl
  exact (dss_one (ds_ret (de_ix ixd_seq (dv 1) (de_call b g_l_take (by decide) rfl (da_cons (dv 0) (da_cons (de_callB cd_lenU rfl t.n_len rfl (da_cons (dv 1) da_nil)) da_nil))))))
theorem S_l_frac : FnScope N_l_frac ["_law_above", "_law_under"] (defScope s_l_frac) := ⟨rfl, rfl, rfl, by decide +kernel, rfl, by decide +kernel, by decide +kernel⟩
theorem w_l_frac {P : Program} {w : World} {K : PySem.W.Frag} {mg : Str → Option Value} {base : Heap} {ad : Ad} (t : Tx P w K mg base ad) {f : Addr} {cdv : Value} {A : Around} {outer : List Env} {s : Shared} {H : Hp} {E : XK} (b : Bd 4 (cxOf (L2.CX P w) P w K mg base N_l_frac "_law_frac" (defScope s_l_frac) f cdv A outer s H E) (WE0 E)) :
    DSs (cxOf (L2.CX P w) P w K mg base N_l_frac "_law_frac" (defScope s_l_frac) f cdv A outer s H E) (WE0 E) (defBody s_l_frac) (d_l_frac ad) := by
  have nd : N_l_frac.Nodup := S_l_frac.nd
  have hp : PassesOwn (model P w) (cxOf (L2.CX P w) P w K mg base N_l_frac "_law_frac" (defScope s_l_frac) f cdv A outer s H E).A (cxOf (L2.CX P w) P w K mg base N_l_frac "_law_frac" (defScope s_l_frac) f cdv A outer s H E).env (cxOf (L2.CX P w) P w K mg base N_l_frac "_law_frac" (defScope s_l_frac) f cdv A outer s H E).xe := L2.passes_of rfl
  exact (dss_cons (ds_par (i := 2) (j := 3) rfl nd rfl rfl (by decide) rfl rfl (da_cons (de_callB cd_abs rfl t.n_abs rfl (da_cons (dv 0) da_nil)) (da_cons (dv 1) da_nil)) (by rfl))
    (dss_cons (ds_cut (ds_while hp (dt_cmp od_gtI (dv 3) de_int (nomark _)) (dss_one (ds_par (i := 2) (j := 3) rfl nd rfl rfl (by decide) rfl rfl (da_cons (dv 3) (da_cons (de_op od_mod (de_callTy cd_intS rfl t.n_int rfl (da_cons (dv 2) da_nil)) (dv 3)) da_nil)) (by rfl)))))
    (dss_one (ds_ret (de_tup (da_cons (de_op od_fdiv (dv 0) (dv 2)) (da_cons (de_op od_fdiv (dv 1) (dv 2)) da_nil)))))))
theorem S_l_whole : FnScope N_l_whole ["_law_jar_here"] (defScope s_l_whole) := ⟨rfl, rfl, rfl, by decide +kernel, rfl, by decide +kernel, by decide +kernel⟩
theorem w_l_whole {P : Program} {w : World} {K : PySem.W.Frag} {mg : Str → Option Value} {base : Heap} {ad : Ad} (t : Tx P w K mg base ad) (g_l_of : GF P w K mg base "_law_of" 10 (sp_l_of ad)) (g_l_take : GF P w K mg base "_law_take" 5 (sp_l_take ad)) {f : Addr} {cdv : Value} {A : Around} {outer : List Env} {s : Shared} {H : Hp} {E : XK} (b : Bd 14 (cxOf (L2.CX P w) P w K mg base N_l_whole "_law_whole" (defScope s_l_whole) f cdv A outer s H E) (WE0 E)) :
    DSs (cxOf (L2.CX P w) P w K mg base N_l_whole "_law_whole" (defScope s_l_whole) f cdv A outer s H E) (WE0 E) (defBody s_l_whole) (d_l_whole ad) := by
  have nd : N_l_whole.Nodup := S_l_whole.nd
  have hp : PassesOwn (model P w) (cxOf (L2.CX P w) P w K mg base N_l_whole "_law_whole" (defScope s_l_whole) f cdv A outer s H E).A (cxOf (L2.CX P w) P w K mg base N_l_whole "_law_whole" (defScope s_l_whole) f cdv A outer s H E).env (cxOf (L2.CX P w) P w K mg base N_l_whole "_law_whole" (defScope s_l_whole) f cdv A outer s H E).xe := L2.passes_of rfl
  exact (dss_one (ds_ret (de_call b g_l_of (by decide) rfl (da_cons (dv 0) (da_cons (de_lst (da_cons de_int (da_cons de_int (da_cons (de_un ud_negI de_int) (da_cons de_int (da_cons (de_un ud_negI de_int) (da_cons de_int (da_cons de_int (da_cons de_int (da_cons (de_un ud_negI de_int) (da_cons (de_op od_sub (de_call b g_l_take (by decide) rfl (da_cons (dv 0) (da_cons de_int da_nil))) de_int) (da_cons (de_op od_sub (de_call b g_l_take (by decide) rfl (da_cons (dv 0) (da_cons de_int da_nil))) de_int) da_nil)))))))))))) da_nil)))))
theorem S_l_worth_text : FnScope N_l_worth_text ["_law_pair"] (defScope s_l_worth_text) := ⟨rfl, rfl, rfl, by decide +kernel, rfl, by decide +kernel, by decide +kernel⟩
theorem w_l_worth_text {P : Program} {w : World} {K : PySem.W.Frag} {mg : Str → Option Value} {base : Heap} {ad : Ad} (t : Tx P w K mg base ad) {f : Addr} {cdv : Value} {A : Around} {outer : List Env} {s : Shared} {H : Hp} {E : XK} (b : Bd 4 (cxOf (L2.CX P w) P w K mg base N_l_worth_text "_law_worth_text" (defScope s_l_worth_text) f cdv A outer s H E) (WE0 E)) :
    DSs (cxOf (L2.CX P w) P w K mg base N_l_worth_text "_law_worth_text" (defScope s_l_worth_text) f cdv A outer s H E) (WE0 E) (defBody s_l_worth_text) (d_l_worth_text ad) := by
  have nd : N_l_worth_text.Nodup := S_l_worth_text.nd
  have hp : PassesOwn (model P w) (cxOf (L2.CX P w) P w K mg base N_l_worth_text "_law_worth_text" (defScope s_l_worth_text) f cdv A outer s H E).A (cxOf (L2.CX P w) P w K mg base N_l_worth_text "_law_worth_text" (defScope s_l_worth_text) f cdv A outer s H E).env (cxOf (L2.CX P w) P w K mg base N_l_worth_text "_law_worth_text" (defScope s_l_worth_text) f cdv A outer s H E).xe := L2.passes_of rfl
  exact (dss_one (ds_ret (de_ifExp (dt_cmp od_eqS (de_ix ixd_seq (dv 0) de_int) de_int (nomark _)) (de_callTy cd_str rfl t.n_str rfl (da_cons (de_ix ixd_seq (dv 0) de_int) da_nil)) (de_op od_addS (de_op od_addS (de_callTy cd_str rfl t.n_str rfl (da_cons (de_ix ixd_seq (dv 0) de_int) da_nil)) de_str) (de_callTy cd_str rfl t.n_str rfl (da_cons (de_ix ixd_seq (dv 0) de_int) da_nil))))))
theorem S_l_caught : FnScope N_l_caught ["_law_look"] (defScope s_l_caught) := ⟨rfl, rfl, rfl, by decide +kernel, rfl, by decide +kernel, by decide +kernel⟩
theorem w_l_caught {P : Program} {w : World} {K : PySem.W.Frag} {mg : Str → Option Value} {base : Heap} {ad : Ad} (t : Tx P w K mg base ad) {f : Addr} {cdv : Value} {A : Around} {outer : List Env} {s : Shared} {H : Hp} {E : XK} (b : Bd 4 (cxOf (L2.CX P w) P w K mg base N_l_caught "_law_caught" (defScope s_l_caught) f cdv A outer s H E) (WE0 E)) (act : TDE) (hact : ∀ (W' : WX) (pn : List (Addr × Obj)) (xe : Value → Shared → Prop) (p1 p2 : Pos), L2.Takes ((cxOf (L2.CX P w) P w K mg base N_l_caught "_law_caught" (defScope s_l_caught) f cdv A outer s H E).tr pn xe) W' → DE ((cxOf (L2.CX P w) P w K mg base N_l_caught "_law_caught" (defScope s_l_caught) f cdv A outer s H E).tr pn xe) W' (.Call (.Name "_law_look" p1) [] [] p2) act) :
    DSs (cxOf (L2.CX P w) P w K mg base N_l_caught "_law_caught" (defScope s_l_caught) f cdv A outer s H E) (WE0 E) (defBody s_l_caught) (d_l_caught ad act) := by
  have nd : N_l_caught.Nodup := S_l_caught.nd
  have hp : PassesOwn (model P w) (cxOf (L2.CX P w) P w K mg base N_l_caught "_law_caught" (defScope s_l_caught) f cdv A outer s H E).A (cxOf (L2.CX P w) P w K mg base N_l_caught "_law_caught" (defScope s_l_caught) f cdv A outer s H E).env (cxOf (L2.CX P w) P w K mg base N_l_caught "_law_caught" (defScope s_l_caught) f cdv A outer s H E).xe := L2.passes_of rfl
  exact (dss_cons (ds_set (i := 1) nd rfl (by first | exact Or.inl rfl | exact Or.inr rfl) de_non)
    (dss_cons (ds_try_as rfl rfl rfl nd rfl rfl ⟨rfl, by decide, .inl t.m_SlipError⟩ b.tk t.hx_SlipError (fun W pn xe tk hp => (dss_one (ds_expr (hact _ _ _ _ _ tk)))) (fun a pn => (dss_one (ds_set (i := 1) nd rfl (by first | exact Or.inl rfl | exact Or.inr rfl) (dv 2)))))
    (dss_one (ds_ret (dv 1)))))
theorem S_l_pair_in : FnScope N_l_pair_in ["_law_word"] (defScope s_l_pair_in) := ⟨rfl, rfl, rfl, by decide +kernel, rfl, by decide +kernel, by decide +kernel⟩
theorem w_l_pair_in {P : Program} {w : World} {K : PySem.W.Frag} {mg : Str → Option Value} {base : Heap} {ad : Ad} (t : Tx P w K mg base ad) (g_l_frac : GF P w K mg base "_law_frac" 5 (sp_l_frac ad)) (g_l_worth_text : GF P w K mg base "_law_worth_text" 5 (sp_l_worth_text ad)) {f : Addr} {cdv : Value} {A : Around} {outer : List Env} {s : Shared} {H : Hp} {E : XK} (b : Bd 9 (cxOf (L2.CX P w) P w K mg base N_l_pair_in "_law_pair_in" (defScope s_l_pair_in) f cdv A outer s H E) (WE0 E)) :
    DSs (cxOf (L2.CX P w) P w K mg base N_l_pair_in "_law_pair_in" (defScope s_l_pair_in) f cdv A outer s H E) (WE0 E) (defBody s_l_pair_in) (d_l_pair_in ad) := by
  have nd : N_l_pair_in.Nodup := S_l_pair_in.nd
  have hp : PassesOwn (model P w) (cxOf (L2.CX P w) P w K mg base N_l_pair_in "_law_pair_in" (defScope s_l_pair_in) f cdv A outer s H E).A (cxOf (L2.CX P w) P w K mg base N_l_pair_in "_law_pair_in" (defScope s_l_pair_in) f cdv A outer s H E).env (cxOf (L2.CX P w) P w K mg base N_l_pair_in "_law_pair_in" (defScope s_l_pair_in) f cdv A outer s H E).xe := L2.passes_of rfl
  exact (dss_cons (ds_set (i := 1) nd rfl (by first | exact Or.inl rfl | exact Or.inr rfl) (de_cut (de_ifExp (dt_cmp od_eqS (de_slice (dv 0) dp_none (dp_some de_int)) de_str (nomark _)) (de_slice (dv 0) (dp_some de_int) dp_none) (dv 0))))
    (dss_cons (ds_set (i := 2) nd rfl (by first | exact Or.inl rfl | exact Or.inr rfl) (de_split (dv 1) de_str))
    (dss_cons (ds_if (DWh.dt (dw_or (dt_cmp od_gtI (de_callB cd_lenU rfl t.n_len rfl (da_cons (dv 2) da_nil)) de_int (nomark _)) (dw_or1 (dt_not (dt_val (de_callB (cd_all rfl) rfl t.n_all rfl (da_cons (de_cut (de_lc (own := [("_law_part", 3)]) rfl nd (di_list (dv 2)) (blkOk_by (N := N_l_pair_in) (sc := defScope s_l_pair_in) (by decide +kernel)) (fun s H C cl fp => (dgw_name rfl nd (by first | exact Or.inl rfl | exact Or.inr rfl) (by decide))) (fun s H C cl fp => dts_nil) (fun s H C cl fp => (de_cmp od_neS (dv 3) de_str (nomark _))))) da_nil))))))) (dss_one (ds_ret (de_tup da_nil))) dss_nil)
    (dss_cons (ds_if (dt_not (dt_val (de_callB (cd_all rfl) rfl t.n_all rfl (da_cons (de_cut (de_lc (own := [("_law_sign", 4)]) rfl nd (di_str (de_join de_str (dv 2))) (blkOk_by (N := N_l_pair_in) (sc := defScope s_l_pair_in) (by decide +kernel)) (fun s H C cl fp => (dgw_name rfl nd (by first | exact Or.inl rfl | exact Or.inr rfl) (by decide))) (fun s H C cl fp => dts_nil) (fun s H C cl fp => (de_cmp od_sign (dv 4) de_str rfl)))) da_nil)))) (dss_one (ds_ret (de_tup da_nil))) dss_nil)
    (dss_cons (ds_set (i := 5) nd rfl (by first | exact Or.inl rfl | exact Or.inr rfl) (de_cut (de_ifExp (dt_cmp od_eqS (de_callB cd_lenU rfl t.n_len rfl (da_cons (dv 2) da_nil)) de_int (nomark _)) (de_callTy cd_intS rfl t.n_int rfl (da_cons (de_ix ixd_seq (dv 2) de_int) da_nil)) de_int)))
    (dss_cons (ds_if (dt_cmp od_eqS (dv 5) de_int (nomark _)) (dss_one (ds_ret (de_tup da_nil))) dss_nil)
    (dss_cons (ds_set (i := 6) nd rfl (by first | exact Or.inl rfl | exact Or.inr rfl) (de_call b g_l_frac (by decide) rfl (da_cons (de_cut (de_ifExp (dt_cmp od_eqS (de_slice (dv 0) dp_none (dp_some de_int)) de_str (nomark _)) (de_un ud_negI (de_callTy cd_intS rfl t.n_int rfl (da_cons (de_ix ixd_seq (dv 2) de_int) da_nil))) (de_callTy cd_intS rfl t.n_int rfl (da_cons (de_ix ixd_seq (dv 2) de_int) da_nil)))) (da_cons (dv 5) da_nil))))
    (dss_one (ds_ret (de_ifExp (dt_cmp od_eqS (de_call b g_l_worth_text (by decide) rfl (da_cons (dv 6) da_nil)) (dv 0) (nomark _)) (dv 6) (de_tup da_nil)))))))))))
theorem S_l_is_long : FnScope N_l_is_long ["_law_word"] (defScope s_l_is_long) := ⟨rfl, rfl, rfl, by decide +kernel, rfl, by decide +kernel, by decide +kernel⟩
theorem w_l_is_long {P : Program} {w : World} {K : PySem.W.Frag} {mg : Str → Option Value} {base : Heap} {ad : Ad} (t : Tx P w K mg base ad) {f : Addr} {cdv : Value} {A : Around} {outer : List Env} {s : Shared} {H : Hp} {E : XK} (b : Bd 4 (cxOf (L2.CX P w) P w K mg base N_l_is_long "_law_is_long" (defScope s_l_is_long) f cdv A outer s H E) (WE0 E)) :
    DSs (cxOf (L2.CX P w) P w K mg base N_l_is_long "_law_is_long" (defScope s_l_is_long) f cdv A outer s H E) (WE0 E) (defBody s_l_is_long) (d_l_is_long ad) := by
  have nd : N_l_is_long.Nodup := S_l_is_long.nd
  have hp : PassesOwn (model P w) (cxOf (L2.CX P w) P w K mg base N_l_is_long "_law_is_long" (defScope s_l_is_long) f cdv A outer s H E).A (cxOf (L2.CX P w) P w K mg base N_l_is_long "_law_is_long" (defScope s_l_is_long) f cdv A outer s H E).env (cxOf (L2.CX P w) P w K mg base N_l_is_long "_law_is_long" (defScope s_l_is_long) f cdv A outer s H E).xe := L2.passes_of rfl
  exact (dss_cons (ds_asg (de_tup (da_cons de_int (da_cons de_int da_nil))) (dg_tup rfl (dgs_cons (dg_name (i := 1) nd rfl (by first | exact Or.inl rfl | exact Or.inr rfl)) (dgs_cons (dg_name (i := 2) nd rfl (by first | exact Or.inl rfl | exact Or.inr rfl)) dgs_nil))))
    (dss_cons (ds_cut (ds_for hp rfl (di_str (dv 0)) (dg_name (i := 3) nd rfl (by first | exact Or.inl rfl | exact Or.inr rfl)) (dss_cons (ds_set (i := 1) nd rfl (by first | exact Or.inl rfl | exact Or.inr rfl) (de_cut (de_ifExp (dt_cmp od_sign (dv 3) de_str rfl) (de_op od_addI (dv 1) de_int) de_int)))
    (dss_one (ds_set (i := 2) nd rfl (by first | exact Or.inl rfl | exact Or.inr rfl) (de_cut (de_ifExp (dt_cmp od_gtI (dv 1) (dv 2) (nomark _)) (dv 1) (dv 2))))))))
    (dss_one (ds_ret (de_cmp od_gtI (dv 2) de_int (nomark _))))))
theorem S_l_text_right : FnScope N_l_text_right ["_law_word"] (defScope s_l_text_right) := ⟨rfl, rfl, rfl, by decide +kernel, rfl, by decide +kernel, by decide +kernel⟩
theorem w_l_text_right {P : Program} {w : World} {K : PySem.W.Frag} {mg : Str → Option Value} {base : Heap} {ad : Ad} (t : Tx P w K mg base ad) (g_l_is_long : GF P w K mg base "_law_is_long" 5 (sp_l_is_long ad)) (g_l_pair_in : GF P w K mg base "_law_pair_in" 10 (sp_l_pair_in ad)) (f_Wof : GR P w K mg base ad.m_Wof 15 (sp_Wof ad)) (f_Weq : GR P w K mg base ad.m_Weq 5 (sp_Weq ad)) (f_Winit2 : GR P w K mg base ad.m_Winit 10 (sp_Winit ad)) (f_Wtext : GR P w K mg base ad.m_Wtext 5 (sp_Wtext ad)) (O : OwnR0 P w K mg base 5 ad.own) {oc_l_caught : Value} {od_l_caught an_l_caught : Option Addr} {dV_l_caught kV_l_caught doc_l_caught pm_l_caught cdv_l_caught ct_l_caught : Value} {osl_l_caught : Array (Option Value)} (lk_l_caught : K.lookup ad.m_l_caught = some ⟨oc_l_caught, od_l_caught, .func (PySem.W.fnOf "_law_caught" "_law_caught" (defArgs s_l_caught) (defBody s_l_caught) (defScope s_l_caught) dV_l_caught kV_l_caught doc_l_caught pm_l_caught an_l_caught cdv_l_caught ct_l_caught), osl_l_caught⟩) (cd_l_caught : PySem.W.codeIn K cdv_l_caught "_law_caught" = true) (bi_l_caught : L2.Binds K (PySem.W.fnOf "_law_caught" "_law_caught" (defArgs s_l_caught) (defBody s_l_caught) (defScope s_l_caught) dV_l_caught kV_l_caught doc_l_caught pm_l_caught an_l_caught cdv_l_caught ct_l_caught) ["_law_look"] []) (TB : LamX.TabB base mg ad.c_l_text_right ad.P_l_text_right) {f : Addr} {A : Around} {outer : List Env} {s : Shared} {H : Hp} {E : XK} (b : Bd 24 (cxOf (L2.CX P w) P w K mg base N_l_text_right "_law_text_right" (defScope s_l_text_right) f (.ref ad.c_l_text_right) A outer s H E) (WE0 E)) :
    DSs (cxOf (L2.CX P w) P w K mg base N_l_text_right "_law_text_right" (defScope s_l_text_right) f (.ref ad.c_l_text_right) A outer s H E) (WE0 E) (defBody s_l_text_right) (d_l_text_right ad) := by
  have nd : N_l_text_right.Nodup := S_l_text_right.nd
  have hp : PassesOwn (model P w) (cxOf (L2.CX P w) P w K mg base N_l_text_right "_law_text_right" (defScope s_l_text_right) f (.ref ad.c_l_text_right) A outer s H E).A (cxOf (L2.CX P w) P w K mg base N_l_text_right "_law_text_right" (defScope s_l_text_right) f (.ref ad.c_l_text_right) A outer s H E).env (cxOf (L2.CX P w) P w K mg base N_l_text_right "_law_text_right" (defScope s_l_text_right) f (.ref ad.c_l_text_right) A outer s H E).xe := L2.passes_of rfl
  exact (dss_cons (ds_if (dt_val (de_call b g_l_is_long (by decide) rfl (da_cons (dv 0) da_nil))) (dss_one (ds_ret de_bl)) dss_nil)
    (dss_cons (ds_par (i := 1) (j := 2) rfl nd rfl rfl (by decide) rfl rfl (da_cons (de_call b g_l_pair_in (by decide) rfl (da_cons (dv 0) da_nil)) (da_cons (de_lamcall (k := 19) (is := [0]) (dg := d_l_caught ad) (b.le (by decide)) rfl t.m_l_caught t.k_l_caught lk_l_caught cd_l_caught bi_l_caught S_l_caught rfl (Or.inl rfl) TB rfl rfl rfl (LamX.lamS_by (sc := defScope s_l_text_right) (by decide +kernel)) rfl (fun _ _ _ _ _ => rfl) (fun _ _ _ _ _ _ _ bl => (de_static (bl.le (by decide : 15 ≤ 19)) t.st_Wof f_Wof rfl t.m_Worth (da_cons (dv 0) da_nil))) (fun _ _ _ act bz hact => w_l_caught t (bz.le (by decide)) act hact)) da_nil)) (by rfl))
    (dss_cons (ds_if (dt_cmp (od_eqN b) (dv 1) (de_tup da_nil) (nomark _)) (dss_one (ds_ret (de_and (de_callB (cd_isi t.hS t.hE t.hO t.hI) rfl t.n_isinstance rfl (da_cons (dv 2) (da_cons (de_glob rfl t.m_BadText) da_nil))) (de_one (de_cmp od_eqS (de_callB (cd_repr (k := 5) (n := 8) (b.le (by decide)) (OwnR.mk O.ex)) rfl t.n_repr rfl (da_cons (de_attr (ad_fld t.hV) (dv 2)) da_nil)) (de_callB (cd_repr (k := 5) (n := 8) (b.le (by decide)) (OwnR.mk O.ex)) rfl t.n_repr rfl (da_cons (dv 0) da_nil)) (nomark _)))))) dss_nil)
    (dss_one (ds_ret (de_and (de_cmp od_isN (dv 2) de_non (nomark _)) (de_and (de_cmp (od_eqA (b.le (by decide)) t.hS t.hE t.hO t.ow_Worth t.e_Weq t.e_Weqf f_Weq) (de_static (b.le (by decide : 15 ≤ 24)) t.st_Wof f_Wof rfl t.m_Worth (da_cons (dv 0) da_nil)) (de_callM (cd_make (b.le (by decide : 11 ≤ 24)) t.mk_Worth f_Winit2) rfl t.m_Worth t.k_Worth (da_cons (de_ix ixd_seq (dv 1) de_int) (da_cons (de_ix ixd_seq (dv 1) de_int) da_nil))) (nomark _)) (de_one (de_cmp od_eqS (de_attr (ad_prop (b.le (by decide)) t.cl_Worth t.pr_Wtext f_Wtext) (de_static (b.le (by decide : 15 ≤ 24)) t.st_Wof f_Wof rfl t.m_Worth (da_cons (dv 0) da_nil))) (dv 0) (nomark _))))))))))
theorem S_l_bent : FnScope N_l_bent ["_law_jar_here", "_law_word"] (defScope s_l_bent) := ⟨rfl, rfl, rfl, by decide +kernel, rfl, by decide +kernel, by decide +kernel⟩
theorem w_l_bent {P : Program} {w : World} {K : PySem.W.Frag} {mg : Str → Option Value} {base : Heap} {ad : Ad} (t : Tx P w K mg base ad) (g_l_take : GF P w K mg base "_law_take" 5 (sp_l_take ad)) (g_l_of : GF P w K mg base "_law_of" 10 (sp_l_of ad)) {f : Addr} {cdv : Value} {A : Around} {outer : List Env} {s : Shared} {H : Hp} {E : XK} (b : Bd 14 (cxOf (L2.CX P w) P w K mg base N_l_bent "_law_bent" (defScope s_l_bent) f cdv A outer s H E) (WE0 E)) :
    DSs (cxOf (L2.CX P w) P w K mg base N_l_bent "_law_bent" (defScope s_l_bent) f cdv A outer s H E) (WE0 E) (defBody s_l_bent) (d_l_bent ad) := by
  have nd : N_l_bent.Nodup := S_l_bent.nd
  have hp : PassesOwn (model P w) (cxOf (L2.CX P w) P w K mg base N_l_bent "_law_bent" (defScope s_l_bent) f cdv A outer s H E).A (cxOf (L2.CX P w) P w K mg base N_l_bent "_law_bent" (defScope s_l_bent) f cdv A outer s H E).env (cxOf (L2.CX P w) P w K mg base N_l_bent "_law_bent" (defScope s_l_bent) f cdv A outer s H E).xe := L2.passes_of rfl
  exact (dss_cons (ds_par (i := 2) (j := 3) rfl nd rfl rfl (by decide) rfl rfl (da_cons (de_call b g_l_take (by decide) rfl (da_cons (dv 0) (da_cons (de_op od_addI (de_callB cd_lenU rfl t.n_len rfl (da_cons (dv 1) da_nil)) de_int) da_nil))) (da_cons (de_call b g_l_take (by decide) rfl (da_cons (dv 0) (da_cons de_int da_nil))) da_nil)) (by rfl))
    (dss_cons (ds_set (i := 4) nd rfl (by first | exact Or.inl rfl | exact Or.inr rfl) (de_call b g_l_of (by decide) rfl (da_cons (dv 0) (da_cons (de_lst (da_cons de_str (da_cons de_str (da_cons de_str (da_cons de_str (da_cons de_str (da_cons de_str (da_cons de_str (da_cons de_str (da_cons de_str (da_cons de_str (da_cons de_str (da_cons de_str da_nil))))))))))))) da_nil))))
    (dss_cons (ds_if (dt_cmp od_eqS (dv 3) de_int (nomark _)) (dss_one (ds_ret (de_op od_addS (de_op od_addS (de_slice (dv 1) dp_none (dp_some (dv 2))) (dv 4)) (de_slice (dv 1) (dp_some (dv 2)) dp_none)))) dss_nil)
    (dss_one (ds_ret (de_ifExp (dt_cmp od_eqS (dv 3) de_int (nomark _)) (de_op od_addS (de_slice (dv 1) dp_none (dp_some (dv 2))) (de_slice (dv 1) (dp_some (de_op od_addI (dv 2) de_int)) dp_none)) (de_op od_addS (de_op od_addS (de_slice (dv 1) dp_none (dp_some (dv 2))) (dv 4)) (de_slice (dv 1) (dp_some (de_op od_addI (dv 2) de_int)) dp_none))))))))
theorem S_l_repr_due : FnScope N_l_repr_due ["_law_pair"] (defScope s_l_repr_due) := ⟨rfl, rfl, rfl, by decide +kernel, rfl, by decide +kernel, by decide +kernel⟩
theorem w_l_repr_due {P : Program} {w : World} {K : PySem.W.Frag} {mg : Str → Option Value} {base : Heap} {ad : Ad} (t : Tx P w K mg base ad) {f : Addr} {cdv : Value} {A : Around} {outer : List Env} {s : Shared} {H : Hp} {E : XK} (b : Bd 4 (cxOf (L2.CX P w) P w K mg base N_l_repr_due "_law_repr_due" (defScope s_l_repr_due) f cdv A outer s H E) (WE0 E)) :
    DSs (cxOf (L2.CX P w) P w K mg base N_l_repr_due "_law_repr_due" (defScope s_l_repr_due) f cdv A outer s H E) (WE0 E) (defBody s_l_repr_due) (d_l_repr_due ad) := by
  have nd : N_l_repr_due.Nodup := S_l_repr_due.nd
  have hp : PassesOwn (model P w) (cxOf (L2.CX P w) P w K mg base N_l_repr_due "_law_repr_due" (defScope s_l_repr_due) f cdv A outer s H E).A (cxOf (L2.CX P w) P w K mg base N_l_repr_due "_law_repr_due" (defScope s_l_repr_due) f cdv A outer s H E).env (cxOf (L2.CX P w) P w K mg base N_l_repr_due "_law_repr_due" (defScope s_l_repr_due) f cdv A outer s H E).xe := L2.passes_of rfl
  exact (dss_one (ds_ret (de_ifExp (dt_cmp od_eqS (de_ix ixd_seq (dv 0) de_int) de_int (nomark _)) (de_op od_addS (de_op od_addS de_str (de_callTy cd_str rfl t.n_str rfl (da_cons (de_ix ixd_seq (dv 0) de_int) da_nil))) de_str) (de_op od_addS (de_op od_addS (de_op od_addS (de_op od_addS de_str (de_callTy cd_str rfl t.n_str rfl (da_cons (de_ix ixd_seq (dv 0) de_int) da_nil))) de_str) (de_callTy cd_str rfl t.n_str rfl (da_cons (de_ix ixd_seq (dv 0) de_int) da_nil))) de_str))))
theorem S_l_fine : FnScope N_l_fine ["_law_jar_here"] (defScope s_l_fine) := ⟨rfl, rfl, rfl, by decide +kernel, rfl, by decide +kernel, by decide +kernel⟩
theorem w_l_fine {P : Program} {w : World} {K : PySem.W.Frag} {mg : Str → Option Value} {base : Heap} {ad : Ad} (t : Tx P w K mg base ad) (g_l_frac : GF P w K mg base "_law_frac" 5 (sp_l_frac ad)) (g_l_whole : GF P w K mg base "_law_whole" 15 (sp_l_whole ad)) (g_l_take : GF P w K mg base "_law_take" 5 (sp_l_take ad)) (f_Winit2 : GR P w K mg base ad.m_Winit 10 (sp_Winit ad)) (g_l_worth_text : GF P w K mg base "_law_worth_text" 5 (sp_l_worth_text ad)) (f_Wtext : GR P w K mg base ad.m_Wtext 5 (sp_Wtext ad)) (g_l_repr_due : GF P w K mg base "_law_repr_due" 5 (sp_l_repr_due ad)) (f_Weq : GR P w K mg base ad.m_Weq 5 (sp_Weq ad)) (h_Wof__text : GK P w K mg base ad.m_Wof 0 ["text"] 15 (fun ds => sp_Wof ad (permL [0] ds))) (g_l_text_right : GF P w K mg base "_law_text_right" 25 (sp_l_text_right ad)) (g_l_bent : GF P w K mg base "_law_bent" 15 (sp_l_bent ad)) (g_l_of : GF P w K mg base "_law_of" 10 (sp_l_of ad)) (f_Wof : GR P w K mg base ad.m_Wof 15 (sp_Wof ad)) (O : OwnR0 P w K mg base 5 ad.own) {oc_l_caught : Value} {od_l_caught an_l_caught : Option Addr} {dV_l_caught kV_l_caught doc_l_caught pm_l_caught cdv_l_caught ct_l_caught : Value} {osl_l_caught : Array (Option Value)} (lk_l_caught : K.lookup ad.m_l_caught = some ⟨oc_l_caught, od_l_caught, .func (PySem.W.fnOf "_law_caught" "_law_caught" (defArgs s_l_caught) (defBody s_l_caught) (defScope s_l_caught) dV_l_caught kV_l_caught doc_l_caught pm_l_caught an_l_caught cdv_l_caught ct_l_caught), osl_l_caught⟩) (cd_l_caught : PySem.W.codeIn K cdv_l_caught "_law_caught" = true) (bi_l_caught : L2.Binds K (PySem.W.fnOf "_law_caught" "_law_caught" (defArgs s_l_caught) (defBody s_l_caught) (defScope s_l_caught) dV_l_caught kV_l_caught doc_l_caught pm_l_caught an_l_caught cdv_l_caught ct_l_caught) ["_law_look"] []) (TB : LamX.TabB base mg ad.c_l_fine ad.P_l_fine) {f : Addr} {A : Around} {outer : List Env} {s : Shared} {H : Hp} {E : XK} (b : Bd 34 (cxOf (L2.CX P w) P w K mg base N_l_fine "_law_fine" (defScope s_l_fine) f (.ref ad.c_l_fine) A outer s H E) (WE0 E)) :
    DSs (cxOf (L2.CX P w) P w K mg base N_l_fine "_law_fine" (defScope s_l_fine) f (.ref ad.c_l_fine) A outer s H E) (WE0 E) (defBody s_l_fine) (d_l_fine ad) := by
  have nd : N_l_fine.Nodup := S_l_fine.nd
  have hp : PassesOwn (model P w) (cxOf (L2.CX P w) P w K mg base N_l_fine "_law_fine" (defScope s_l_fine) f (.ref ad.c_l_fine) A outer s H E).A (cxOf (L2.CX P w) P w K mg base N_l_fine "_law_fine" (defScope s_l_fine) f (.ref ad.c_l_fine) A outer s H E).env (cxOf (L2.CX P w) P w K mg base N_l_fine "_law_fine" (defScope s_l_fine) f (.ref ad.c_l_fine) A outer s H E).xe := L2.passes_of rfl
  exact (dss_cons (ds_cut (ds_for hp rfl (di_range1 rfl t.n_range (da_cons de_int da_nil)) (dg_name (i := 1) nd rfl (by first | exact Or.inl rfl | exact Or.inr rfl)) (dss_cons (ds_set (i := 2) nd rfl (by first | exact Or.inl rfl | exact Or.inr rfl) (de_call b g_l_frac (by decide) rfl (da_cons (de_call b g_l_whole (by decide) rfl (da_cons (dv 0) da_nil)) (da_cons (de_op od_addI de_int (de_op od_mul (de_call b g_l_take (by decide) rfl (da_cons (dv 0) (da_cons de_int da_nil))) (de_call b g_l_take (by decide) rfl (da_cons (dv 0) (da_cons de_int da_nil))))) da_nil))))
    (dss_cons (ds_asg (de_tup (da_cons (de_callM (cd_make (b.le (by decide : 11 ≤ 34)) t.mk_Worth f_Winit2) rfl t.m_Worth t.k_Worth (da_cons (de_ix ixd_seq (dv 2) de_int) (da_cons (de_ix ixd_seq (dv 2) de_int) da_nil))) (da_cons (de_call b g_l_worth_text (by decide) rfl (da_cons (dv 2) da_nil)) da_nil))) (dg_tup rfl (dgs_cons (dg_name (i := 7) nd rfl (by first | exact Or.inl rfl | exact Or.inr rfl)) (dgs_cons (dg_name (i := 8) nd rfl (by first | exact Or.inl rfl | exact Or.inr rfl)) dgs_nil))))
    (dss_cons (ds_if (DWh.dt (dw_or (dt_cmp od_neS (de_callB (cd_repr (k := 5) (n := 8) (b.le (by decide)) (OwnR.mk O.ex)) rfl t.n_repr rfl (da_cons (de_attr (ad_prop (b.le (by decide)) t.cl_Worth t.pr_Wtext f_Wtext) (dv 7)) da_nil)) (de_callB (cd_repr (k := 5) (n := 8) (b.le (by decide)) (OwnR.mk O.ex)) rfl t.n_repr rfl (da_cons (dv 8) da_nil)) (nomark _)) (dw_or (dt_cmp od_neS (de_callB (cd_repr (k := 5) (n := 8) (b.le (by decide)) (OwnR.mk O.ex)) rfl t.n_repr rfl (da_cons (dv 7) da_nil)) (de_call b g_l_repr_due (by decide) rfl (da_cons (dv 2) da_nil)) (nomark _)) (dw_or1 (dt_not (dt_cmp (od_eqA (b.le (by decide)) t.hS t.hE t.hO t.ow_Worth t.e_Weq t.e_Weqf f_Weq) (de_staticK (b.le (by decide : 15 ≤ 34)) t.st_Wof h_Wof__text rfl t.m_Worth (dk_cons (dv 8) dk_nil)) (dv 7) (nomark _))))))) (dss_one (ds_ret de_bl)) dss_nil)
    (dss_cons (ds_if (dt_not (dt_val (de_callB (cd_all rfl) rfl t.n_all rfl (da_cons (de_cut (de_lc (own := [("_law_lap", 9)]) rfl nd (di_range1 rfl t.n_range (da_cons de_int da_nil)) (blkOk_by (N := N_l_fine) (sc := defScope s_l_fine) (by decide +kernel)) (fun s H C cl fp => (dgw_name rfl nd (by first | exact Or.inl rfl | exact Or.inr rfl) (by decide))) (fun s H C cl fp => dts_nil) (fun s H C cl fp => (de_call (b.blk s H _ _ fp) g_l_text_right (by decide) rfl (da_cons (de_call (b.blk s H _ _ fp) g_l_bent (by decide) rfl (da_cons (dv 0) (da_cons (dv 8) da_nil))) da_nil))))) da_nil)))) (dss_one (ds_ret de_bl)) dss_nil)
    (dss_cons (ds_set (i := 3) nd rfl (by first | exact Or.inl rfl | exact Or.inr rfl) (de_callTy cd_str rfl t.n_str rfl (da_cons (de_op od_addI de_int (de_call b g_l_take (by decide) rfl (da_cons (dv 0) (da_cons de_int da_nil)))) da_nil)))
    (dss_cons (ds_set (i := 4) nd rfl (by first | exact Or.inl rfl | exact Or.inr rfl) (de_lst (da_cons de_str (da_cons de_str (da_cons de_str (da_cons (de_op od_addS de_str (dv 3)) (da_cons (de_op od_addS de_str (dv 3)) (da_cons (de_op od_addS (dv 3) de_str) (da_cons (de_op od_addS (de_op od_addS (dv 3) de_str) (dv 3)) (da_cons (de_op od_addS de_str (dv 3)) (da_cons de_str da_nil)))))))))))
    (dss_cons (ds_set (i := 4) nd rfl (by first | exact Or.inl rfl | exact Or.inr rfl) (de_op od_addL (dv 4) (de_lst (da_cons (de_op od_addS de_str (dv 3)) (da_cons (de_op od_addS (dv 3) de_str) (da_cons (de_op od_addS de_str (dv 3)) (da_cons de_str (da_cons (de_op od_addS de_str (dv 3)) (da_cons de_str (da_cons de_str (da_cons de_str (da_cons de_str da_nil))))))))))))
    (dss_cons (ds_if (dt_not (dt_val (de_callB (cd_all rfl) rfl t.n_all rfl (da_cons (de_cut (de_lc (own := [("_law_one", 10)]) rfl nd (di_list (dv 4)) (blkOk_by (N := N_l_fine) (sc := defScope s_l_fine) (by decide +kernel)) (fun s H C cl fp => (dgw_name rfl nd (by first | exact Or.inl rfl | exact Or.inr rfl) (by decide))) (fun s H C cl fp => dts_nil) (fun s H C cl fp => (de_call (b.blk s H _ _ fp) g_l_text_right (by decide) rfl (da_cons (dv 10) da_nil))))) da_nil)))) (dss_one (ds_ret de_bl)) dss_nil)
    (dss_cons (ds_set (i := 5) nd rfl (by first | exact Or.inl rfl | exact Or.inr rfl) (de_call b g_l_of (by decide) rfl (da_cons (dv 0) (da_cons (de_lst (da_cons de_non (da_cons de_int (da_cons de_bl (da_cons (dv 7) (da_cons (de_tup (da_cons (dv 8) da_nil)) (da_cons (de_lst (da_cons (dv 8) da_nil)) (da_cons de_dict0 da_nil)))))))) da_nil))))
    (dss_cons (ds_set (i := 6) nd rfl (by first | exact Or.inl rfl | exact Or.inr rfl) (de_lamcall (k := 29) (is := [5]) (dg := d_l_caught ad) (b.le (by decide)) rfl t.m_l_caught t.k_l_caught lk_l_caught cd_l_caught bi_l_caught S_l_caught rfl (Or.inl rfl) TB rfl rfl rfl (LamX.lamS_by (sc := defScope s_l_fine) (by decide +kernel)) rfl (fun _ _ _ _ _ => rfl) (fun _ _ _ _ _ _ _ bl => (de_static (bl.le (by decide : 15 ≤ 29)) t.st_Wof f_Wof rfl t.m_Worth (da_cons (dv 5) da_nil))) (fun _ _ _ act bz hact => w_l_caught t (bz.le (by decide)) act hact)))
    (dss_one (ds_if (DWh.dt (dw_or (dt_not (dt_val (de_callB (cd_isi t.hS t.hE t.hO t.hI) rfl t.n_isinstance rfl (da_cons (dv 6) (da_cons (de_glob rfl t.m_BadText) da_nil))))) (dw_or1 (dt_cmp od_neS (de_callB (cd_repr (k := 5) (n := 8) (b.le (by decide)) (OwnR.mk O.ex)) rfl t.n_repr rfl (da_cons (de_attr (ad_fld t.hV) (dv 6)) da_nil)) (de_callB (cd_repr (k := 5) (n := 8) (b.le (by decide)) (OwnR.mk O.ex)) rfl t.n_repr rfl (da_cons (dv 5) da_nil)) (nomark _))))) (dss_one (ds_ret de_bl)) dss_nil))))))))))))))
    (dss_one (ds_ret de_bl)))
theorem S_law : FnScope N_law ["_law_script"] (defScope s_law) := ⟨rfl, rfl, rfl, by decide +kernel, rfl, by decide +kernel, by decide +kernel⟩
theorem w_law {P : Program} {w : World} {K : PySem.W.Frag} {mg : Str → Option Value} {base : Heap} {ad : Ad} (t : Tx P w K mg base ad) (g_l_fine : GF P w K mg base "_law_fine" 35 (sp_l_fine ad)) (g_l_jar : GF P w K mg base "_law_jar" 5 (sp_l_jar ad)) {f : Addr} {cdv : Value} {A : Around} {outer : List Env} {s : Shared} {H : Hp} {E : XK} (b : Bd 39 (cxOf (L2.CX P w) P w K mg base N_law "law" (defScope s_law) f cdv A outer s H E) (WE0 E)) :
    DSs (cxOf (L2.CX P w) P w K mg base N_law "law" (defScope s_law) f cdv A outer s H E) (WE0 E) (defBody s_law) (d_law ad) := by
  have nd : N_law.Nodup := S_law.nd
  have hp : PassesOwn (model P w) (cxOf (L2.CX P w) P w K mg base N_law "law" (defScope s_law) f cdv A outer s H E).A (cxOf (L2.CX P w) P w K mg base N_law "law" (defScope s_law) f cdv A outer s H E).env (cxOf (L2.CX P w) P w K mg base N_law "law" (defScope s_law) f cdv A outer s H E).xe := L2.passes_of rfl
  exact (dss_one (ds_ret (de_callB (cd_all rfl) rfl t.n_all rfl (da_cons (de_cut (de_lc (own := [("_law_k", 1)]) rfl nd (di_range1 rfl t.n_range (da_cons (de_callB (cd_max rfl) rfl t.n_max rfl (da_cons de_int (da_cons (de_callB (cd_min rfl) rfl t.n_min rfl (da_cons (de_callB cd_lenU rfl t.n_len rfl (da_cons (dv 0) da_nil)) (da_cons de_int da_nil))) da_nil))) da_nil)) (blkOk_by (N := N_law) (sc := defScope s_law) (by decide +kernel)) (fun s H C cl fp => (dgw_name rfl nd (by first | exact Or.inl rfl | exact Or.inr rfl) (by decide))) (fun s H C cl fp => dts_nil) (fun s H C cl fp => (de_call (b.blk s H _ _ fp) g_l_fine (by decide) rfl (da_cons (de_call (b.blk s H _ _ fp) g_l_jar (by decide) rfl (da_cons (dv 0) (da_cons (dv 1) da_nil))) da_nil))))) da_nil))))
end K1
namespace K1
open PySem PySem.Spec PyProof.Rows L2 VX DL RQ TL
abbrev s_slip : Stmt := inClass (top 1) 0
theorem all_mk {w : World} {K : PySem.W.Frag} {h : Heap} {mg : Str → Option Value} {fa : Addr} {q : Program} (X : K.In h) (G : h.Ns mainGlobals mg) (hfa : mg "law" = some (.ref fa))
    (TAB : ∀ d x c P, (recsOf q).find? (fun e => e.name == x) = some d → PySem.W.tabIn K x = some (c, P) → PySem.W.CodeHd h c P ∧ h.get? P = some { cls := .none, data := .fields #[] })
    {C_Worth : Addr}
    {C_BadText : Addr}
    {C_SlipError : Addr}
    {nm_eBadText q_eBadText : Str}
    {N_eBadText : Addr}
    {bs_eBadText sub_eBadText : List Value}
    {sn_eBadText : List Str}
    {ab_eBadText : Bool}
    {col_eBadText : Option Bool}
    {dd_eBadText : Option Addr}
    {m0eBadText m1eBadText m2eBadText m3eBadText m5eBadText : Option Value}
    {C_BadWorth : Addr}
    {nm_eBadWorth q_eBadWorth : Str}
    {N_eBadWorth : Addr}
    {bs_eBadWorth sub_eBadWorth : List Value}
    {sn_eBadWorth : List Str}
    {ab_eBadWorth : Bool}
    {col_eBadWorth : Option Bool}
    {dd_eBadWorth : Option Addr}
    {m0eBadWorth m1eBadWorth m2eBadWorth m3eBadWorth m5eBadWorth : Option Value}
    {t_DIGITS : Tok}
    {f_slip cda_slip cc_slip : Addr}
    {od_slip an_slip : Option Addr}
    {osl_slip : Array (Option Value)}
    {oc_slip kV_slip dc_slip pm_slip ct_slip : Value}
    {ccl : Value}
    {cdd : Option Addr}
    {vsl : Array Value}
    {ccs : Array (Option Value)}
    {cll : Value}
    {cld : Option Addr}
    {csl : Array (Option Value)}
    {file : Str}
    {tf : Tok}
    {cdS : ClassData}
    {p_above : Addr}
    {p_below : Addr}
    {t_MOST_SIGNS : Tok}
    {x_Winit : Addr}
    {od_Winit an_Winit : Option Addr}
    {osl_Winit : Array (Option Value)}
    {oc_Winit kV_Winit dc_Winit pm_Winit ct_Winit : Value}
    {cd_Winit : Value}
    {T_Winit : Addr}
    {tk_Winit : Tok}
    {oc_TWinit : Value}
    {od_TWinit : Option Addr}
    {n_TWinit : Nat}
    {sl_TWinit : Array (Option Value)}
    {p_Wtext : Addr}
    {rc_Wtext : List Value}
    {x_Wtext : Addr}
    {od_Wtext an_Wtext : Option Addr}
    {osl_Wtext : Array (Option Value)}
    {oc_Wtext kV_Wtext dc_Wtext pm_Wtext ct_Wtext : Value}
    {cd_Wtext : Value}
    {x_l_caught : Addr}
    {od_l_caught an_l_caught : Option Addr}
    {osl_l_caught : Array (Option Value)}
    {oc_l_caught kV_l_caught dc_l_caught pm_l_caught ct_l_caught : Value}
    {cd_l_caught : Value}
    {p_Wof : Addr}
    {rc_Wof : List Value}
    {x_Wof : Addr}
    {od_Wof an_Wof : Option Addr}
    {osl_Wof : Array (Option Value)}
    {oc_Wof kV_Wof dc_Wof pm_Wof ct_Wof : Value}
    {cd_Wof : Value}
    {x_Weq : Addr}
    {od_Weq an_Weq : Option Addr}
    {osl_Weq : Array (Option Value)}
    {oc_Weq kV_Weq dc_Weq pm_Weq ct_Weq : Value}
    {cd_Weq : Value}
    {x_is_integer : Addr}
    {od_is_integer an_is_integer : Option Addr}
    {osl_is_integer : Array (Option Value)}
    {oc_is_integer kV_is_integer dc_is_integer pm_is_integer ct_is_integer : Value}
    {cd_is_integer : Value}
    {x_common_divisor : Addr}
    {od_common_divisor an_common_divisor : Option Addr}
    {osl_common_divisor : Array (Option Value)}
    {oc_common_divisor kV_common_divisor dc_common_divisor pm_common_divisor ct_common_divisor : Value}
    {cd_common_divisor : Value}
    {x_is_figures : Addr}
    {od_is_figures an_is_figures : Option Addr}
    {osl_is_figures : Array (Option Value)}
    {oc_is_figures kV_is_figures dc_is_figures pm_is_figures ct_is_figures : Value}
    {cd_is_figures : Value}
    {p_Wnumber : Addr}
    {rc_Wnumber : List Value}
    {x_Wnumber : Addr}
    {od_Wnumber an_Wnumber : Option Addr}
    {osl_Wnumber : Array (Option Value)}
    {oc_Wnumber kV_Wnumber dc_Wnumber pm_Wnumber ct_Wnumber : Value}
    {cd_Wnumber : Value}
    {p_Wunder : Addr}
    {rc_Wunder : List Value}
    {x_Wunder : Addr}
    {od_Wunder an_Wunder : Option Addr}
    {osl_Wunder : Array (Option Value)}
    {oc_Wunder kV_Wunder dc_Wunder pm_Wunder ct_Wunder : Value}
    {cd_Wunder : Value}
    {x_Wrepr : Addr}
    {od_Wrepr an_Wrepr : Option Addr}
    {osl_Wrepr : Array (Option Value)}
    {oc_Wrepr kV_Wrepr dc_Wrepr pm_Wrepr ct_Wrepr : Value}
    {cd_Wrepr : Value}
    {x_l_jar : Addr}
    {od_l_jar an_l_jar : Option Addr}
    {osl_l_jar : Array (Option Value)}
    {oc_l_jar kV_l_jar dc_l_jar pm_l_jar ct_l_jar : Value}
    {cd_l_jar : Value}
    {x_l_take : Addr}
    {od_l_take an_l_take : Option Addr}
    {osl_l_take : Array (Option Value)}
    {oc_l_take kV_l_take dc_l_take pm_l_take ct_l_take : Value}
    {cd_l_take : Value}
    {x_l_of : Addr}
    {od_l_of an_l_of : Option Addr}
    {osl_l_of : Array (Option Value)}
    {oc_l_of kV_l_of dc_l_of pm_l_of ct_l_of : Value}
    {cd_l_of : Value}
    {x_l_frac : Addr}
    {od_l_frac an_l_frac : Option Addr}
    {osl_l_frac : Array (Option Value)}
    {oc_l_frac kV_l_frac dc_l_frac pm_l_frac ct_l_frac : Value}
    {cd_l_frac : Value}
    {x_l_whole : Addr}
    {od_l_whole an_l_whole : Option Addr}
    {osl_l_whole : Array (Option Value)}
    {oc_l_whole kV_l_whole dc_l_whole pm_l_whole ct_l_whole : Value}
    {cd_l_whole : Value}
    {x_l_worth_text : Addr}
    {od_l_worth_text an_l_worth_text : Option Addr}
    {osl_l_worth_text : Array (Option Value)}
    {oc_l_worth_text kV_l_worth_text dc_l_worth_text pm_l_worth_text ct_l_worth_text : Value}
    {cd_l_worth_text : Value}
    {x_l_pair_in : Addr}
    {od_l_pair_in an_l_pair_in : Option Addr}
    {osl_l_pair_in : Array (Option Value)}
    {oc_l_pair_in kV_l_pair_in dc_l_pair_in pm_l_pair_in ct_l_pair_in : Value}
    {cd_l_pair_in : Value}
    {x_l_is_long : Addr}
    {od_l_is_long an_l_is_long : Option Addr}
    {osl_l_is_long : Array (Option Value)}
    {oc_l_is_long kV_l_is_long dc_l_is_long pm_l_is_long ct_l_is_long : Value}
    {cd_l_is_long : Value}
    {x_l_text_right : Addr}
    {od_l_text_right an_l_text_right : Option Addr}
    {osl_l_text_right : Array (Option Value)}
    {oc_l_text_right kV_l_text_right dc_l_text_right pm_l_text_right ct_l_text_right : Value}
    {cA_l_text_right PA_l_text_right : Addr}
    {cl_l_text_right : Value}
    {cD_l_text_right : Option Addr}
    {cV_l_text_right : Array Value}
    {cS_l_text_right : Array (Option Value)}
    {x_l_bent : Addr}
    {od_l_bent an_l_bent : Option Addr}
    {osl_l_bent : Array (Option Value)}
    {oc_l_bent kV_l_bent dc_l_bent pm_l_bent ct_l_bent : Value}
    {cd_l_bent : Value}
    {x_l_repr_due : Addr}
    {od_l_repr_due an_l_repr_due : Option Addr}
    {osl_l_repr_due : Array (Option Value)}
    {oc_l_repr_due kV_l_repr_due dc_l_repr_due pm_l_repr_due ct_l_repr_due : Value}
    {cd_l_repr_due : Value}
    {x_l_fine : Addr}
    {od_l_fine an_l_fine : Option Addr}
    {osl_l_fine : Array (Option Value)}
    {oc_l_fine kV_l_fine dc_l_fine pm_l_fine ct_l_fine : Value}
    {cA_l_fine PA_l_fine : Addr}
    {cl_l_fine : Value}
    {cD_l_fine : Option Addr}
    {cV_l_fine : Array Value}
    {cS_l_fine : Array (Option Value)}
    {x_law : Addr}
    {od_law an_law : Option Addr}
    {osl_law : Array (Option Value)}
    {oc_law kV_law dc_law pm_law ct_law : Value}
    {cd_law : Value}
    (n_Worth : PySem.W.nsIn K mainGlobals "Worth" = some (some (.ref C_Worth)))
    (wpg : PySem.W.plainGet K C_Worth Str.empty = true)
    (wic : PySem.W.isClsIn K C_Worth = true)
    (wpo : PySem.W.plainOver K C_Worth = true)
    (wsa : PySem.W.findIn K (.ref C_Worth) "__setattr__" = some (some (.builtin "object.__setattr__")))
    (wca : PySem.W.findIn K (.ref C_Worth) "__class__" = some (some (.builtin "object.__class__")))
    (ocn : PySem.W.specialIn K (.builtin "object.__class__") "__get__" = some (some (.builtin "getset_descriptor.__get__")))
    (oct : PySem.W.takesIn K (.builtin "object.__class__") = some true)
    (e_ob : PySem.W.mroIn K C_Worth (.type "object") = some true)
    (wint : PySem.W.subIn K (.ref C_Worth) (.type "int") = some false)
    (wbool : PySem.W.subIn K (.ref C_Worth) (.type "bool") = some false)
    (wty : PySem.W.typeIn K (.ref C_Worth) = some (.type "type"))
    (n_BadText : PySem.W.nsIn K mainGlobals "BadText" = some (some (.ref C_BadText)))
    (n_SlipError : PySem.W.nsIn K mainGlobals "SlipError" = some (some (.ref C_SlipError)))
    (eBadTextx : K.lookup C_BadText = some (excClassObj nm_eBadText q_eBadText C_BadText N_eBadText bs_eBadText [.ref C_SlipError, .type "ValueError", .type "Exception", .type "BaseException", .type "object"] true sn_eBadText sub_eBadText ab_eBadText col_eBadText dd_eBadText m0eBadText m1eBadText m2eBadText m3eBadText m5eBadText "ValueError.__new__"))
    (eBadTextsa : PySem.W.findIn K (.ref C_BadText) "__setattr__" = some (some (.builtin "object.__setattr__")))
    (eBadTextex : PySem.W.subIn K (.ref C_BadText) (.type "BaseException") = some true)
    (eBadTextty : PySem.W.typeIn K (.ref C_BadText) = some (.type "type"))
    (eBadTextk : PySem.W.keepIn K (.ref C_BadText) = true)
    (eBadTextve : PySem.W.mroIn K C_BadText (.type "ValueError") = some true)
    (eBadTextsub : PySem.W.mroIn K C_BadText (.ref C_SlipError) = some true)
    (eBadTextsup : PySem.W.ks_superIn K C_BadText C_SlipError "__init__" = some (some veI))
    (eBadTextnov : PySem.W.findIn K (.ref C_BadText) "value" = some none)
    (eBadTextga : PySem.W.findIn K (.ref C_BadText) "__getattribute__" = some (some (.builtin "BaseException.__getattribute__")))
    (eBadTextgg : PySem.W.findIn K (.ref C_BadText) "__getattr__" = some none)
    (eBadTexthd : PySem.W.hasDictIn K C_BadText = true)
    (eBadTextic : PySem.W.isClsIn K C_BadText = true)
    (eBadTextca : PySem.W.findIn K (.ref C_BadText) "__class__" = some (some (.builtin "object.__class__")))
    (eBadTextob : PySem.W.mroIn K C_BadText (.type "object") = some true)
    (n_BadWorth : PySem.W.nsIn K mainGlobals "BadWorth" = some (some (.ref C_BadWorth)))
    (eBadWorthx : K.lookup C_BadWorth = some (excClassObj nm_eBadWorth q_eBadWorth C_BadWorth N_eBadWorth bs_eBadWorth [.ref C_SlipError, .type "ValueError", .type "Exception", .type "BaseException", .type "object"] true sn_eBadWorth sub_eBadWorth ab_eBadWorth col_eBadWorth dd_eBadWorth m0eBadWorth m1eBadWorth m2eBadWorth m3eBadWorth m5eBadWorth "ValueError.__new__"))
    (eBadWorthsa : PySem.W.findIn K (.ref C_BadWorth) "__setattr__" = some (some (.builtin "object.__setattr__")))
    (eBadWorthex : PySem.W.subIn K (.ref C_BadWorth) (.type "BaseException") = some true)
    (eBadWorthty : PySem.W.typeIn K (.ref C_BadWorth) = some (.type "type"))
    (eBadWorthk : PySem.W.keepIn K (.ref C_BadWorth) = true)
    (eBadWorthve : PySem.W.mroIn K C_BadWorth (.type "ValueError") = some true)
    (eBadWorthsub : PySem.W.mroIn K C_BadWorth (.ref C_SlipError) = some true)
    (eBadWorthsup : PySem.W.ks_superIn K C_BadWorth C_SlipError "__init__" = some (some veI))
    (eBadWorthnov : PySem.W.findIn K (.ref C_BadWorth) "value" = some none)
    (eBadWorthga : PySem.W.findIn K (.ref C_BadWorth) "__getattribute__" = some (some (.builtin "BaseException.__getattribute__")))
    (eBadWorthgg : PySem.W.findIn K (.ref C_BadWorth) "__getattr__" = some none)
    (eBadWorthhd : PySem.W.hasDictIn K C_BadWorth = true)
    (eBadWorthic : PySem.W.isClsIn K C_BadWorth = true)
    (eBadWorthca : PySem.W.findIn K (.ref C_BadWorth) "__class__" = some (some (.builtin "object.__class__")))
    (eBadWorthob : PySem.W.mroIn K C_BadWorth (.type "object") = some true)
    (z_isinstance : PySem.W.nsIn K mainGlobals "isinstance" = some none)
    (z_int : PySem.W.nsIn K mainGlobals "int" = some none)
    (z_bool : PySem.W.nsIn K mainGlobals "bool" = some none)
    (z_all : PySem.W.nsIn K mainGlobals "all" = some none)
    (n_DIGITS : PySem.W.nsIn K mainGlobals "DIGITS" = some (some (.str "0123456789" t_DIGITS)))
    (n_slip_BadWorth : PySem.W.findIn K (.ref C_BadWorth) "__init__" = some (some (.ref f_slip)))
    (ty_slip : PySem.W.typeIn K (.ref f_slip) = some (.type "function"))
    (l_slip : K.lookup f_slip = some ⟨oc_slip, od_slip, .func (PySem.W.ksFn "__init__" "SlipError.__init__" (defArgs s_slip) (defBody s_slip) (defScope s_slip) .none kV_slip dc_slip pm_slip an_slip (.ref cda_slip) ct_slip cc_slip), osl_slip⟩)
    (c_slip : PySem.W.codeIn K (.ref cda_slip) "SlipError.__init__" = true)
    (lc_slip : K.lookup cda_slip = some ⟨ccl, cdd, .fields vsl, ccs⟩)
    (lv_slip : vsl[2]? = some (.str file tf))
    (lf_slip : ((PySem.Challenge.pw_sharedslip_k04_texts_of_worths.main.file : Str) == file) = true)
    (lcc_slip : K.lookup cc_slip = some ⟨cll, cld, .cell (some (.ref C_SlipError)), csl⟩)
    (cls_slip : PySem.W.clsIn K C_SlipError = some cdS)
    (opq : PySem.W.nsIn K cStatics "thirdparty.any" = some none)
    (z_super : PySem.W.nsIn K mainGlobals "super" = some none)
    (z_abs : PySem.W.nsIn K mainGlobals "abs" = some none)
    (sa_above : PySem.W.findIn K (.ref C_Worth) "above" = some (some (.ref p_above)))
    (sg_above : PySem.W.specialIn K (.ref p_above) "__get__" = some (some (.builtin "member_descriptor.__get__")))
    (st_above : PySem.W.takesIn K (.ref p_above) = some true)
    (sy_above : PySem.W.typeIn K (.ref p_above) = some (.type "member_descriptor"))
    (sx_above : PySem.W.slotIn K p_above C_Worth = some 0)
    (sa_below : PySem.W.findIn K (.ref C_Worth) "below" = some (some (.ref p_below)))
    (sg_below : PySem.W.specialIn K (.ref p_below) "__get__" = some (some (.builtin "member_descriptor.__get__")))
    (st_below : PySem.W.takesIn K (.ref p_below) = some true)
    (sy_below : PySem.W.typeIn K (.ref p_below) = some (.type "member_descriptor"))
    (sx_below : PySem.W.slotIn K p_below C_Worth = some 1)
    (z_str : PySem.W.nsIn K mainGlobals "str" = some none)
    (z_len : PySem.W.nsIn K mainGlobals "len" = some none)
    (n_MOST_SIGNS : PySem.W.nsIn K mainGlobals "MOST_SIGNS" = some (some (.int 900 t_MOST_SIGNS)))
    (n_slip_BadText : PySem.W.findIn K (.ref C_BadText) "__init__" = some (some (.ref f_slip)))
    (n_Winit : PySem.W.findIn K (.ref C_Worth) "__init__" = some (some (.ref x_Winit)))
    (i_Winit : PySem.W.isFn K (.ref x_Winit) = true)
    (l_Winit : K.lookup x_Winit = some ⟨oc_Winit, od_Winit, .func (PySem.W.fnOf "__init__" "Worth.__init__" (defArgs s_Winit) (defBody s_Winit) (defScope s_Winit) (.ref T_Winit) kV_Winit dc_Winit pm_Winit an_Winit cd_Winit ct_Winit), osl_Winit⟩)
    (c_Winit : PySem.W.codeIn K cd_Winit "Worth.__init__" = true)
    (k_Winit : PySem.W.keepIn K (.ref x_Winit) = true)
    (l_TWinit : K.lookup T_Winit = some ⟨oc_TWinit, od_TWinit, .seq #[.int 1 tk_Winit] n_TWinit, sl_TWinit⟩)
    (mkWorth : PySem.W.makesIn K C_Worth = true)
    (kc_Worth : PySem.W.keepIn K (.ref C_Worth) = true)
    (pa_Wtext : PySem.W.findIn K (.ref C_Worth) "text" = some (some (.ref p_Wtext)))
    (pg_Wtext : PySem.W.specialIn K (.ref p_Wtext) "__get__" = some (some (.builtin "property.__get__")))
    (pt_Wtext : PySem.W.takesIn K (.ref p_Wtext) = some true)
    (pr_Wtext : PySem.W.recIn K p_Wtext "property" = some (.ref x_Wtext :: rc_Wtext))
    (l_Wtext : K.lookup x_Wtext = some ⟨oc_Wtext, od_Wtext, .func (PySem.W.fnOf "text" "Worth.text" (defArgs s_Wtext) (defBody s_Wtext) (defScope s_Wtext) .none kV_Wtext dc_Wtext pm_Wtext an_Wtext cd_Wtext ct_Wtext), osl_Wtext⟩)
    (c_Wtext : PySem.W.codeIn K cd_Wtext "Worth.text" = true)
    (n_l_caught : PySem.W.nsIn K mainGlobals "_law_caught" = some (some (.ref x_l_caught)))
    (l_l_caught : K.lookup x_l_caught = some ⟨oc_l_caught, od_l_caught, .func (PySem.W.fnOf "_law_caught" "_law_caught" (defArgs s_l_caught) (defBody s_l_caught) (defScope s_l_caught) .none kV_l_caught dc_l_caught pm_l_caught an_l_caught cd_l_caught ct_l_caught), osl_l_caught⟩)
    (c_l_caught : PySem.W.codeIn K cd_l_caught "_law_caught" = true)
    (k_l_caught : PySem.W.keepIn K (.ref x_l_caught) = true)
    (sgt_Worth : PySem.W.specialIn K (.ref C_Worth) "__getattribute__" = some (some (.builtin "type.__getattribute__")))
    (srd_Worth : PySem.W.readsIn K C_Worth (.type "type") = true)
    (sfc_Wof : PySem.W.findCls K (.ref C_Worth) (.type "type") "of" = some (.get (.builtin "staticmethod.__get__") (.ref p_Wof) .none (.ref C_Worth)))
    (src_Wof : PySem.W.recIn K p_Wof "staticmethod" = some (.ref x_Wof :: rc_Wof))
    (l_Wof : K.lookup x_Wof = some ⟨oc_Wof, od_Wof, .func (PySem.W.fnOf "of" "Worth.of" (defArgs s_Wof) (defBody s_Wof) (defScope s_Wof) .none kV_Wof dc_Wof pm_Wof an_Wof cd_Wof ct_Wof), osl_Wof⟩)
    (c_Wof : PySem.W.codeIn K cd_Wof "Worth.of" = true)
    (skp_Wof : PySem.W.keepIn K (.ref x_Wof) = true)
    (z_repr : PySem.W.nsIn K mainGlobals "repr" = some none)
    (sfW : PySem.W.selfFirst K C_Worth = true)
    (n_Weq : PySem.W.findIn K (.ref C_Worth) "__eq__" = some (some (.ref x_Weq)))
    (i_Weq : PySem.W.isFn K (.ref x_Weq) = true)
    (l_Weq : K.lookup x_Weq = some ⟨oc_Weq, od_Weq, .func (PySem.W.fnOf "__eq__" "Worth.__eq__" (defArgs s_Weq) (defBody s_Weq) (defScope s_Weq) .none kV_Weq dc_Weq pm_Weq an_Weq cd_Weq ct_Weq), osl_Weq⟩)
    (c_Weq : PySem.W.codeIn K cd_Weq "Worth.__eq__" = true)
    (z_range : PySem.W.nsIn K mainGlobals "range" = some none)
    (z_max : PySem.W.nsIn K mainGlobals "max" = some none)
    (z_min : PySem.W.nsIn K mainGlobals "min" = some none)
    (n_is_integer : PySem.W.nsIn K mainGlobals "is_integer" = some (some (.ref x_is_integer)))
    (l_is_integer : K.lookup x_is_integer = some ⟨oc_is_integer, od_is_integer, .func (PySem.W.fnOf "is_integer" "is_integer" (defArgs s_is_integer) (defBody s_is_integer) (defScope s_is_integer) .none kV_is_integer dc_is_integer pm_is_integer an_is_integer cd_is_integer ct_is_integer), osl_is_integer⟩)
    (c_is_integer : PySem.W.codeIn K cd_is_integer "is_integer" = true)
    (k_is_integer : PySem.W.keepIn K (.ref x_is_integer) = true)
    (n_common_divisor : PySem.W.nsIn K mainGlobals "common_divisor" = some (some (.ref x_common_divisor)))
    (l_common_divisor : K.lookup x_common_divisor = some ⟨oc_common_divisor, od_common_divisor, .func (PySem.W.fnOf "common_divisor" "common_divisor" (defArgs s_common_divisor) (defBody s_common_divisor) (defScope s_common_divisor) .none kV_common_divisor dc_common_divisor pm_common_divisor an_common_divisor cd_common_divisor ct_common_divisor), osl_common_divisor⟩)
    (c_common_divisor : PySem.W.codeIn K cd_common_divisor "common_divisor" = true)
    (k_common_divisor : PySem.W.keepIn K (.ref x_common_divisor) = true)
    (n_is_figures : PySem.W.nsIn K mainGlobals "is_figures" = some (some (.ref x_is_figures)))
    (l_is_figures : K.lookup x_is_figures = some ⟨oc_is_figures, od_is_figures, .func (PySem.W.fnOf "is_figures" "is_figures" (defArgs s_is_figures) (defBody s_is_figures) (defScope s_is_figures) .none kV_is_figures dc_is_figures pm_is_figures an_is_figures cd_is_figures ct_is_figures), osl_is_figures⟩)
    (c_is_figures : PySem.W.codeIn K cd_is_figures "is_figures" = true)
    (k_is_figures : PySem.W.keepIn K (.ref x_is_figures) = true)
    (pa_Wnumber : PySem.W.findIn K (.ref C_Worth) "number" = some (some (.ref p_Wnumber)))
    (pg_Wnumber : PySem.W.specialIn K (.ref p_Wnumber) "__get__" = some (some (.builtin "property.__get__")))
    (pt_Wnumber : PySem.W.takesIn K (.ref p_Wnumber) = some true)
    (pr_Wnumber : PySem.W.recIn K p_Wnumber "property" = some (.ref x_Wnumber :: rc_Wnumber))
    (l_Wnumber : K.lookup x_Wnumber = some ⟨oc_Wnumber, od_Wnumber, .func (PySem.W.fnOf "number" "Worth.number" (defArgs s_Wnumber) (defBody s_Wnumber) (defScope s_Wnumber) .none kV_Wnumber dc_Wnumber pm_Wnumber an_Wnumber cd_Wnumber ct_Wnumber), osl_Wnumber⟩)
    (c_Wnumber : PySem.W.codeIn K cd_Wnumber "Worth.number" = true)
    (pa_Wunder : PySem.W.findIn K (.ref C_Worth) "under" = some (some (.ref p_Wunder)))
    (pg_Wunder : PySem.W.specialIn K (.ref p_Wunder) "__get__" = some (some (.builtin "property.__get__")))
    (pt_Wunder : PySem.W.takesIn K (.ref p_Wunder) = some true)
    (pr_Wunder : PySem.W.recIn K p_Wunder "property" = some (.ref x_Wunder :: rc_Wunder))
    (l_Wunder : K.lookup x_Wunder = some ⟨oc_Wunder, od_Wunder, .func (PySem.W.fnOf "under" "Worth.under" (defArgs s_Wunder) (defBody s_Wunder) (defScope s_Wunder) .none kV_Wunder dc_Wunder pm_Wunder an_Wunder cd_Wunder ct_Wunder), osl_Wunder⟩)
    (c_Wunder : PySem.W.codeIn K cd_Wunder "Worth.under" = true)
    (n_Wrepr : PySem.W.findIn K (.ref C_Worth) "__repr__" = some (some (.ref x_Wrepr)))
    (i_Wrepr : PySem.W.isFn K (.ref x_Wrepr) = true)
    (l_Wrepr : K.lookup x_Wrepr = some ⟨oc_Wrepr, od_Wrepr, .func (PySem.W.fnOf "__repr__" "Worth.__repr__" (defArgs s_Wrepr) (defBody s_Wrepr) (defScope s_Wrepr) .none kV_Wrepr dc_Wrepr pm_Wrepr an_Wrepr cd_Wrepr ct_Wrepr), osl_Wrepr⟩)
    (c_Wrepr : PySem.W.codeIn K cd_Wrepr "Worth.__repr__" = true)
    (n_l_jar : PySem.W.nsIn K mainGlobals "_law_jar" = some (some (.ref x_l_jar)))
    (l_l_jar : K.lookup x_l_jar = some ⟨oc_l_jar, od_l_jar, .func (PySem.W.fnOf "_law_jar" "_law_jar" (defArgs s_l_jar) (defBody s_l_jar) (defScope s_l_jar) .none kV_l_jar dc_l_jar pm_l_jar an_l_jar cd_l_jar ct_l_jar), osl_l_jar⟩)
    (c_l_jar : PySem.W.codeIn K cd_l_jar "_law_jar" = true)
    (k_l_jar : PySem.W.keepIn K (.ref x_l_jar) = true)
    (n_l_take : PySem.W.nsIn K mainGlobals "_law_take" = some (some (.ref x_l_take)))
    (l_l_take : K.lookup x_l_take = some ⟨oc_l_take, od_l_take, .func (PySem.W.fnOf "_law_take" "_law_take" (defArgs s_l_take) (defBody s_l_take) (defScope s_l_take) .none kV_l_take dc_l_take pm_l_take an_l_take cd_l_take ct_l_take), osl_l_take⟩)
    (c_l_take : PySem.W.codeIn K cd_l_take "_law_take" = true)
    (k_l_take : PySem.W.keepIn K (.ref x_l_take) = true)
    (n_l_of : PySem.W.nsIn K mainGlobals "_law_of" = some (some (.ref x_l_of)))
    (l_l_of : K.lookup x_l_of = some ⟨oc_l_of, od_l_of, .func (PySem.W.fnOf "_law_of" "_law_of" (defArgs s_l_of) (defBody s_l_of) (defScope s_l_of) .none kV_l_of dc_l_of pm_l_of an_l_of cd_l_of ct_l_of), osl_l_of⟩)
    (c_l_of : PySem.W.codeIn K cd_l_of "_law_of" = true)
    (k_l_of : PySem.W.keepIn K (.ref x_l_of) = true)
    (n_l_frac : PySem.W.nsIn K mainGlobals "_law_frac" = some (some (.ref x_l_frac)))
    (l_l_frac : K.lookup x_l_frac = some ⟨oc_l_frac, od_l_frac, .func (PySem.W.fnOf "_law_frac" "_law_frac" (defArgs s_l_frac) (defBody s_l_frac) (defScope s_l_frac) .none kV_l_frac dc_l_frac pm_l_frac an_l_frac cd_l_frac ct_l_frac), osl_l_frac⟩)
    (c_l_frac : PySem.W.codeIn K cd_l_frac "_law_frac" = true)
    (k_l_frac : PySem.W.keepIn K (.ref x_l_frac) = true)
    (n_l_whole : PySem.W.nsIn K mainGlobals "_law_whole" = some (some (.ref x_l_whole)))
    (l_l_whole : K.lookup x_l_whole = some ⟨oc_l_whole, od_l_whole, .func (PySem.W.fnOf "_law_whole" "_law_whole" (defArgs s_l_whole) (defBody s_l_whole) (defScope s_l_whole) .none kV_l_whole dc_l_whole pm_l_whole an_l_whole cd_l_whole ct_l_whole), osl_l_whole⟩)
    (c_l_whole : PySem.W.codeIn K cd_l_whole "_law_whole" = true)
    (k_l_whole : PySem.W.keepIn K (.ref x_l_whole) = true)
    (n_l_worth_text : PySem.W.nsIn K mainGlobals "_law_worth_text" = some (some (.ref x_l_worth_text)))
    (l_l_worth_text : K.lookup x_l_worth_text = some ⟨oc_l_worth_text, od_l_worth_text, .func (PySem.W.fnOf "_law_worth_text" "_law_worth_text" (defArgs s_l_worth_text) (defBody s_l_worth_text) (defScope s_l_worth_text) .none kV_l_worth_text dc_l_worth_text pm_l_worth_text an_l_worth_text cd_l_worth_text ct_l_worth_text), osl_l_worth_text⟩)
    (c_l_worth_text : PySem.W.codeIn K cd_l_worth_text "_law_worth_text" = true)
    (k_l_worth_text : PySem.W.keepIn K (.ref x_l_worth_text) = true)
    (n_l_pair_in : PySem.W.nsIn K mainGlobals "_law_pair_in" = some (some (.ref x_l_pair_in)))
    (l_l_pair_in : K.lookup x_l_pair_in = some ⟨oc_l_pair_in, od_l_pair_in, .func (PySem.W.fnOf "_law_pair_in" "_law_pair_in" (defArgs s_l_pair_in) (defBody s_l_pair_in) (defScope s_l_pair_in) .none kV_l_pair_in dc_l_pair_in pm_l_pair_in an_l_pair_in cd_l_pair_in ct_l_pair_in), osl_l_pair_in⟩)
    (c_l_pair_in : PySem.W.codeIn K cd_l_pair_in "_law_pair_in" = true)
    (k_l_pair_in : PySem.W.keepIn K (.ref x_l_pair_in) = true)
    (n_l_is_long : PySem.W.nsIn K mainGlobals "_law_is_long" = some (some (.ref x_l_is_long)))
    (l_l_is_long : K.lookup x_l_is_long = some ⟨oc_l_is_long, od_l_is_long, .func (PySem.W.fnOf "_law_is_long" "_law_is_long" (defArgs s_l_is_long) (defBody s_l_is_long) (defScope s_l_is_long) .none kV_l_is_long dc_l_is_long pm_l_is_long an_l_is_long cd_l_is_long ct_l_is_long), osl_l_is_long⟩)
    (c_l_is_long : PySem.W.codeIn K cd_l_is_long "_law_is_long" = true)
    (k_l_is_long : PySem.W.keepIn K (.ref x_l_is_long) = true)
    (n_l_text_right : PySem.W.nsIn K mainGlobals "_law_text_right" = some (some (.ref x_l_text_right)))
    (l_l_text_right : K.lookup x_l_text_right = some ⟨oc_l_text_right, od_l_text_right, .func (PySem.W.fnOf "_law_text_right" "_law_text_right" (defArgs s_l_text_right) (defBody s_l_text_right) (defScope s_l_text_right) .none kV_l_text_right dc_l_text_right pm_l_text_right an_l_text_right (.ref cA_l_text_right) ct_l_text_right), osl_l_text_right⟩)
    (c_l_text_right : PySem.W.codeIn K (.ref cA_l_text_right) "_law_text_right" = true)
    (t_l_text_right : K.lookup cA_l_text_right = some ⟨cl_l_text_right, cD_l_text_right, .fields cV_l_text_right, cS_l_text_right⟩)
    (u_l_text_right : cV_l_text_right[11]? = some (.ref PA_l_text_right))
    (o_l_text_right : K.lookup PA_l_text_right = none)
    (r_l_text_right : ((recsOf q).find? (fun e => e.name == ("_law_text_right" : Str))).isSome = true)
    (k_l_text_right : PySem.W.keepIn K (.ref x_l_text_right) = true)
    (n_l_bent : PySem.W.nsIn K mainGlobals "_law_bent" = some (some (.ref x_l_bent)))
    (l_l_bent : K.lookup x_l_bent = some ⟨oc_l_bent, od_l_bent, .func (PySem.W.fnOf "_law_bent" "_law_bent" (defArgs s_l_bent) (defBody s_l_bent) (defScope s_l_bent) .none kV_l_bent dc_l_bent pm_l_bent an_l_bent cd_l_bent ct_l_bent), osl_l_bent⟩)
    (c_l_bent : PySem.W.codeIn K cd_l_bent "_law_bent" = true)
    (k_l_bent : PySem.W.keepIn K (.ref x_l_bent) = true)
    (n_l_repr_due : PySem.W.nsIn K mainGlobals "_law_repr_due" = some (some (.ref x_l_repr_due)))
    (l_l_repr_due : K.lookup x_l_repr_due = some ⟨oc_l_repr_due, od_l_repr_due, .func (PySem.W.fnOf "_law_repr_due" "_law_repr_due" (defArgs s_l_repr_due) (defBody s_l_repr_due) (defScope s_l_repr_due) .none kV_l_repr_due dc_l_repr_due pm_l_repr_due an_l_repr_due cd_l_repr_due ct_l_repr_due), osl_l_repr_due⟩)
    (c_l_repr_due : PySem.W.codeIn K cd_l_repr_due "_law_repr_due" = true)
    (k_l_repr_due : PySem.W.keepIn K (.ref x_l_repr_due) = true)
    (n_l_fine : PySem.W.nsIn K mainGlobals "_law_fine" = some (some (.ref x_l_fine)))
    (l_l_fine : K.lookup x_l_fine = some ⟨oc_l_fine, od_l_fine, .func (PySem.W.fnOf "_law_fine" "_law_fine" (defArgs s_l_fine) (defBody s_l_fine) (defScope s_l_fine) .none kV_l_fine dc_l_fine pm_l_fine an_l_fine (.ref cA_l_fine) ct_l_fine), osl_l_fine⟩)
    (c_l_fine : PySem.W.codeIn K (.ref cA_l_fine) "_law_fine" = true)
    (t_l_fine : K.lookup cA_l_fine = some ⟨cl_l_fine, cD_l_fine, .fields cV_l_fine, cS_l_fine⟩)
    (u_l_fine : cV_l_fine[11]? = some (.ref PA_l_fine))
    (o_l_fine : K.lookup PA_l_fine = none)
    (r_l_fine : ((recsOf q).find? (fun e => e.name == ("_law_fine" : Str))).isSome = true)
    (k_l_fine : PySem.W.keepIn K (.ref x_l_fine) = true)
    (n_law : PySem.W.nsIn K mainGlobals "law" = some (some (.ref x_law)))
    (l_law : K.lookup x_law = some ⟨oc_law, od_law, .func (PySem.W.fnOf "law" "law" (defArgs s_law) (defBody s_law) (defScope s_law) .none kV_law dc_law pm_law an_law cd_law ct_law), osl_law⟩)
    (c_law : PySem.W.codeIn K cd_law "law" = true)
    (k_law : PySem.W.keepIn K (.ref x_law) = true)
    (w_str : PySem.W.subIn K (.ref C_Worth) (.type "str") = some false)
    (w_tuple : PySem.W.subIn K (.ref C_Worth) (.type "tuple") = some false)
    (w_list : PySem.W.subIn K (.ref C_Worth) (.type "list") = some false)
    (w_dict : PySem.W.subIn K (.ref C_Worth) (.type "dict") = some false)
    (s_be : PySem.W.subIn K (.ref C_SlipError) (.type "BaseException") = some true)
    (s_ic : PySem.W.isClsIn K C_SlipError = true)
    (s_ty : PySem.W.typeIn K (.ref C_SlipError) = some (.type "type"))
    (s_BadText : PySem.W.subIn K (.ref C_BadText) (.ref C_SlipError) = some true)
    (neP : (PA_l_text_right == PA_l_fine) = false) :
    ∃ (cs : List (Addr × Addr × Str)) (sp : SpD), (∀ p ∈ cs, h.get? p.2.1 = some { cls := .none, data := .fields #[] }) ∧ (∀ p ∈ cs, K.lookup p.2.1 = none) ∧ (∀ p ∈ cs, PySem.W.CodeHd h p.1 p.2.1) ∧
        (∀ base : Heap, K.In base → base.Ns mainGlobals mg → (∀ p ∈ cs, LamX.TabB base mg p.1 p.2.1) → GR PySem.Challenge.pw_sharedslip_k04_texts_of_worths w K mg base fa 40 sp) ∧
        ∀ ns : List Int, ns.length ≤ 63 → (∀ z ∈ ns, Builtin.Int.intBits z ≤ 1048576) → sp [.lst (ns.map D.int)] (T0 cs) (fun x _ => x = .bl true) fun _ _ => False := by
  have e := hfa.symm.trans (PySem.W.mg_of X G n_law)
  cases e
  obtain ⟨ad, ead⟩ : ∃ ad : Ad, ad = { inst := PySem.W.kitOne K, own := ownW C_Worth, exm := fun S v => PySem.W.exmOne K v (.ref S), cls := [C_Worth], obj := [], exs := [C_BadText, C_BadWorth], at_ := fun i => ([f_slip, C_SlipError, C_Worth, 0, C_BadWorth, 0, C_BadText, p_above, p_below, x_is_integer, x_common_divisor, x_is_figures, x_Winit, x_Wnumber, x_Wunder, x_Wtext, x_Wof, x_Wrepr, x_Weq, x_l_jar, x_l_take, x_l_of, x_l_frac, x_l_whole, x_l_worth_text, x_l_caught, x_l_pair_in, x_l_is_long, x_l_text_right, x_l_bent, x_l_repr_due, x_l_fine, cA_l_text_right, PA_l_text_right, cA_l_fine, PA_l_fine, p_Wtext, p_Wof, p_Wnumber, p_Wunder] : List Addr).getD i 0, fdS := PySem.W.ksFn "__init__" "SlipError.__init__" (defArgs s_slip) (defBody s_slip) (defScope s_slip) .none kV_slip dc_slip pm_slip an_slip (.ref cda_slip) ct_slip cc_slip } := ⟨_, rfl⟩
  obtain ⟨d_l_text_right, hd_l_text_right⟩ := Option.isSome_iff_exists.1 r_l_text_right
  have tb_l_text_right := TAB _ _ _ _ hd_l_text_right (tabIn_of n_l_text_right l_l_text_right rfl t_l_text_right u_l_text_right)
  obtain ⟨d_l_fine, hd_l_fine⟩ := Option.isSome_iff_exists.1 r_l_fine
  have tb_l_fine := TAB _ _ _ _ hd_l_fine (tabIn_of n_l_fine l_l_fine rfl t_l_fine u_l_fine)
  refine ⟨[(cA_l_text_right, PA_l_text_right, q_l_text_right), (cA_l_fine, PA_l_fine, q_l_fine)], sp_law ad, ?_, ?_, ?_, fun base KB GB TB => ?_, fun ns hl hb => ⟨⟨ns, rfl, hb, hl, ?_, fun T' => rfl⟩⟩⟩
  · intro p hp
    rcases List.mem_cons.1 hp with rfl | hp; · exact tb_l_text_right.2
    rcases List.mem_cons.1 hp with rfl | hp; · exact tb_l_fine.2
    cases hp
  · intro p hp
    rcases List.mem_cons.1 hp with rfl | hp; · exact o_l_text_right
    rcases List.mem_cons.1 hp with rfl | hp; · exact o_l_fine
    cases hp
  · intro p hp
    rcases List.mem_cons.1 hp with rfl | hp; · exact tb_l_text_right.1
    rcases List.mem_cons.1 hp with rfl | hp; · exact tb_l_fine.1
    cases hp
  ·
    have clW : SlX.SCls K C_Worth := ⟨wpg, wic, wpo, wsa⟩
    have exBadText : ExC K C_BadText := ⟨⟨eBadTextga, eBadTextgg, eBadTextex, eBadTexthd⟩, eBadTextic, eBadTextca, ocn, oct, eBadTextob⟩
    have exBadWorth : ExC K C_BadWorth := ⟨⟨eBadWorthga, eBadWorthgg, eBadWorthex, eBadWorthhd⟩, eBadWorthic, eBadWorthca, ocn, oct, eBadWorthob⟩
    have SF : SlF PySem.Challenge.pw_sharedslip_k04_texts_of_worths K f_slip C_SlipError (PySem.W.ksFn "__init__" "SlipError.__init__" (defArgs s_slip) (defBody s_slip) (defScope s_slip) .none kV_slip dc_slip pm_slip an_slip (.ref cda_slip) ct_slip cc_slip) := ⟨⟨_, _, _, _, _, _, _, _, _, _, _, _, _, _, _, _, _, _, _, _, _, _, _, _, _, _, _, _, _, _, _, _, _, _, rfl, l_slip, c_slip, lc_slip, lv_slip, lf_slip, lcc_slip, cls_slip, rfl, rfl, rfl⟩, by decide +kernel, opq⟩
    have t : Tx PySem.Challenge.pw_sharedslip_k04_texts_of_worths w K mg base ad := by
      subst ead
      exact { hS := fun C h => (by have h := List.contains_iff_mem.1 h; simp only [List.mem_cons, List.not_mem_nil, or_false] at h; subst h; exact ⟨clW, ⟨wca, ocn, oct, e_ob⟩⟩), hE := fun C h => (by have h := List.contains_iff_mem.1 h; simp only [List.mem_cons, List.not_mem_nil, or_false] at h; rcases h with rfl | rfl; exact exBadText; exact exBadWorth), hO := fun C h => (by have h := List.contains_iff_mem.1 h; cases h), hI := fun _ _ _ h => h, n_isinstance := PySem.W.mg_none_of X G z_isinstance, n_int := PySem.W.mg_none_of X G z_int, n_bool := PySem.W.mg_none_of X G z_bool, n_all := PySem.W.mg_none_of X G z_all, gc_DIGITS := ⟨_, PySem.W.mg_of X G n_DIGITS⟩, sc_BadWorth := ⟨⟨⟨_, _, _, _, _, _, _, _, _, _, _, _, _, _, _, eBadWorthx, by rfl⟩, eBadWorthsa, eBadWorthex, eBadWorthty, eBadWorthk⟩, eBadWorthve, eBadWorthsub, eBadWorthsup, eBadWorthnov⟩, ic_BadWorth := n_slip_BadWorth, tI := ty_slip, slip := slip_init (k := 0) SF (PySem.W.mg_none_of X G z_super), slipB := L2.Binds.all fun us hl => match us, hl with | [_, _], _ => rfl, m_BadWorth := PySem.W.mg_of X G n_BadWorth, n_abs := PySem.W.mg_none_of X G z_abs, cl_Worth := clW, sl_above := ⟨sa_above, sg_above, st_above, sy_above, sx_above, by decide⟩, sl_below := ⟨sa_below, sg_below, st_below, sy_below, sx_below, by decide⟩, n_str := PySem.W.mg_none_of X G z_str, n_len := PySem.W.mg_none_of X G z_len, gc_MOST_SIGNS := ⟨_, PySem.W.mg_of X G n_MOST_SIGNS⟩, sc_BadText := ⟨⟨⟨_, _, _, _, _, _, _, _, _, _, _, _, _, _, _, eBadTextx, by rfl⟩, eBadTextsa, eBadTextex, eBadTextty, eBadTextk⟩, eBadTextve, eBadTextsub, eBadTextsup, eBadTextnov⟩, ic_BadText := n_slip_BadText, m_BadText := PySem.W.mg_of X G n_BadText, mk_Worth := ⟨mkWorth, n_Winit, i_Winit, kc_Worth⟩, m_Worth := PySem.W.mg_of X G n_Worth, k_Worth := kc_Worth, pr_Wtext := ⟨pa_Wtext, pg_Wtext, pt_Wtext, _, pr_Wtext⟩, m_SlipError := PySem.W.mg_of X G n_SlipError, hx_SlipError := fun _ _ h => h, m_l_caught := PySem.W.mg_of X G n_l_caught, k_l_caught := k_l_caught, st_Wof := ⟨sgt_Worth, srd_Worth, sfc_Wof, ⟨_, src_Wof⟩, skp_Wof⟩, n_repr := PySem.W.mg_none_of X G z_repr, hV := fun C h => (by have h := List.contains_iff_mem.1 h; simp only [List.mem_cons, List.not_mem_nil, or_false] at h; rcases h with rfl | rfl; exact ⟨exBadText, eBadTextnov⟩; exact ⟨exBadWorth, eBadWorthnov⟩), ow_Worth := ⟨sfW, wint⟩, e_Weq := n_Weq, e_Weqf := i_Weq, n_range := PySem.W.mg_none_of X G z_range, n_max := PySem.W.mg_none_of X G z_max, n_min := PySem.W.mg_none_of X G z_min }
    have oB : AdB ad := adB_one (K := K) (W := C_Worth) (es := [C_BadText, C_BadWorth]) (by rw [ead]) (by rw [ead]) (by rw [ead]) (by rw [ead]) (six (p := fun n => PySem.W.subIn K (.ref C_Worth) (.type n) = some false) wint wbool w_str w_tuple w_list w_dict) ⟨wic, wty⟩ (fun C hC => by simp only [List.mem_cons, List.not_mem_nil, or_false] at hC; rcases hC with rfl | rfl; exact ⟨eBadTextic, eBadTextty⟩; exact ⟨eBadWorthic, eBadWorthty⟩)
    have oW : AdW ad := { toAdB := oB, ws := by subst ead; exact List.contains_iff_mem.2 (List.mem_cons_self ..), wo := fun q hq => by subst ead; exact ownW_ok hq }
    have oX : AdX ad := { toAdW := oW, e1 := by subst ead; exact List.contains_iff_mem.2 (List.mem_cons_self ..), e2 := by subst ead; exact exm_of s_be s_ic s_ty s_BadText }
    have f_is_integer := fn_ok0 (sp := sp_is_integer ad) (P := PySem.Challenge.pw_sharedslip_k04_texts_of_worths) (w := w) (mg := mg) (base := base) l_is_integer c_is_integer S_is_integer (L2.Binds.all fun us hl => match us, hl with | [_], _ => rfl) (fun ds T Q E q => by have h := q.h; first | (obtain ⟨_, rfl, _⟩ := h; rfl) | (obtain ⟨_, _, rfl, _⟩ := h; rfl) | (obtain ⟨_, _, _, rfl, _⟩ := h; rfl) | (obtain ⟨_, _, _, _, rfl, _⟩ := h; rfl) | (obtain ⟨_, _, _, _, _, rfl, _⟩ := h; rfl) | (obtain ⟨_, _, _, _, _, _, rfl, _⟩ := h; rfl) | (obtain ⟨_, _, _, _, _, _, _, rfl, _⟩ := h; rfl) | (obtain ⟨_, _, _, _, _, _, _, _, rfl, _⟩ := h; rfl) | (obtain ⟨_, _, _, _, _, _, _, _, _, rfl, _⟩ := h; rfl) | (obtain ⟨_, _, _, _, _, _, _, _, _, _, rfl, _⟩ := h; rfl)) (fun A outer s H E b => w_is_integer t  b) (fun ds T Q E q => (h_is_integer oX.toAdW) q)
    have g_is_integer := GF.of (PySem.W.mg_of X G n_is_integer) k_is_integer f_is_integer
    have f_common_divisor := fn_ok0 (sp := sp_common_divisor ad) (P := PySem.Challenge.pw_sharedslip_k04_texts_of_worths) (w := w) (mg := mg) (base := base) l_common_divisor c_common_divisor S_common_divisor (L2.Binds.all fun us hl => match us, hl with | [_, _], _ => rfl) (fun ds T Q E q => by have h := q.h; first | (obtain ⟨_, rfl, _⟩ := h; rfl) | (obtain ⟨_, _, rfl, _⟩ := h; rfl) | (obtain ⟨_, _, _, rfl, _⟩ := h; rfl) | (obtain ⟨_, _, _, _, rfl, _⟩ := h; rfl) | (obtain ⟨_, _, _, _, _, rfl, _⟩ := h; rfl) | (obtain ⟨_, _, _, _, _, _, rfl, _⟩ := h; rfl) | (obtain ⟨_, _, _, _, _, _, _, rfl, _⟩ := h; rfl) | (obtain ⟨_, _, _, _, _, _, _, _, rfl, _⟩ := h; rfl) | (obtain ⟨_, _, _, _, _, _, _, _, _, rfl, _⟩ := h; rfl) | (obtain ⟨_, _, _, _, _, _, _, _, _, _, rfl, _⟩ := h; rfl)) (fun A outer s H E b => w_common_divisor t  b) (fun ds T Q E q => h_common_divisor q)
    have g_common_divisor := GF.of (PySem.W.mg_of X G n_common_divisor) k_common_divisor f_common_divisor
    have f_is_figures := fn_ok0 (sp := sp_is_figures ad) (P := PySem.Challenge.pw_sharedslip_k04_texts_of_worths) (w := w) (mg := mg) (base := base) l_is_figures c_is_figures S_is_figures (L2.Binds.all fun us hl => match us, hl with | [_], _ => rfl) (fun ds T Q E q => by have h := q.h; first | (obtain ⟨_, rfl, _⟩ := h; rfl) | (obtain ⟨_, _, rfl, _⟩ := h; rfl) | (obtain ⟨_, _, _, rfl, _⟩ := h; rfl) | (obtain ⟨_, _, _, _, rfl, _⟩ := h; rfl) | (obtain ⟨_, _, _, _, _, rfl, _⟩ := h; rfl) | (obtain ⟨_, _, _, _, _, _, rfl, _⟩ := h; rfl) | (obtain ⟨_, _, _, _, _, _, _, rfl, _⟩ := h; rfl) | (obtain ⟨_, _, _, _, _, _, _, _, rfl, _⟩ := h; rfl) | (obtain ⟨_, _, _, _, _, _, _, _, _, rfl, _⟩ := h; rfl) | (obtain ⟨_, _, _, _, _, _, _, _, _, _, rfl, _⟩ := h; rfl)) (fun A outer s H E b => w_is_figures t  b) (fun ds T Q E q => h_is_figures q)
    have g_is_figures := GF.of (PySem.W.mg_of X G n_is_figures) k_is_figures f_is_figures
    have FD_Winit : L2.FunD K "__init__" "Worth.__init__" (defArgs s_Winit) (defBody s_Winit) (defScope s_Winit) [.int 1] [] x_Winit _ := ⟨⟨_, _, _, _, _, _, _, _, _, _, rfl, l_Winit, c_Winit, .inr ⟨(fun z => nomatch z), _, _, [.int 1 tk_Winit], _, rfl, l_TWinit, rfl, .cons ⟨_, rfl⟩ .nil⟩, .inl rfl⟩, k_Winit⟩
    obtain ⟨ds_Winit1, v_Winit1, b_Winit1⟩ := FD_Winit.binds1 (ps := ["self", "number", "under"]) 2 0 (fun z => nomatch z) rfl (fun T kV doc pm an cdv ct us its h1 h2 => match us, its, h1, h2 with | [_, _], [_], _, _ => ⟨_, rfl, rfl⟩)
    have f_Winit1 : GR PySem.Challenge.pw_sharedslip_k04_texts_of_worths w K mg base ad.m_Winit 10 (sp1_Winit ad) := by
      rw [show ad.m_Winit = x_Winit by subst ead; rfl]
      exact fn_okR (sp := sp1_Winit ad) (dds := [.int 1]) (ws := [.int 1]) (P := PySem.Challenge.pw_sharedslip_k04_texts_of_worths) (w := w) (mg := mg) (base := base) l_Winit c_Winit S_Winit b_Winit1 v_Winit1 (fun _ _ => RDs.cons rfl (RDs.nil)) (fun ds T Q E q => len_Winit1 q) (fun A outer s H E b => w_Winit t g_is_integer g_common_divisor b) (fun ds T Q E q => h_Winit q.h)
    obtain ⟨ds_Winit2, v_Winit2, b_Winit2⟩ := FD_Winit.binds1 (ps := ["self", "number", "under"]) 3 1 (fun z => nomatch z) rfl (fun T kV doc pm an cdv ct us its h1 h2 => match us, its, h1, h2 with | [_, _, _], [_], _, _ => ⟨_, rfl, rfl⟩)
    have f_Winit2 : GR PySem.Challenge.pw_sharedslip_k04_texts_of_worths w K mg base ad.m_Winit 10 (sp_Winit ad) := by
      rw [show ad.m_Winit = x_Winit by subst ead; rfl]
      exact fn_okR (sp := sp_Winit ad) (dds := []) (ws := []) (P := PySem.Challenge.pw_sharedslip_k04_texts_of_worths) (w := w) (mg := mg) (base := base) l_Winit c_Winit S_Winit b_Winit2 v_Winit2 (fun _ _ => RDs.nil) (fun ds T Q E q => by rw [List.append_nil]; have h := q.h; first | (obtain ⟨_, rfl, _⟩ := h; rfl) | (obtain ⟨_, _, rfl, _⟩ := h; rfl) | (obtain ⟨_, _, _, rfl, _⟩ := h; rfl) | (obtain ⟨_, _, _, _, rfl, _⟩ := h; rfl) | (obtain ⟨_, _, _, _, _, rfl, _⟩ := h; rfl) | (obtain ⟨_, _, _, _, _, _, rfl, _⟩ := h; rfl) | (obtain ⟨_, _, _, _, _, _, _, rfl, _⟩ := h; rfl) | (obtain ⟨_, _, _, _, _, _, _, _, rfl, _⟩ := h; rfl) | (obtain ⟨_, _, _, _, _, _, _, _, _, rfl, _⟩ := h; rfl) | (obtain ⟨_, _, _, _, _, _, _, _, _, _, rfl, _⟩ := h; rfl)) (fun A outer s H E b => w_Winit t g_is_integer g_common_divisor b) (fun ds T Q E q => by rw [List.append_nil]; exact h_Winit q)
    have f_Wnumber : GR PySem.Challenge.pw_sharedslip_k04_texts_of_worths w K mg base ad.m_Wnumber 5 (sp_Wnumber ad) := by
      rw [show ad.m_Wnumber = x_Wnumber by subst ead; rfl]
      exact fn_ok0 (sp := sp_Wnumber ad) (P := PySem.Challenge.pw_sharedslip_k04_texts_of_worths) (w := w) (mg := mg) (base := base) l_Wnumber c_Wnumber S_Wnumber (L2.Binds.all fun us hl => match us, hl with | [_], _ => rfl) (fun ds T Q E q => by have h := q.h; first | (obtain ⟨_, rfl, _⟩ := h; rfl) | (obtain ⟨_, _, rfl, _⟩ := h; rfl) | (obtain ⟨_, _, _, rfl, _⟩ := h; rfl) | (obtain ⟨_, _, _, _, rfl, _⟩ := h; rfl) | (obtain ⟨_, _, _, _, _, rfl, _⟩ := h; rfl) | (obtain ⟨_, _, _, _, _, _, rfl, _⟩ := h; rfl) | (obtain ⟨_, _, _, _, _, _, _, rfl, _⟩ := h; rfl) | (obtain ⟨_, _, _, _, _, _, _, _, rfl, _⟩ := h; rfl) | (obtain ⟨_, _, _, _, _, _, _, _, _, rfl, _⟩ := h; rfl) | (obtain ⟨_, _, _, _, _, _, _, _, _, _, rfl, _⟩ := h; rfl)) (fun A outer s H E b => w_Wnumber t  b) (fun ds T Q E q => h_Wnumber q)
    have f_Wunder : GR PySem.Challenge.pw_sharedslip_k04_texts_of_worths w K mg base ad.m_Wunder 5 (sp_Wunder ad) := by
      rw [show ad.m_Wunder = x_Wunder by subst ead; rfl]
      exact fn_ok0 (sp := sp_Wunder ad) (P := PySem.Challenge.pw_sharedslip_k04_texts_of_worths) (w := w) (mg := mg) (base := base) l_Wunder c_Wunder S_Wunder (L2.Binds.all fun us hl => match us, hl with | [_], _ => rfl) (fun ds T Q E q => by have h := q.h; first | (obtain ⟨_, rfl, _⟩ := h; rfl) | (obtain ⟨_, _, rfl, _⟩ := h; rfl) | (obtain ⟨_, _, _, rfl, _⟩ := h; rfl) | (obtain ⟨_, _, _, _, rfl, _⟩ := h; rfl) | (obtain ⟨_, _, _, _, _, rfl, _⟩ := h; rfl) | (obtain ⟨_, _, _, _, _, _, rfl, _⟩ := h; rfl) | (obtain ⟨_, _, _, _, _, _, _, rfl, _⟩ := h; rfl) | (obtain ⟨_, _, _, _, _, _, _, _, rfl, _⟩ := h; rfl) | (obtain ⟨_, _, _, _, _, _, _, _, _, rfl, _⟩ := h; rfl) | (obtain ⟨_, _, _, _, _, _, _, _, _, _, rfl, _⟩ := h; rfl)) (fun A outer s H E b => w_Wunder t  b) (fun ds T Q E q => h_Wunder q)
    have f_Wtext : GR PySem.Challenge.pw_sharedslip_k04_texts_of_worths w K mg base ad.m_Wtext 5 (sp_Wtext ad) := by
      rw [show ad.m_Wtext = x_Wtext by subst ead; rfl]
      exact fn_ok0 (sp := sp_Wtext ad) (P := PySem.Challenge.pw_sharedslip_k04_texts_of_worths) (w := w) (mg := mg) (base := base) l_Wtext c_Wtext S_Wtext (L2.Binds.all fun us hl => match us, hl with | [_], _ => rfl) (fun ds T Q E q => by have h := q.h; first | (obtain ⟨_, rfl, _⟩ := h; rfl) | (obtain ⟨_, _, rfl, _⟩ := h; rfl) | (obtain ⟨_, _, _, rfl, _⟩ := h; rfl) | (obtain ⟨_, _, _, _, rfl, _⟩ := h; rfl) | (obtain ⟨_, _, _, _, _, rfl, _⟩ := h; rfl) | (obtain ⟨_, _, _, _, _, _, rfl, _⟩ := h; rfl) | (obtain ⟨_, _, _, _, _, _, _, rfl, _⟩ := h; rfl) | (obtain ⟨_, _, _, _, _, _, _, _, rfl, _⟩ := h; rfl) | (obtain ⟨_, _, _, _, _, _, _, _, _, rfl, _⟩ := h; rfl) | (obtain ⟨_, _, _, _, _, _, _, _, _, _, rfl, _⟩ := h; rfl)) (fun A outer s H E b => w_Wtext t  b) (fun ds T Q E q => h_Wtext q)
    have f_Wof : GR PySem.Challenge.pw_sharedslip_k04_texts_of_worths w K mg base ad.m_Wof 15 (sp_Wof ad) := by
      rw [show ad.m_Wof = x_Wof by subst ead; rfl]
      exact fn_ok0 (sp := sp_Wof ad) (P := PySem.Challenge.pw_sharedslip_k04_texts_of_worths) (w := w) (mg := mg) (base := base) l_Wof c_Wof S_Wof (L2.Binds.all fun us hl => match us, hl with | [_], _ => rfl) (fun ds T Q E q => by have h := q.h; first | (obtain ⟨_, rfl, _⟩ := h; rfl) | (obtain ⟨_, _, rfl, _⟩ := h; rfl) | (obtain ⟨_, _, _, rfl, _⟩ := h; rfl) | (obtain ⟨_, _, _, _, rfl, _⟩ := h; rfl) | (obtain ⟨_, _, _, _, _, rfl, _⟩ := h; rfl) | (obtain ⟨_, _, _, _, _, _, rfl, _⟩ := h; rfl) | (obtain ⟨_, _, _, _, _, _, _, rfl, _⟩ := h; rfl) | (obtain ⟨_, _, _, _, _, _, _, _, rfl, _⟩ := h; rfl) | (obtain ⟨_, _, _, _, _, _, _, _, _, rfl, _⟩ := h; rfl) | (obtain ⟨_, _, _, _, _, _, _, _, _, _, rfl, _⟩ := h; rfl)) (fun A outer s H E b => w_Wof t g_is_figures f_Winit2 f_Wtext b) (fun ds T Q E q => (h_Wof oX.toAdW) q)
    have h_Wof__text : GK PySem.Challenge.pw_sharedslip_k04_texts_of_worths w K mg base ad.m_Wof 0 ["text"] 15 (fun ds => sp_Wof ad (permL [0] ds)) := by
      rw [show ad.m_Wof = x_Wof by subst ead; rfl]
      exact fn_okK (sp := sp_Wof ad) (is := [0]) (n := 0) (ks := ["text"]) l_Wof c_Wof S_Wof (fun us ws h1 h2 => match us, ws, h1, h2 with | [], [_], _, _ => rfl) (fun ds T Q E q => by have h := q.h; first | (obtain ⟨_, e, _⟩ := h; rw [e]; rfl) | (obtain ⟨_, _, e, _⟩ := h; rw [e]; rfl) | (obtain ⟨_, _, _, e, _⟩ := h; rw [e]; rfl) | (obtain ⟨_, _, _, _, e, _⟩ := h; rw [e]; rfl) | (obtain ⟨_, _, _, _, _, e, _⟩ := h; rw [e]; rfl)) (fun A outer s H E b => w_Wof t g_is_figures f_Winit2 f_Wtext b) (fun ds T Q E q => (h_Wof oX.toAdW) q)
    have f_Weq : GR PySem.Challenge.pw_sharedslip_k04_texts_of_worths w K mg base ad.m_Weq 5 (sp_Weq ad) := by
      rw [show ad.m_Weq = x_Weq by subst ead; rfl]
      exact fn_ok0 (sp := sp_Weq ad) (P := PySem.Challenge.pw_sharedslip_k04_texts_of_worths) (w := w) (mg := mg) (base := base) l_Weq c_Weq S_Weq (L2.Binds.all fun us hl => match us, hl with | [_, _], _ => rfl) (fun ds T Q E q => by have h := q.h; first | (obtain ⟨_, rfl, _⟩ := h; rfl) | (obtain ⟨_, _, rfl, _⟩ := h; rfl) | (obtain ⟨_, _, _, rfl, _⟩ := h; rfl) | (obtain ⟨_, _, _, _, rfl, _⟩ := h; rfl) | (obtain ⟨_, _, _, _, _, rfl, _⟩ := h; rfl) | (obtain ⟨_, _, _, _, _, _, rfl, _⟩ := h; rfl) | (obtain ⟨_, _, _, _, _, _, _, rfl, _⟩ := h; rfl) | (obtain ⟨_, _, _, _, _, _, _, _, rfl, _⟩ := h; rfl) | (obtain ⟨_, _, _, _, _, _, _, _, _, rfl, _⟩ := h; rfl) | (obtain ⟨_, _, _, _, _, _, _, _, _, _, rfl, _⟩ := h; rfl)) (fun A outer s H E b => w_Weq t  b) (fun ds T Q E q => (h_Weq oX.toAdW) q)
    have O : OwnR0 PySem.Challenge.pw_sharedslip_k04_texts_of_worths w K mg base 5 ad.own := ⟨fun C n xs tx ho => by
      rw [show ad.own = ownW C_Worth by rw [ead]] at ho
      obtain ⟨q, e1, rfl, rfl, rfl, hk⟩ := ownW_inv ho
      rw [e1]
      have F := fn_ok1 (sp := fun ds T Q _ => ds = [wq ad q] ∧ Q (.str (rText q)) T) (k := 4) (P := PySem.Challenge.pw_sharedslip_k04_texts_of_worths) (w := w) (mg := mg) (base := base) l_Wrepr c_Wrepr S_Wrepr (L2.Binds.all fun us hl => match us, hl with | [_], _ => rfl) (fun ds T Q E q => by obtain ⟨rfl, _⟩ := q; rfl) (fun A outer s H E => w_Wrepr t) (fun ds T Q E q2 => h_Wrepr ⟨q, q2.1, hk, q2.2⟩)
      refine ⟨x_Wrepr, n_Wrepr, i_Wrepr, ?_⟩
      have e : wq ad q = ownD C_Worth none [.int q.num, .int q.den] := by subst ead; rfl
      rw [← e]
      exact F⟩
    have f_l_jar := fn_ok0 (sp := sp_l_jar ad) (P := PySem.Challenge.pw_sharedslip_k04_texts_of_worths) (w := w) (mg := mg) (base := base) l_l_jar c_l_jar S_l_jar (L2.Binds.all fun us hl => match us, hl with | [_, _], _ => rfl) (fun ds T Q E q => by have h := q.h; first | (obtain ⟨_, rfl, _⟩ := h; rfl) | (obtain ⟨_, _, rfl, _⟩ := h; rfl) | (obtain ⟨_, _, _, rfl, _⟩ := h; rfl) | (obtain ⟨_, _, _, _, rfl, _⟩ := h; rfl) | (obtain ⟨_, _, _, _, _, rfl, _⟩ := h; rfl) | (obtain ⟨_, _, _, _, _, _, rfl, _⟩ := h; rfl) | (obtain ⟨_, _, _, _, _, _, _, rfl, _⟩ := h; rfl) | (obtain ⟨_, _, _, _, _, _, _, _, rfl, _⟩ := h; rfl) | (obtain ⟨_, _, _, _, _, _, _, _, _, rfl, _⟩ := h; rfl) | (obtain ⟨_, _, _, _, _, _, _, _, _, _, rfl, _⟩ := h; rfl)) (fun A outer s H E b => w_l_jar t  b) (fun ds T Q E q => h_l_jar q)
    have g_l_jar := GF.of (PySem.W.mg_of X G n_l_jar) k_l_jar f_l_jar
    have f_l_take := fn_ok0 (sp := sp_l_take ad) (P := PySem.Challenge.pw_sharedslip_k04_texts_of_worths) (w := w) (mg := mg) (base := base) l_l_take c_l_take S_l_take (L2.Binds.all fun us hl => match us, hl with | [_, _], _ => rfl) (fun ds T Q E q => by have h := q.h; first | (obtain ⟨_, rfl, _⟩ := h; rfl) | (obtain ⟨_, _, rfl, _⟩ := h; rfl) | (obtain ⟨_, _, _, rfl, _⟩ := h; rfl) | (obtain ⟨_, _, _, _, rfl, _⟩ := h; rfl) | (obtain ⟨_, _, _, _, _, rfl, _⟩ := h; rfl) | (obtain ⟨_, _, _, _, _, _, rfl, _⟩ := h; rfl) | (obtain ⟨_, _, _, _, _, _, _, rfl, _⟩ := h; rfl) | (obtain ⟨_, _, _, _, _, _, _, _, rfl, _⟩ := h; rfl) | (obtain ⟨_, _, _, _, _, _, _, _, _, rfl, _⟩ := h; rfl) | (obtain ⟨_, _, _, _, _, _, _, _, _, _, rfl, _⟩ := h; rfl)) (fun A outer s H E b => w_l_take t  b) (fun ds T Q E q => h_l_take q)
    have g_l_take := GF.of (PySem.W.mg_of X G n_l_take) k_l_take f_l_take
    have f_l_of := fn_ok0 (sp := sp_l_of ad) (P := PySem.Challenge.pw_sharedslip_k04_texts_of_worths) (w := w) (mg := mg) (base := base) l_l_of c_l_of S_l_of (L2.Binds.all fun us hl => match us, hl with | [_, _], _ => rfl) (fun ds T Q E q => by have h := q.h; first | (obtain ⟨_, rfl, _⟩ := h; rfl) | (obtain ⟨_, _, rfl, _⟩ := h; rfl) | (obtain ⟨_, _, _, rfl, _⟩ := h; rfl) | (obtain ⟨_, _, _, _, rfl, _⟩ := h; rfl) | (obtain ⟨_, _, _, _, _, rfl, _⟩ := h; rfl) | (obtain ⟨_, _, _, _, _, _, rfl, _⟩ := h; rfl) | (obtain ⟨_, _, _, _, _, _, _, rfl, _⟩ := h; rfl) | (obtain ⟨_, _, _, _, _, _, _, _, rfl, _⟩ := h; rfl) | (obtain ⟨_, _, _, _, _, _, _, _, _, rfl, _⟩ := h; rfl) | (obtain ⟨_, _, _, _, _, _, _, _, _, _, rfl, _⟩ := h; rfl)) (fun A outer s H E b => w_l_of t g_l_take b) (fun ds T Q E q => h_l_of q)
    have g_l_of := GF.of (PySem.W.mg_of X G n_l_of) k_l_of f_l_of
    have f_l_frac := fn_ok0 (sp := sp_l_frac ad) (P := PySem.Challenge.pw_sharedslip_k04_texts_of_worths) (w := w) (mg := mg) (base := base) l_l_frac c_l_frac S_l_frac (L2.Binds.all fun us hl => match us, hl with | [_, _], _ => rfl) (fun ds T Q E q => by have h := q.h; first | (obtain ⟨_, rfl, _⟩ := h; rfl) | (obtain ⟨_, _, rfl, _⟩ := h; rfl) | (obtain ⟨_, _, _, rfl, _⟩ := h; rfl) | (obtain ⟨_, _, _, _, rfl, _⟩ := h; rfl) | (obtain ⟨_, _, _, _, _, rfl, _⟩ := h; rfl) | (obtain ⟨_, _, _, _, _, _, rfl, _⟩ := h; rfl) | (obtain ⟨_, _, _, _, _, _, _, rfl, _⟩ := h; rfl) | (obtain ⟨_, _, _, _, _, _, _, _, rfl, _⟩ := h; rfl) | (obtain ⟨_, _, _, _, _, _, _, _, _, rfl, _⟩ := h; rfl) | (obtain ⟨_, _, _, _, _, _, _, _, _, _, rfl, _⟩ := h; rfl)) (fun A outer s H E b => w_l_frac t  b) (fun ds T Q E q => h_l_frac q)
    have g_l_frac := GF.of (PySem.W.mg_of X G n_l_frac) k_l_frac f_l_frac
    have f_l_whole := fn_ok0 (sp := sp_l_whole ad) (P := PySem.Challenge.pw_sharedslip_k04_texts_of_worths) (w := w) (mg := mg) (base := base) l_l_whole c_l_whole S_l_whole (L2.Binds.all fun us hl => match us, hl with | [_], _ => rfl) (fun ds T Q E q => by have h := q.h; first | (obtain ⟨_, rfl, _⟩ := h; rfl) | (obtain ⟨_, _, rfl, _⟩ := h; rfl) | (obtain ⟨_, _, _, rfl, _⟩ := h; rfl) | (obtain ⟨_, _, _, _, rfl, _⟩ := h; rfl) | (obtain ⟨_, _, _, _, _, rfl, _⟩ := h; rfl) | (obtain ⟨_, _, _, _, _, _, rfl, _⟩ := h; rfl) | (obtain ⟨_, _, _, _, _, _, _, rfl, _⟩ := h; rfl) | (obtain ⟨_, _, _, _, _, _, _, _, rfl, _⟩ := h; rfl) | (obtain ⟨_, _, _, _, _, _, _, _, _, rfl, _⟩ := h; rfl) | (obtain ⟨_, _, _, _, _, _, _, _, _, _, rfl, _⟩ := h; rfl)) (fun A outer s H E b => w_l_whole t g_l_of g_l_take b) (fun ds T Q E q => h_l_whole q)
    have g_l_whole := GF.of (PySem.W.mg_of X G n_l_whole) k_l_whole f_l_whole
    have f_l_worth_text := fn_ok0 (sp := sp_l_worth_text ad) (P := PySem.Challenge.pw_sharedslip_k04_texts_of_worths) (w := w) (mg := mg) (base := base) l_l_worth_text c_l_worth_text S_l_worth_text (L2.Binds.all fun us hl => match us, hl with | [_], _ => rfl) (fun ds T Q E q => by have h := q.h; first | (obtain ⟨_, rfl, _⟩ := h; rfl) | (obtain ⟨_, _, rfl, _⟩ := h; rfl) | (obtain ⟨_, _, _, rfl, _⟩ := h; rfl) | (obtain ⟨_, _, _, _, rfl, _⟩ := h; rfl) | (obtain ⟨_, _, _, _, _, rfl, _⟩ := h; rfl) | (obtain ⟨_, _, _, _, _, _, rfl, _⟩ := h; rfl) | (obtain ⟨_, _, _, _, _, _, _, rfl, _⟩ := h; rfl) | (obtain ⟨_, _, _, _, _, _, _, _, rfl, _⟩ := h; rfl) | (obtain ⟨_, _, _, _, _, _, _, _, _, rfl, _⟩ := h; rfl) | (obtain ⟨_, _, _, _, _, _, _, _, _, _, rfl, _⟩ := h; rfl)) (fun A outer s H E b => w_l_worth_text t  b) (fun ds T Q E q => h_l_worth_text q)
    have g_l_worth_text := GF.of (PySem.W.mg_of X G n_l_worth_text) k_l_worth_text f_l_worth_text
    have f_l_pair_in := fn_ok0 (sp := sp_l_pair_in ad) (P := PySem.Challenge.pw_sharedslip_k04_texts_of_worths) (w := w) (mg := mg) (base := base) l_l_pair_in c_l_pair_in S_l_pair_in (L2.Binds.all fun us hl => match us, hl with | [_], _ => rfl) (fun ds T Q E q => by have h := q.h; first | (obtain ⟨_, rfl, _⟩ := h; rfl) | (obtain ⟨_, _, rfl, _⟩ := h; rfl) | (obtain ⟨_, _, _, rfl, _⟩ := h; rfl) | (obtain ⟨_, _, _, _, rfl, _⟩ := h; rfl) | (obtain ⟨_, _, _, _, _, rfl, _⟩ := h; rfl) | (obtain ⟨_, _, _, _, _, _, rfl, _⟩ := h; rfl) | (obtain ⟨_, _, _, _, _, _, _, rfl, _⟩ := h; rfl) | (obtain ⟨_, _, _, _, _, _, _, _, rfl, _⟩ := h; rfl) | (obtain ⟨_, _, _, _, _, _, _, _, _, rfl, _⟩ := h; rfl) | (obtain ⟨_, _, _, _, _, _, _, _, _, _, rfl, _⟩ := h; rfl)) (fun A outer s H E b => w_l_pair_in t g_l_frac g_l_worth_text b) (fun ds T Q E q => h_l_pair_in q)
    have g_l_pair_in := GF.of (PySem.W.mg_of X G n_l_pair_in) k_l_pair_in f_l_pair_in
    have f_l_is_long := fn_ok0 (sp := sp_l_is_long ad) (P := PySem.Challenge.pw_sharedslip_k04_texts_of_worths) (w := w) (mg := mg) (base := base) l_l_is_long c_l_is_long S_l_is_long (L2.Binds.all fun us hl => match us, hl with | [_], _ => rfl) (fun ds T Q E q => by have h := q.h; first | (obtain ⟨_, rfl, _⟩ := h; rfl) | (obtain ⟨_, _, rfl, _⟩ := h; rfl) | (obtain ⟨_, _, _, rfl, _⟩ := h; rfl) | (obtain ⟨_, _, _, _, rfl, _⟩ := h; rfl) | (obtain ⟨_, _, _, _, _, rfl, _⟩ := h; rfl) | (obtain ⟨_, _, _, _, _, _, rfl, _⟩ := h; rfl) | (obtain ⟨_, _, _, _, _, _, _, rfl, _⟩ := h; rfl) | (obtain ⟨_, _, _, _, _, _, _, _, rfl, _⟩ := h; rfl) | (obtain ⟨_, _, _, _, _, _, _, _, _, rfl, _⟩ := h; rfl) | (obtain ⟨_, _, _, _, _, _, _, _, _, _, rfl, _⟩ := h; rfl)) (fun A outer s H E b => w_l_is_long t  b) (fun ds T Q E q => h_l_is_long q)
    have g_l_is_long := GF.of (PySem.W.mg_of X G n_l_is_long) k_l_is_long f_l_is_long
    have bc_l_caught : L2.Binds K (PySem.W.fnOf "_law_caught" "_law_caught" (defArgs s_l_caught) (defBody s_l_caught) (defScope s_l_caught) .none kV_l_caught dc_l_caught pm_l_caught an_l_caught cd_l_caught ct_l_caught) ["_law_look"] [] := L2.Binds.all fun us hl => match us, hl with | [_], _ => rfl
    have l_l_text_right_ad : K.lookup x_l_text_right = some ⟨oc_l_text_right, od_l_text_right, .func (PySem.W.fnOf "_law_text_right" "_law_text_right" (defArgs s_l_text_right) (defBody s_l_text_right) (defScope s_l_text_right) .none kV_l_text_right dc_l_text_right pm_l_text_right an_l_text_right (.ref ad.c_l_text_right) ct_l_text_right), osl_l_text_right⟩ := by subst ead; exact l_l_text_right
    have c_l_text_right_ad : PySem.W.codeIn K (.ref ad.c_l_text_right) "_law_text_right" = true := by subst ead; exact c_l_text_right
    have f_l_text_right := fn_ok0 (sp := sp_l_text_right ad) (P := PySem.Challenge.pw_sharedslip_k04_texts_of_worths) (w := w) (mg := mg) (base := base) l_l_text_right_ad c_l_text_right_ad S_l_text_right (L2.Binds.all fun us hl => match us, hl with | [_], _ => rfl) (fun ds T Q E q => by have h := q.h; first | (obtain ⟨_, rfl, _⟩ := h; rfl) | (obtain ⟨_, _, rfl, _⟩ := h; rfl) | (obtain ⟨_, _, _, rfl, _⟩ := h; rfl) | (obtain ⟨_, _, _, _, rfl, _⟩ := h; rfl) | (obtain ⟨_, _, _, _, _, rfl, _⟩ := h; rfl) | (obtain ⟨_, _, _, _, _, _, rfl, _⟩ := h; rfl) | (obtain ⟨_, _, _, _, _, _, _, rfl, _⟩ := h; rfl) | (obtain ⟨_, _, _, _, _, _, _, _, rfl, _⟩ := h; rfl) | (obtain ⟨_, _, _, _, _, _, _, _, _, rfl, _⟩ := h; rfl) | (obtain ⟨_, _, _, _, _, _, _, _, _, _, rfl, _⟩ := h; rfl)) (fun A outer s H E b => w_l_text_right t g_l_is_long g_l_pair_in f_Wof f_Weq f_Winit2 f_Wtext O (show K.lookup ad.m_l_caught = _ by subst ead; exact l_l_caught) c_l_caught bc_l_caught (show LamX.TabB base mg ad.c_l_text_right ad.P_l_text_right by subst ead; exact TB (cA_l_text_right, PA_l_text_right, q_l_text_right) (by simp)) b) (fun ds T Q E q => (h_l_text_right oX) q)
    have g_l_text_right := GF.of (PySem.W.mg_of X G n_l_text_right) k_l_text_right f_l_text_right
    have f_l_bent := fn_ok0 (sp := sp_l_bent ad) (P := PySem.Challenge.pw_sharedslip_k04_texts_of_worths) (w := w) (mg := mg) (base := base) l_l_bent c_l_bent S_l_bent (L2.Binds.all fun us hl => match us, hl with | [_, _], _ => rfl) (fun ds T Q E q => by have h := q.h; first | (obtain ⟨_, rfl, _⟩ := h; rfl) | (obtain ⟨_, _, rfl, _⟩ := h; rfl) | (obtain ⟨_, _, _, rfl, _⟩ := h; rfl) | (obtain ⟨_, _, _, _, rfl, _⟩ := h; rfl) | (obtain ⟨_, _, _, _, _, rfl, _⟩ := h; rfl) | (obtain ⟨_, _, _, _, _, _, rfl, _⟩ := h; rfl) | (obtain ⟨_, _, _, _, _, _, _, rfl, _⟩ := h; rfl) | (obtain ⟨_, _, _, _, _, _, _, _, rfl, _⟩ := h; rfl) | (obtain ⟨_, _, _, _, _, _, _, _, _, rfl, _⟩ := h; rfl) | (obtain ⟨_, _, _, _, _, _, _, _, _, _, rfl, _⟩ := h; rfl)) (fun A outer s H E b => w_l_bent t g_l_take g_l_of b) (fun ds T Q E q => h_l_bent q)
    have g_l_bent := GF.of (PySem.W.mg_of X G n_l_bent) k_l_bent f_l_bent
    have f_l_repr_due := fn_ok0 (sp := sp_l_repr_due ad) (P := PySem.Challenge.pw_sharedslip_k04_texts_of_worths) (w := w) (mg := mg) (base := base) l_l_repr_due c_l_repr_due S_l_repr_due (L2.Binds.all fun us hl => match us, hl with | [_], _ => rfl) (fun ds T Q E q => by have h := q.h; first | (obtain ⟨_, rfl, _⟩ := h; rfl) | (obtain ⟨_, _, rfl, _⟩ := h; rfl) | (obtain ⟨_, _, _, rfl, _⟩ := h; rfl) | (obtain ⟨_, _, _, _, rfl, _⟩ := h; rfl) | (obtain ⟨_, _, _, _, _, rfl, _⟩ := h; rfl) | (obtain ⟨_, _, _, _, _, _, rfl, _⟩ := h; rfl) | (obtain ⟨_, _, _, _, _, _, _, rfl, _⟩ := h; rfl) | (obtain ⟨_, _, _, _, _, _, _, _, rfl, _⟩ := h; rfl) | (obtain ⟨_, _, _, _, _, _, _, _, _, rfl, _⟩ := h; rfl) | (obtain ⟨_, _, _, _, _, _, _, _, _, _, rfl, _⟩ := h; rfl)) (fun A outer s H E b => w_l_repr_due t  b) (fun ds T Q E q => h_l_repr_due q)
    have g_l_repr_due := GF.of (PySem.W.mg_of X G n_l_repr_due) k_l_repr_due f_l_repr_due
    have l_l_fine_ad : K.lookup x_l_fine = some ⟨oc_l_fine, od_l_fine, .func (PySem.W.fnOf "_law_fine" "_law_fine" (defArgs s_l_fine) (defBody s_l_fine) (defScope s_l_fine) .none kV_l_fine dc_l_fine pm_l_fine an_l_fine (.ref ad.c_l_fine) ct_l_fine), osl_l_fine⟩ := by subst ead; exact l_l_fine
    have c_l_fine_ad : PySem.W.codeIn K (.ref ad.c_l_fine) "_law_fine" = true := by subst ead; exact c_l_fine
    have f_l_fine := fn_ok0 (sp := sp_l_fine ad) (P := PySem.Challenge.pw_sharedslip_k04_texts_of_worths) (w := w) (mg := mg) (base := base) l_l_fine_ad c_l_fine_ad S_l_fine (L2.Binds.all fun us hl => match us, hl with | [_], _ => rfl) (fun ds T Q E q => by have h := q.h; first | (obtain ⟨_, rfl, _⟩ := h; rfl) | (obtain ⟨_, _, rfl, _⟩ := h; rfl) | (obtain ⟨_, _, _, rfl, _⟩ := h; rfl) | (obtain ⟨_, _, _, _, rfl, _⟩ := h; rfl) | (obtain ⟨_, _, _, _, _, rfl, _⟩ := h; rfl) | (obtain ⟨_, _, _, _, _, _, rfl, _⟩ := h; rfl) | (obtain ⟨_, _, _, _, _, _, _, rfl, _⟩ := h; rfl) | (obtain ⟨_, _, _, _, _, _, _, _, rfl, _⟩ := h; rfl) | (obtain ⟨_, _, _, _, _, _, _, _, _, rfl, _⟩ := h; rfl) | (obtain ⟨_, _, _, _, _, _, _, _, _, _, rfl, _⟩ := h; rfl)) (fun A outer s H E b => w_l_fine t g_l_frac g_l_whole g_l_take f_Winit2 g_l_worth_text f_Wtext g_l_repr_due f_Weq h_Wof__text g_l_text_right g_l_bent g_l_of f_Wof O (show K.lookup ad.m_l_caught = _ by subst ead; exact l_l_caught) c_l_caught bc_l_caught (show LamX.TabB base mg ad.c_l_fine ad.P_l_fine by subst ead; exact TB (cA_l_fine, PA_l_fine, q_l_fine) (by simp)) b) (fun ds T Q E q => (h_l_fine oX) q)
    have g_l_fine := GF.of (PySem.W.mg_of X G n_l_fine) k_l_fine f_l_fine
    have f_law := fn_ok0 (sp := sp_law ad) (P := PySem.Challenge.pw_sharedslip_k04_texts_of_worths) (w := w) (mg := mg) (base := base) l_law c_law S_law (L2.Binds.all fun us hl => match us, hl with | [_], _ => rfl) (fun ds T Q E q => by have h := q.h; first | (obtain ⟨_, rfl, _⟩ := h; rfl) | (obtain ⟨_, _, rfl, _⟩ := h; rfl) | (obtain ⟨_, _, _, rfl, _⟩ := h; rfl) | (obtain ⟨_, _, _, _, rfl, _⟩ := h; rfl) | (obtain ⟨_, _, _, _, _, rfl, _⟩ := h; rfl) | (obtain ⟨_, _, _, _, _, _, rfl, _⟩ := h; rfl) | (obtain ⟨_, _, _, _, _, _, _, rfl, _⟩ := h; rfl) | (obtain ⟨_, _, _, _, _, _, _, _, rfl, _⟩ := h; rfl) | (obtain ⟨_, _, _, _, _, _, _, _, _, rfl, _⟩ := h; rfl) | (obtain ⟨_, _, _, _, _, _, _, _, _, _, rfl, _⟩ := h; rfl)) (fun A outer s H E b => w_law t g_l_fine g_l_jar b) (fun ds T Q E q => h_law q)
    have g_law := GF.of (PySem.W.mg_of X G n_law) k_law f_law
    exact f_law
  · exact ⟨by subst ead; exact t0_1, by subst ead; exact (t0_2 neP).trans t0_1⟩
end K1
open PySem PySem.W PyProof.Rows
set_option maxRecDepth 100000 in
set_option maxHeartbeats 0 in
theorem PySem.Challenge.cw_sharedslip_k04_texts_of_worths_holds : PySem.Challenge.rw_sharedslip_k04_texts_of_worths.Holds := by
  w_on; o_law; k_head; (case hw => w_witness2)
  k_fill
  refine DL.walk_end (l := PySem.Challenge.rw_sharedslip_k04_texts_of_worths) (n := 63) (k := 40) rfl (by decide) rfl ⟨rfl, by decide, by decide⟩ (fun w h Y => PySem.W.km_in_of Y) ?F
  case F =>
    intro w mg fa h Y KX G hmg TAB
    refine' K1.all_mk KX G hmg TAB ?n_Worth ?wpg ?wic ?wpo ?wsa ?wca ?ocn ?oct ?e_ob ?wint ?wbool ?wty ?n_BadText ?n_SlipError ?eBadTextx ?eBadTextsa ?eBadTextex ?eBadTextty ?eBadTextk ?eBadTextve ?eBadTextsub ?eBadTextsup ?eBadTextnov ?eBadTextga ?eBadTextgg ?eBadTexthd ?eBadTextic ?eBadTextca ?eBadTextob ?n_BadWorth ?eBadWorthx ?eBadWorthsa ?eBadWorthex ?eBadWorthty ?eBadWorthk ?eBadWorthve ?eBadWorthsub ?eBadWorthsup ?eBadWorthnov ?eBadWorthga ?eBadWorthgg ?eBadWorthhd ?eBadWorthic ?eBadWorthca ?eBadWorthob ?z_isinstance ?z_int ?z_bool ?z_all ?n_DIGITS ?n_slip_BadWorth ?ty_slip ?l_slip ?c_slip ?lc_slip ?lv_slip ?lf_slip ?lcc_slip ?cls_slip ?opq ?z_super ?z_abs ?sa_above ?sg_above ?st_above ?sy_above ?sx_above ?sa_below ?sg_below ?st_below ?sy_below ?sx_below ?z_str ?z_len ?n_MOST_SIGNS ?n_slip_BadText ?n_Winit ?i_Winit ?l_Winit ?c_Winit ?k_Winit ?l_TWinit ?mkWorth ?kc_Worth ?pa_Wtext ?pg_Wtext ?pt_Wtext ?pr_Wtext ?l_Wtext ?c_Wtext ?n_l_caught ?l_l_caught ?c_l_caught ?k_l_caught ?sgt_Worth ?srd_Worth ?sfc_Wof ?src_Wof ?l_Wof ?c_Wof ?skp_Wof ?z_repr ?sfW ?n_Weq ?i_Weq ?l_Weq ?c_Weq ?z_range ?z_max ?z_min ?n_is_integer ?l_is_integer ?c_is_integer ?k_is_integer ?n_common_divisor ?l_common_divisor ?c_common_divisor ?k_common_divisor ?n_is_figures ?l_is_figures ?c_is_figures ?k_is_figures ?pa_Wnumber ?pg_Wnumber ?pt_Wnumber ?pr_Wnumber ?l_Wnumber ?c_Wnumber ?pa_Wunder ?pg_Wunder ?pt_Wunder ?pr_Wunder ?l_Wunder ?c_Wunder ?n_Wrepr ?i_Wrepr ?l_Wrepr ?c_Wrepr ?n_l_jar ?l_l_jar ?c_l_jar ?k_l_jar ?n_l_take ?l_l_take ?c_l_take ?k_l_take ?n_l_of ?l_l_of ?c_l_of ?k_l_of ?n_l_frac ?l_l_frac ?c_l_frac ?k_l_frac ?n_l_whole ?l_l_whole ?c_l_whole ?k_l_whole ?n_l_worth_text ?l_l_worth_text ?c_l_worth_text ?k_l_worth_text ?n_l_pair_in ?l_l_pair_in ?c_l_pair_in ?k_l_pair_in ?n_l_is_long ?l_l_is_long ?c_l_is_long ?k_l_is_long ?n_l_text_right ?l_l_text_right ?c_l_text_right ?t_l_text_right ?u_l_text_right ?o_l_text_right ?r_l_text_right ?k_l_text_right ?n_l_bent ?l_l_bent ?c_l_bent ?k_l_bent ?n_l_repr_due ?l_l_repr_due ?c_l_repr_due ?k_l_repr_due ?n_l_fine ?l_l_fine ?c_l_fine ?t_l_fine ?u_l_fine ?o_l_fine ?r_l_fine ?k_l_fine ?n_law ?l_law ?c_law ?k_law ?w_str ?w_tuple ?w_list ?w_dict ?s_be ?s_ic ?s_ty ?s_BadText ?neP
    (case n_Worth => k_is); (case wpg => k_is); (case wic => k_is); (case wpo => k_is); (case wsa => k_is); (case wca => k_is); (case ocn => k_is); (case oct => k_is); (case e_ob => k_is); (case wint => k_is); (case wbool => k_is); (case wty => k_is); (case n_BadText => k_is); (case n_SlipError => k_is); (case eBadTextx => k_is); (case eBadTextsa => k_is); (case eBadTextex => k_is); (case eBadTextty => k_is); (case eBadTextk => k_is); (case eBadTextve => k_is); (case eBadTextsub => k_is); (case eBadTextsup => kernel_rfl); (case eBadTextnov => k_is); (case eBadTextga => k_is); (case eBadTextgg => k_is); (case eBadTexthd => k_is); (case eBadTextic => k_is); (case eBadTextca => k_is); (case eBadTextob => k_is); (case n_BadWorth => k_is); (case eBadWorthx => k_is); (case eBadWorthsa => k_is); (case eBadWorthex => k_is); (case eBadWorthty => k_is); (case eBadWorthk => k_is); (case eBadWorthve => k_is); (case eBadWorthsub => k_is); (case eBadWorthsup => kernel_rfl); (case eBadWorthnov => k_is); (case eBadWorthga => k_is); (case eBadWorthgg => k_is); (case eBadWorthhd => k_is); (case eBadWorthic => k_is); (case eBadWorthca => k_is); (case eBadWorthob => k_is); (case z_isinstance => k_is); (case z_int => k_is); (case z_bool => k_is); (case z_all => k_is); (case n_DIGITS => k_is); (case n_slip_BadWorth => k_is); (case ty_slip => k_is); (case l_slip => k_is); (case c_slip => k_is); (case lc_slip => k_is); (case lv_slip => rfl); (case lf_slip => first | rfl | decide); (case lcc_slip => k_is); (case cls_slip => k_is); (case opq => k_is); (case z_super => k_is); (case z_abs => k_is); (case sa_above => k_is); (case sg_above => k_is); (case st_above => k_is); (case sy_above => k_is); (case sx_above => k_is); (case sa_below => k_is); (case sg_below => k_is); (case st_below => k_is); (case sy_below => k_is); (case sx_below => k_is); (case z_str => k_is); (case z_len => k_is); (case n_MOST_SIGNS => k_is); (case n_slip_BadText => k_is); (case n_Winit => k_is); (case i_Winit => k_is); (case l_Winit => k_is); (case c_Winit => k_is); (case k_Winit => k_is); (case l_TWinit => k_is); (case mkWorth => k_is); (case kc_Worth => k_is); (case pa_Wtext => k_is); (case pg_Wtext => k_is); (case pt_Wtext => k_is); (case pr_Wtext => k_is); (case l_Wtext => k_is); (case c_Wtext => k_is); (case n_l_caught => k_is); (case l_l_caught => k_is); (case c_l_caught => k_is); (case k_l_caught => k_is); (case sgt_Worth => k_is); (case srd_Worth => k_is); (case sfc_Wof => k_is); (case src_Wof => k_is); (case l_Wof => k_is); (case c_Wof => k_is); (case skp_Wof => k_is); (case z_repr => k_is); (case sfW => k_is); (case n_Weq => k_is); (case i_Weq => k_is); (case l_Weq => k_is); (case c_Weq => k_is); (case z_range => k_is); (case z_max => k_is); (case z_min => k_is); (case n_is_integer => k_is); (case l_is_integer => k_is); (case c_is_integer => k_is); (case k_is_integer => k_is); (case n_common_divisor => k_is); (case l_common_divisor => k_is); (case c_common_divisor => k_is); (case k_common_divisor => k_is); (case n_is_figures => k_is); (case l_is_figures => k_is); (case c_is_figures => k_is); (case k_is_figures => k_is); (case pa_Wnumber => k_is); (case pg_Wnumber => k_is); (case pt_Wnumber => k_is); (case pr_Wnumber => k_is); (case l_Wnumber => k_is); (case c_Wnumber => k_is); (case pa_Wunder => k_is); (case pg_Wunder => k_is); (case pt_Wunder => k_is); (case pr_Wunder => k_is); (case l_Wunder => k_is); (case c_Wunder => k_is); (case n_Wrepr => k_is); (case i_Wrepr => k_is); (case l_Wrepr => k_is); (case c_Wrepr => k_is); (case n_l_jar => k_is); (case l_l_jar => k_is); (case c_l_jar => k_is); (case k_l_jar => k_is); (case n_l_take => k_is); (case l_l_take => k_is); (case c_l_take => k_is); (case k_l_take => k_is); (case n_l_of => k_is); (case l_l_of => k_is); (case c_l_of => k_is); (case k_l_of => k_is); (case n_l_frac => k_is); (case l_l_frac => k_is); (case c_l_frac => k_is); (case k_l_frac => k_is); (case n_l_whole => k_is); (case l_l_whole => k_is); (case c_l_whole => k_is); (case k_l_whole => k_is); (case n_l_worth_text => k_is); (case l_l_worth_text => k_is); (case c_l_worth_text => k_is); (case k_l_worth_text => k_is); (case n_l_pair_in => k_is); (case l_l_pair_in => k_is); (case c_l_pair_in => k_is); (case k_l_pair_in => k_is); (case n_l_is_long => k_is); (case l_l_is_long => k_is); (case c_l_is_long => k_is); (case k_l_is_long => k_is); (case n_l_text_right => k_is); (case l_l_text_right => k_is); (case c_l_text_right => k_is); (case t_l_text_right => k_is); (case u_l_text_right => rfl); (case o_l_text_right => kernel_rfl); (case r_l_text_right => kernel_rfl); (case k_l_text_right => k_is); (case n_l_bent => k_is); (case l_l_bent => k_is); (case c_l_bent => k_is); (case k_l_bent => k_is); (case n_l_repr_due => k_is); (case l_l_repr_due => k_is); (case c_l_repr_due => k_is); (case k_l_repr_due => k_is); (case n_l_fine => k_is); (case l_l_fine => k_is); (case c_l_fine => k_is); (case t_l_fine => k_is); (case u_l_fine => rfl); (case o_l_fine => kernel_rfl); (case r_l_fine => kernel_rfl); (case k_l_fine => k_is); (case n_law => k_is); (case l_law => k_is); (case c_law => k_is); (case k_law => k_is); (case w_str => k_is); (case w_tuple => k_is); (case w_list => k_is); (case w_dict => k_is); (case s_be => k_is); (case s_ic => k_is); (case s_ty => k_is); (case s_BadText => k_is); (case neP => kernel_rfl)
#print axioms PySem.Challenge.cw_sharedslip_k04_texts_of_worths_holds
